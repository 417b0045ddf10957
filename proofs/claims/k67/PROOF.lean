import PyProof.Rows.All
import Wide.All
import OpenK.AllK
import Wide.FinOn
import HandS.ForMost
import HandS.Flow
import HandS.Defaults
import HandS.IsInst
import HandS.Property
import HandS.OwnEq
import HandS.MakeKwOnly
import HandS.DictComp
import HandS.RaiseMore
import HandS.Style
import HandS.Walk
import HandS.Wide
import KE.KDictKeyed
import KE.KStateDown
import HandS.Head0
import HandS.Head1
import HandS.Head2
import HandS.HeadEnd
import HandS.HeadHook1
import HandS.HeadHook2
import HandS.HeadNt
import PySem.Challenge.RW_everypair_k67_whole_rings_parted
set_option Elab.async false
set_option linter.all false
set_option maxRecDepth 100000
set_option maxHeartbeats 4000000
namespace K67
open PySem PySem.Spec PyProof.Rows L2
def top (i : Nat) : Stmt := PySem.Challenge.pw_everypair_k67_whole_rings_parted.main.body.getD i (.Pass ⟨0, 0, 0, 0⟩)

/-! ### the readings, one step at a time: each is its own unfolding -/
section
variable {σ : L2.St} {H : Hp} {Q : VK} {D : Ends} {te ta tb tc : TE} {t u : TS} {g : TG} {v x y : V} {r : R2}
theorem r_var {i : Nat} (h : σ[i]? = some (some v)) (q : Q v H) : tVar i σ H Q := ⟨v, h, q⟩
theorem r_const (q : Q v H) : tC v σ H Q := q
theorem r_seq (q : t { D with nx := u D } σ H) : tSeq t u D σ H := q
theorem r_ret (q : te σ H D.rt) : tRet te D σ H := q
theorem r_drop (q : te σ H fun _ H1 => D.nx σ H1) : tDrop te D σ H := q
theorem r_asg (q : te σ H fun x H1 => g x σ H1 D.nx) : tAsg te g D σ H := q
theorem r_name {i : Nat} {R : L2.St → Hp → Prop} (q : R (σ.set i (some v)) H) : gName i v σ H R := q
theorem r_next (q : D.nx σ H) : tNext D σ H := q
theorem r_op (q : ta σ H fun x H1 => tb σ H1 fun y H2 => r x y H2 Q) : tOp r ta tb σ H Q := q
theorem r_un {f : V → Hp → VK → Prop} (q : ta σ H fun x H1 => f x H1 Q) : tUn f ta σ H Q := q
theorem r_test {R : Bool → Hp → Prop} (q : ta σ H fun x H1 => ∃ k, x = .bl k ∧ R k H1) : tTest ta σ H R := q
theorem r_tB {R : Bool → Hp → Prop} (q : ta σ H fun x H1 => ∃ k, x = .bl k ∧ R k H1) : tB ta σ H R := q
theorem r_bl {R : Bool → Hp → Prop} {k : Bool} (q : R k H) : ∃ k', V.bl k = .bl k' ∧ R k' H := ⟨k, rfl, q⟩
theorem r_ifS {c : TT} (q : c σ H fun b H1 => if b = true then t D σ H1 else u D σ H1) : tIfS c t u D σ H := q
theorem r_eq (h : scal x y = true) (q : Q (.bl (decide (x = y))) H) : rEq x y H Q := ⟨h, q⟩
theorem r_ne (h : scal x y = true) (q : Q (.bl (!decide (x = y))) H) : rNe x y H Q := ⟨h, q⟩
theorem r_cons {tr : TA} {R : List V → Hp → Prop} (q : ta σ H fun x H1 => tr σ H1 fun xs H2 => R (x :: xs) H2) : tCons ta tr σ H R := q
theorem r_nil {R : List V → Hp → Prop} (q : R [] H) : tNil σ H R := q
theorem r_cb {f : List V → Hp → VK → Prop} {tr : TA} (q : tr σ H fun vs H1 => f vs H1 Q) : tCB f tr σ H Q := q
theorem r_andT {c d : TT} {R : Bool → Hp → Prop} (q : c σ H fun b H1 => if b = true then d σ H1 R else R false H1) : tAnd c d σ H R := q
theorem r_orT {c d : TT} {R : Bool → Hp → Prop} (q : c σ H fun b H1 => if b = true then R true H1 else d σ H1 R) : tOr c d σ H R := q
theorem r_notT {c : TT} {R : Bool → Hp → Prop} (q : c σ H fun b H1 => R (!b) H1) : tNot c σ H R := q
theorem r_andV (q : ta σ H fun x H1 => ∃ c, x = .bl c ∧ if c = true then tb σ H1 Q else Q (.bl false) H1) : tAndV ta tb σ H Q := q
theorem r_orV (q : ta σ H fun x H1 => ∃ c, x = .bl c ∧ if c = true then Q (.bl true) H1 else tb σ H1 Q) : tOrV ta tb σ H Q := q
theorem r_notV (q : ta σ H fun x H1 => ∃ c, x = .bl c ∧ Q (.bl (!c)) H1) : tNotV ta σ H Q := q
theorem r_bl2 {k : Bool} {R : Bool → Prop} (q : R k) : ∃ c, V.bl k = .bl c ∧ R c := ⟨k, rfl, q⟩
theorem r_i0 {f : Int → Int → V} {i j : Int} (q : Q (f i j) H) : rI0 f (.int i) (.int j) H Q := ⟨i, j, rfl, rfl, q⟩
theorem r_isi {K : PySem.W.Frag} {x c : V} {t' u' : Value} {b : Bool} (h1 : ClsV c u') (h2 : TyX K H x t') (h3 : PySem.W.kitOne K t' u' = some b) (q : Q (.bl b) H) : rIsi K [x, c] H Q := ⟨x, c, t', u', b, rfl, h1, h2, h3, q⟩
theorem r_call {sp : Sp} {tr : TA} (q : tr σ H fun vs H1 => sp vs H1 Q E0) : tCall sp [] E0 tr σ H Q := by
  show tr σ H fun vs H1 => sp (vs ++ []) H1 Q E0
  simp only [List.append_nil]
  exact q
theorem r_tup {tr : TA} (q : tr σ H fun xs H1 => xs.length ≤ sizeLine ∧ ∀ p, H1 p = none → Q (.ref p) (upd H1 p (.tup xs))) : tTup tr σ H Q := q
theorem r_lst {tr : TA} (q : tr σ H fun xs H1 => xs.length ≤ sizeLine ∧ ∀ p, H1 p = none → Q (.ref p) (upd H1 p (.lst xs))) : tLst tr σ H Q := q
theorem if_t {A B : Prop} {b : Bool} (h : b = true) (a : A) : if b = true then A else B := by rw [if_pos h]; exact a
theorem if_f {A B : Prop} {b : Bool} (h : b = false) (q : B) : if b = true then A else B := by rw [h, if_neg Bool.false_ne_true]; exact q
theorem r_chain {r' : R2} (q : ta σ H fun x H1 => tb σ H1 fun y H2 => r x y H2 fun z H3 => ∃ k, z = .bl k ∧ (if k = true then tc σ H3 fun w' H4 => r' y w' H4 Q else Q (.bl false) H3)) : tChain r r' ta tb tc σ H Q := q
theorem r_iStr {R : It → Hp → Prop} (q : te σ H fun v H1 => ∃ x, v = .str x ∧ R (Its x) H1) : iStr te σ H R := q
theorem r_iList {K : PySem.W.Frag} {R : It → Hp → Prop} (q : te σ H fun x H1 => ∃ a, x = .ref a ∧ (∃ xs, SqL K H1 a xs) ∧ R (Itl K a) H1) : iList K te σ H R := q
theorem r_iTup {K : PySem.W.Frag} {R : It → Hp → Prop} (q : te σ H fun x H1 => ∃ a, x = .ref a ∧ (∃ xs, SqT K H1 a xs) ∧ R (Itt K a) H1) : iTup K te σ H R := q
theorem r_rng1 {ta : TA} {R : It → Hp → Prop} (q : ta σ H fun vs H1 => ∃ j : Int, vs = [.int j] ∧ -(2 ^ 62) ≤ j ∧ j < 2 ^ 62 ∧ R (Itr 0 j.toNat) H1) : iRng1 ta σ H R := q
theorem r_rng2 {ta : TA} {R : It → Hp → Prop} (q : ta σ H fun vs H1 => ∃ i j : Int, vs = [.int i, .int j] ∧ (-(2 ^ 62) ≤ i ∧ i < 2 ^ 62 ∧ -(2 ^ 62) ≤ j ∧ j < 2 ^ 62) ∧ R (Itr i (j - i).toNat) H1) : iRng2 ta σ H R := q
theorem r_lc {wi : TI} {tt : TT} {vs : List Nat} (q : wi σ H fun J H1 => ∀ D, H1 D = none → ∃ W : Nat → Nat → Hp → Prop, (∃ m, W 0 m (upd H1 D (.lst []))) ∧ ∀ i m H, W i m H →
  (J.stop i H ∧ Q (.ref D) H) ∨ (J.go i H ∧ ∃ Nx : Hp → Prop, (∀ H', Nx H' → ∃ m', m' < m ∧ W (i + 1) m' H') ∧ ∀ x H', J.yld i H x H' → g x (wipe σ vs) H' fun σ2 H2 => wipe σ2 vs = wipe σ vs ∧ tt σ2 H2 fun b H3 =>
    if b = true then te σ2 H3 fun y H4 => ∃ acc, H4 D = some (.lst acc) ∧ acc.length < sizeLine ∧ Nx (upd H4 D (.lst (acc ++ [y]))) else Nx H3)) : tLc wi g tt te vs σ H Q := q
theorem r_gtup {K : PySem.W.Frag} {n : Nat} {t : TGs} {a : Addr} {xs : List V} {R : L2.St → Hp → Prop} (h : SqT K H a xs) (l : xs.length = n) (q : t xs σ H R) : gTup K n t (.ref a) σ H R := ⟨a, xs, rfl, h, l, q⟩
theorem r_gcons {t : TG} {u : TGs} {r' : List V} {R : L2.St → Hp → Prop} (q : t v σ H fun σ' H' => u r' σ' H' R) : gCons t u (v :: r') σ H R := ⟨v, r', rfl, q⟩
theorem r_gnil {R : L2.St → Hp → Prop} (q : R σ H) : gNil [] σ H R := ⟨rfl, q⟩
theorem r_cont (q : D.ct σ H) : tCont D σ H := q
theorem r_bm {K : PySem.W.Frag} {T : String} {f : V → List V → Hp → VK → Prop} {tr : TA} (q : ta σ H fun x H1 => tyV K T x H1 ∧ tr σ H1 fun xs H2 => f x xs H2 Q) : tBM K T f ta tr σ H Q := q
theorem r_append {l : Addr} {xs : List V} (h : H l = some (.lst xs)) (z : xs.length < sizeLine) (q : Q .non (upd H l (.lst (xs ++ [v])))) : rAppend (.ref l) [v] H Q := ⟨l, xs, v, rfl, rfl, h, z, q⟩
theorem r_yes {R : Bool → Hp → Prop} (q : R true H) : tYes σ H R := q
theorem r_for {wi : TI} {tb : TS} (q : wi σ H fun J H1 => ∃ W : Nat → Nat → L2.St → Hp → Prop, (∃ m, W 0 m σ H1) ∧ ∀ i m σ H, W i m σ H →
  (J.stop i H ∧ D.nx σ H) ∨ (J.go i H ∧ ∃ N : L2.St → Hp → Prop, (∀ σ' H', N σ' H' → ∃ m', m' < m ∧ W (i + 1) m' σ' H') ∧ ∀ x H', J.yld i H x H' → g x σ H' fun σ2 H2 => tb { D with nx := N, ct := N, bk := D.nx } σ2 H2)) : tFor wi g tb D σ H := q
theorem r_aug {i : Nat} {ti : TIp} (h : σ[i]? = some (some v)) (q : te σ H fun y H1 => ti v y H1 fun z H2 => D.nx (σ.set i (some z)) H2) : tAug i te ti D σ H := ⟨v, h, q⟩
theorem r_par {i j : Nat} {tr : TA} (q : tr σ H fun vs H1 => ∃ v w, vs = [v, w] ∧ D.nx ((σ.set i (some v)).set j (some w)) H1) : tPar i j tr D σ H := q
theorem r_par3 {i j l : Nat} {tr : TA} (q : tr σ H fun vs H1 => ∃ u v w, vs = [u, v, w] ∧ D.nx (((σ.set i (some u)).set j (some v)).set l (some w)) H1) : tPar3 i j l tr D σ H := q
theorem r_two {v w : V} {R : V → V → Prop} (q : R v w) : ∃ v' w', [v, w] = [v', w'] ∧ R v' w' := ⟨v, w, rfl, q⟩
theorem r_three {u v w : V} {R : V → V → V → Prop} (q : R u v w) : ∃ u' v' w', [u, v, w] = [u', v', w'] ∧ R u' v' w' := ⟨u, v, w, rfl, q⟩
theorem r_ixL {K : PySem.W.Frag} {p : Addr} {xs : List V} {i : Int} (h : SqL K H p xs) (e : atI xs i = some v) (q : Q v H) : rIxL K (.ref p) (.int i) H Q := ⟨p, xs, i, v, rfl, rfl, h, e, q⟩
theorem r_ixT {K : PySem.W.Frag} {p : Addr} {xs : List V} {i : Int} (h : SqT K H p xs) (e : atI xs i = some v) (q : Q v H) : rIxT K (.ref p) (.int i) H Q := ⟨p, xs, i, v, rfl, rfl, h, e, q⟩
theorem r_unI {f : Int → V} {i : Int} (q : Q (f i) H) : rU f (.int i) H Q := ⟨i, rfl, q⟩
theorem r_isN (q : Q (.bl (decide (x = .non))) H) : (fun x y H Q => y = .non ∧ Q (.bl (decide (x = .non))) H : R2) x .non H Q := ⟨rfl, q⟩
theorem sz0 : (0 : Nat) ≤ sizeLine := by decide
theorem sz1 : (1 : Nat) ≤ sizeLine := by decide
theorem sz2 : (2 : Nat) ≤ sizeLine := by decide
theorem sz3 : (3 : Nat) ≤ sizeLine := by decide
theorem sz4 : (4 : Nat) ≤ sizeLine := by decide
theorem sz6 : (6 : Nat) ≤ sizeLine := by decide
theorem szK {n : Nat} (h : n ≤ 1000) : n ≤ sizeLine := Nat.le_of_lt (small1000 h)
theorem same_upd {p : Addr} {o : HO} (h : H p = none) : Same H (upd H p o) := fun a u e => by rw [upd_ne (ne_of_none e h)]; exact e
theorem same_upd' {H1 : Hp} {p : Addr} {o : HO} (s : Same H H1) (h : H1 p = none) : Same H (upd H1 p o) := s.trans (same_upd h)
/-- what grew at p since, changed again -/
theorem same_set {H1 : Hp} {p : Addr} {o : HO} (s : Same H H1) (h : H p = none) : Same H (upd H1 p o) := fun a u e => by
  rw [upd_ne (ne_of_none e h)]
  exact s a u e
theorem none_of {H1 : Hp} {p : Addr} (s : Same H H1) (h : H1 p = none) : H p = none := by
  cases e : H p with
  | none => rfl
  | some u => rw [s p u e] at h; cases h
theorem same_seqT {K : PySem.W.Frag} {H1 : Hp} {a : Addr} {xs : List V} (s : Same H H1) (h : SqT K H a xs) : SqT K H1 a xs := SqT.ext h s
end

/-! ### rules whose readings have a name -/
def rIs0 : R2 := fun x y H Q => y = .non ∧ Q (.bl (decide (x = .non))) H
def rIs1 : R2 := fun x y H Q => y = .non ∧ Q (.bl (!decide (x = .non))) H
def rLenSq (K : PySem.W.Frag) : List V → Hp → VK → Prop := fun xs H Q => ∃ p ys, xs = [.ref p] ∧ (SqL K H p ys ∨ SqT K H p ys) ∧ Q (.int ys.length) H
def rLenTx : List V → Hp → VK → Prop := fun xs H Q => ∃ z, xs = [.str z] ∧ z.length ≤ sizeLine ∧ Q (.int z.length) H
def rIntI : List V → Hp → VK → Prop := fun xs H Q => (∃ i, xs = [.int i] ∧ Q (.int i) H) ∨ ∃ k, xs = [.bl k] ∧ Q (.int (if k then 1 else 0)) H
def rLst (K : PySem.W.Frag) : List V → Hp → VK → Prop := fun xs H Q => ∃ p ys, xs = [.ref p] ∧ (SqL K H p ys ∨ SqT K H p ys) ∧ ∀ l, H l = none → Q (.ref l) (upd H l (.lst ys))
def rTpl (K : PySem.W.Frag) : List V → Hp → VK → Prop := fun xs H Q => ∃ p ys, xs = [.ref p] ∧ ((SqL K H p ys ∧ ∀ l, H l = none → Q (.ref l) (upd H l (.tup ys))) ∨ (SqT K H p ys ∧ Q (.ref p) H))
def rStrS : List V → Hp → VK → Prop := fun xs H Q => ∃ a, xs = [.str a] ∧ Q (.str a) H
def rMx : List V → Hp → VK → Prop := fun xs H Q => ∃ i j, xs = [.int i, .int j] ∧ Q (.int (if j > i then j else i)) H
def rAddT : R2 := fun x y H Q => ∃ i j, x = .str i ∧ y = .str j ∧ i.length + j.length ≤ sizeLine ∧ Q (.str (i ++ j)) H
def rNinC : R2 := fun x y H Q => ∃ (c : Nat) (z : Str), x = .str ⟨#[c]⟩ ∧ y = .str z ∧ Q (.bl (!decide (c ∈ z.cps.toList))) H
section
variable {X : Cx}
theorem op_is0 : OpR X (compareOp .Is) rIs0 := op_isN
theorem op_is1 : OpR X (compareOp .IsNot) rIs1 := op_notN
theorem call_lenS : CallR X (.builtin "len") (rLenSq X.K) := call_len_seq
theorem call_lenT : CallR X (.builtin "len") rLenTx := call_len_str
theorem call_intI : CallR X (.type "int") rIntI := call_int1
theorem call_lst : CallR X (.type "list") (rLst X.K) := call_list_of
theorem call_tpl : CallR X (.type "tuple") (rTpl X.K) := call_tuple_of
theorem call_strS : CallR X (.type "str") rStrS := SkE.call_str_str
theorem call_mx (hc : X.calm = true) : CallR X (.builtin "max") rMx := call_max2 hc
theorem op_addT : OpR X (binaryOp .Add) rAddT := op_add_str
theorem op_ninC : OpR X (compareOp .NotIn) rNinC := op_notIn_sign
end
theorem dec_str (a b : Str) : decide (V.str a = V.str b) = decide (a = b) := by
  by_cases e : a = b
  · rw [decide_eq_true e, e, decide_eq_true rfl]
  · rw [decide_eq_false e, decide_eq_false fun q => e (V.str.inj q)]
theorem dec_int (a b : Int) : decide (V.int a = V.int b) = decide (a = b) := by
  by_cases e : a = b
  · rw [decide_eq_true e, e, decide_eq_true rfl]
  · rw [decide_eq_false e, decide_eq_false fun q => e (V.int.inj q)]
/-- a text or a tuple against a text -/
def rEqTS (K : PySem.W.Frag) : R2 := fun x y H Q => (∃ a b, x = .str a ∧ y = .str b ∧ Q (.bl (decide (a = b))) H) ∨ ∃ t xs b, x = .ref t ∧ y = .str b ∧ SqT K H t xs ∧ Q (.bl false) H
def rNeTS (K : PySem.W.Frag) : R2 := fun x y H Q => (∃ a b, x = .str a ∧ y = .str b ∧ Q (.bl (!decide (a = b))) H) ∨ ∃ t xs b, x = .ref t ∧ y = .str b ∧ SqT K H t xs ∧ Q (.bl true) H
section
variable {X : Cx}
theorem op_eqTS (hu : X.A.units < cLine) : OpR X (compareOp .Eq) (rEqTS X.K) := by
  intro pins s σ H x y v u Q I rx ry h
  rcases h with ⟨a, b, rfl, rfl, q⟩ | ⟨t, xs, b, rfl, rfl, hT, q⟩
  · exact op_eq pins s σ H _ _ v u Q I rx ry ⟨rfl, by rw [dec_str]; exact q⟩
  · cases rx
    obtain ⟨tk, rfl⟩ := ry
    obtain ⟨its, r, ht, _⟩ := I.tuple hT
    exact SeqAt.RcAt.tuple_str b tk ht hu _ _ _ _ ⟨.bl false, H, I, rfl, q⟩
theorem op_neTS (hu : X.A.units < cLine) : OpR X (compareOp .NotEq) (rNeTS X.K) := by
  intro pins s σ H x y v u Q I rx ry h
  rcases h with ⟨a, b, rfl, rfl, q⟩ | ⟨t, xs, b, rfl, rfl, hT, q⟩
  · exact op_ne pins s σ H _ _ v u Q I rx ry ⟨rfl, by rw [dec_str]; exact q⟩
  · cases rx
    obtain ⟨tk, rfl⟩ := ry
    obtain ⟨its, r, ht, _⟩ := I.tuple hT
    exact SeqAt.RcNeAt.tuple_str b tk ht hu _ _ _ _ ⟨.bl true, H, I, rfl, q⟩
end
section
variable {K : PySem.W.Frag} {H : Hp} {Q : VK} {a b : Str} {t : Addr} {xs : List V}
theorem r_eqS (q : Q (.bl (decide (a = b))) H) : rEqTS K (.str a) (.str b) H Q := .inl ⟨a, b, rfl, rfl, q⟩
theorem r_eqT (h : SqT K H t xs) (q : Q (.bl false) H) : rEqTS K (.ref t) (.str b) H Q := .inr ⟨t, xs, b, rfl, rfl, h, q⟩
theorem r_neS (q : Q (.bl (!decide (a = b))) H) : rNeTS K (.str a) (.str b) H Q := .inl ⟨a, b, rfl, rfl, q⟩
theorem r_neT (h : SqT K H t xs) (q : Q (.bl true) H) : rNeTS K (.ref t) (.str b) H Q := .inr ⟨t, xs, b, rfl, rfl, h, q⟩
end
section
variable {H : Hp} {Q : VK} {x : V}
theorem r_is0 (q : Q (.bl (decide (x = .non))) H) : rIs0 x .non H Q := ⟨rfl, q⟩
theorem r_is1 (q : Q (.bl (!decide (x = .non))) H) : rIs1 x .non H Q := ⟨rfl, q⟩
theorem r_lenL {K : PySem.W.Frag} {p : Addr} {ys : List V} (h : SqL K H p ys) (q : Q (.int ys.length) H) : rLenSq K [.ref p] H Q := ⟨p, ys, rfl, .inl h, q⟩
theorem r_lenP {K : PySem.W.Frag} {p : Addr} {ys : List V} (h : SqT K H p ys) (q : Q (.int ys.length) H) : rLenSq K [.ref p] H Q := ⟨p, ys, rfl, .inr h, q⟩
theorem r_lenT {z : Str} (h : z.length ≤ sizeLine) (q : Q (.int z.length) H) : rLenTx [.str z] H Q := ⟨z, rfl, h, q⟩
theorem r_intI {i : Int} (q : Q (.int i) H) : rIntI [.int i] H Q := .inl ⟨i, rfl, q⟩
theorem r_intB {k : Bool} (q : Q (.int (if k then 1 else 0)) H) : rIntI [.bl k] H Q := .inr ⟨k, rfl, q⟩
theorem r_lstL {K : PySem.W.Frag} {p : Addr} {ys : List V} (h : SqL K H p ys) (q : ∀ l, H l = none → Q (.ref l) (upd H l (.lst ys))) : rLst K [.ref p] H Q := ⟨p, ys, rfl, .inl h, q⟩
theorem r_lstP {K : PySem.W.Frag} {p : Addr} {ys : List V} (h : SqT K H p ys) (q : ∀ l, H l = none → Q (.ref l) (upd H l (.lst ys))) : rLst K [.ref p] H Q := ⟨p, ys, rfl, .inr h, q⟩
theorem r_tplL {K : PySem.W.Frag} {p : Addr} {ys : List V} (h : SqL K H p ys) (q : ∀ l, H l = none → Q (.ref l) (upd H l (.tup ys))) : rTpl K [.ref p] H Q := ⟨p, ys, rfl, .inl ⟨h, q⟩⟩
theorem r_strS {z : Str} (q : Q (.str z) H) : rStrS [.str z] H Q := ⟨z, rfl, q⟩
theorem r_mx {i j : Int} (q : Q (.int (if j > i then j else i)) H) : rMx [.int i, .int j] H Q := ⟨i, j, rfl, q⟩
theorem r_addT {i j : Str} (h : i.length + j.length ≤ sizeLine) (q : Q (.str (i ++ j)) H) : rAddT (.str i) (.str j) H Q := ⟨i, j, rfl, rfl, h, q⟩
end
/-! ### promises by the number of arguments -/
abbrev Sp1 (R : V → Hp → VK → Prop) : Sp := fun vs H Q _ => ∃ a, vs = [a] ∧ R a H Q
abbrev Sp2 (R : V → V → Hp → VK → Prop) : Sp := fun vs H Q _ => ∃ a b, vs = [a, b] ∧ R a b H Q
abbrev Sp3 (R : V → V → V → Hp → VK → Prop) : Sp := fun vs H Q _ => ∃ a b c, vs = [a, b, c] ∧ R a b c H Q
abbrev Sp4 (R : V → V → V → V → Hp → VK → Prop) : Sp := fun vs H Q _ => ∃ a b c d, vs = [a, b, c, d] ∧ R a b c d H Q
abbrev Sp5 (R : V → V → V → V → V → Hp → VK → Prop) : Sp := fun vs H Q _ => ∃ a b c d e, vs = [a, b, c, d, e] ∧ R a b c d e H Q
abbrev Sp6 (R : V → V → V → V → V → V → Hp → VK → Prop) : Sp := fun vs H Q _ => ∃ a b c d e f, vs = [a, b, c, d, e, f] ∧ R a b c d e f H Q
section
variable {H : Hp} {Q : VK} {E : XK} {a b c d e f : V} {vs : List V}
theorem sp1 {R : V → Hp → VK → Prop} (q : R a H Q) : Sp1 R [a] H Q E := ⟨a, rfl, q⟩
theorem sp2 {R : V → V → Hp → VK → Prop} (q : R a b H Q) : Sp2 R [a, b] H Q E := ⟨a, b, rfl, q⟩
theorem sp3 {R : V → V → V → Hp → VK → Prop} (q : R a b c H Q) : Sp3 R [a, b, c] H Q E := ⟨a, b, c, rfl, q⟩
theorem sp4 {R : V → V → V → V → Hp → VK → Prop} (q : R a b c d H Q) : Sp4 R [a, b, c, d] H Q E := ⟨a, b, c, d, rfl, q⟩
theorem sp5 {R : V → V → V → V → V → Hp → VK → Prop} (q : R a b c d e H Q) : Sp5 R [a, b, c, d, e] H Q E := ⟨a, b, c, d, e, rfl, q⟩
theorem sp6 {R : V → V → V → V → V → V → Hp → VK → Prop} (q : R a b c d e f H Q) : Sp6 R [a, b, c, d, e, f] H Q E := ⟨a, b, c, d, e, f, rfl, q⟩
theorem len1 {R : V → Hp → VK → Prop} : ∀ vs H Q E, Sp1 R vs H Q E → vs.length = 1 := by rintro _ _ _ _ ⟨_, rfl, _⟩; rfl
theorem len2 {R : V → V → Hp → VK → Prop} : ∀ vs H Q E, Sp2 R vs H Q E → vs.length = 2 := by rintro _ _ _ _ ⟨_, _, rfl, _⟩; rfl
theorem len3 {R : V → V → V → Hp → VK → Prop} : ∀ vs H Q E, Sp3 R vs H Q E → vs.length = 3 := by rintro _ _ _ _ ⟨_, _, _, rfl, _⟩; rfl
theorem len4 {R : V → V → V → V → Hp → VK → Prop} : ∀ vs H Q E, Sp4 R vs H Q E → vs.length = 4 := by rintro _ _ _ _ ⟨_, _, _, _, rfl, _⟩; rfl
theorem len5 {R : V → V → V → V → V → Hp → VK → Prop} : ∀ vs H Q E, Sp5 R vs H Q E → vs.length = 5 := by rintro _ _ _ _ ⟨_, _, _, _, _, rfl, _⟩; rfl
theorem len6 {R : V → V → V → V → V → V → Hp → VK → Prop} : ∀ vs H Q E, Sp6 R vs H Q E → vs.length = 6 := by rintro _ _ _ _ ⟨_, _, _, _, _, _, rfl, _⟩; rfl
end

/-! ### what the top leaves -/
structure Bl (mg : Str → Option Value) : Prop where
  len_ : mg "len" = none
  isinstance_ : mg "isinstance" = none
  int_ : mg "int" = none
  bool_ : mg "bool" = none
  str_ : mg "str" = none
  list_ : mg "list" = none
  tuple_ : mg "tuple" = none
  set_ : mg "set" = none
  sorted_ : mg "sorted" = none
  range_ : mg "range" = none
  enumerate_ : mg "enumerate" = none
  sum_ : mg "sum" = none
  max_ : mg "max" = none
/-- a name of the module holds v -/
def Gv (mg : Str → Option Value) (x : Str) (v : V) : Prop := ∃ u, mg x = some u ∧ RelV v u
/-- the addresses of the top's classes and tables -/
structure Adr where
  cr : Addr
  co : Addr
  ct : Addr
  ht : Addr
  cm : Addr
  hm : Addr
  sd : Addr
structure Txt (mg : Str → Option Value) (D : Adr) : Prop where
  CALLER_TESTS : Gv mg "CALLER_TESTS" (.ref D.ct)
  HOST_TESTS : Gv mg "HOST_TESTS" (.ref D.ht)
  CALLER_MOVES : Gv mg "CALLER_MOVES" (.ref D.cm)
  HOST_MOVES : Gv mg "HOST_MOVES" (.ref D.hm)
  SIDES : Gv mg "SIDES" (.ref D.sd)
  Rule : Gv mg "Rule" (.ref D.cr)
  Role : Gv mg "Role" (.ref D.co)
  LETTERS : Gv mg "LETTERS" (.str "abcdefghijklmnopqrstuvwxyz")
  TIMEOUT : Gv mg "TIMEOUT" (.str "timeout")
  LONGEST_NAME : Gv mg "LONGEST_NAME" (.int 8)
theorem pe_gc {X : Cx} {x : Str} {pos : Pos} {v : V} (hg : Gl X x) (h : Gv X.mg x v) (hd : (x == ("__debug__" : Str)) = false := by decide) : PE X (.Name x pos) (tC v) :=
  let ⟨_, hm, r⟩ := h; pe_glob hg hm r hd

/-! ### rules and roles -/
def RuleAt (C : Addr) (H : Hp) (r : Addr) (row : List V) : Prop := ∃ dx t fs, H r = some (.ins C dx fs) ∧ fs.lookup ("fields" : Str) = some (.ref t) ∧ H t = some (.tup row)
theorem RuleAt.same {C : Addr} {H H' : Hp} {r : Addr} {row : List V} (s : Same H H') (h : RuleAt C H r row) : RuleAt C H' r row := by
  obtain ⟨dx, t, fs, h1, h2, h3⟩ := h
  exact ⟨dx, t, fs, s _ _ h1, h2, s _ _ h3⟩
structure RoleAt (C : Addr) (H : Hp) (o : Addr) (side first : Str) (rs : List Addr) (calm : List Str) : Prop where
  ex : ∃ dx fs t1 t2 t3, H o = some (.ins C dx fs) ∧ fs.lookup ("ends" : Str) = some (.ref t1) ∧ fs.lookup ("table" : Str) = some (.ref t2) ∧ fs.lookup ("calm" : Str) = some (.ref t3) ∧
    H t1 = some (.tup [.str side, .str first]) ∧ H t2 = some (.tup (rs.map V.ref)) ∧ H t3 = some (.tup (calm.map V.str))
theorem RoleAt.same {C : Addr} {H H' : Hp} {o : Addr} {side first : Str} {rs : List Addr} {calm : List Str} (s : Same H H') (h : RoleAt C H o side first rs calm) : RoleAt C H' o side first rs calm := by
  obtain ⟨dx, fs, t1, t2, t3, h1, e1, e2, e3, h2, h3, h4⟩ := h.ex
  exact ⟨dx, fs, t1, t2, t3, s _ _ h1, e1, e2, e3, s _ _ h2, s _ _ h3, s _ _ h4⟩
/-- a property f of the class at C that keeps sp -/
structure Getter (P : Program) (w : World) (K : PySem.W.Frag) (mg : Str → Option Value) (base : Heap) (C : Addr) (f : Str) (sp : Sp) : Prop where
  ex : ∃ p g fd, PropOf K C f p g ∧ FnOk P w K mg base CX0 1 g fd ["self"] sp ∧ Binds K fd ["self"] []
abbrev spR (C : Addr) (i : Nat) : Sp := Sp1 fun a H Q => ∃ r row v, a = .ref r ∧ RuleAt C H r row ∧ row[i]? = some v ∧ Q v H
structure RuleC (P : Program) (w : World) (K : PySem.W.Frag) (mg : Str → Option Value) (base : Heap) (C : Addr) : Prop where
  cl : Cls K C
  p0 : Getter P w K mg base C "mode" (spR C 0)
  p1 : Getter P w K mg base C "heard" (spR C 1)
  p2 : Getter P w K mg base C "which" (spR C 2)
  p3 : Getter P w K mg base C "then" (spR C 3)
  p4 : Getter P w K mg base C "move" (spR C 4)
  p5 : Getter P w K mg base C "send" (spR C 5)
def gSide : Str → Str → List Addr → List Str → Hp → VK → Prop := fun side _ _ _ H Q => Q (.str side) H
def gFirst : Str → Str → List Addr → List Str → Hp → VK → Prop := fun _ first _ _ H Q => Q (.str first) H
def gRules : Str → Str → List Addr → List Str → Hp → VK → Prop := fun _ _ rs _ H Q => rs.length ≤ 1000 ∧ ∀ p, H p = none → Q (.ref p) (upd H p (.lst (rs.map V.ref)))
def gSettled : Str → Str → List Addr → List Str → Hp → VK → Prop := fun _ _ _ calm H Q => calm.length ≤ 1000 ∧ ∀ p, H p = none → Q (.ref p) (upd H p (.lst (calm.map V.str)))
abbrev spG (C : Addr) (G : Str → Str → List Addr → List Str → Hp → VK → Prop) : Sp := Sp1 fun a H Q => ∃ o side first rs calm, a = .ref o ∧ RoleAt C H o side first rs calm ∧ G side first rs calm H Q
structure RoleC (P : Program) (w : World) (K : PySem.W.Frag) (mg : Str → Option Value) (base : Heap) (C : Addr) : Prop where
  cl : Cls K C
  side : Getter P w K mg base C "side" (spG C gSide)
  first : Getter P w K mg base C "first" (spG C gFirst)
  rules : Getter P w K mg base C "rules" (spG C gRules)
  settled : Getter P w K mg base C "settled" (spG C gSettled)
/-- e.f by such a property: R says what is asked of the value -/
def tGet (R : V → Hp → VK → Prop) (ta : TE) : TE := fun σ H Q => ta σ H fun x H1 => R x H1 Q
section
variable {X : Cx} {C : Addr} {e : Expr} {pos : Pos} {ta : TE}
theorem pe_get {f : Str} {sp : Sp} {R : V → Hp → VK → Prop} (c : Cls X.K C) (G : Getter X.prog X.w X.K X.mg X.base C f sp) (hr : Room 2 X.A) (he : PE X e ta)
    (m : ∀ x H1 Q, R x H1 Q → ∃ a dx fs, x = V.ref a ∧ H1 a = some (.ins C dx fs) ∧ sp [.ref a] H1 Q E0) (hab : attributeBase e f X.env (eval e X.env) = eval e X.env) : PE X (.Attribute e f pos) (tGet R ta) := by
  obtain ⟨p, g, fd, hp, F, hb⟩ := G.ex
  refine ⟨fun pins s σ H Q I h => attr_of hab (thn (he.run pins s σ H _ I h) fun u s1 ⟨x, H1, I1, rx, q⟩ => ?_)⟩
  obtain ⟨a, dx, fs, rfl, ea, q⟩ := m _ _ _ q
  obtain rfl : u = Value.ref a := rx
  exact getprop_ok I1 ea c hp F hr hb .nil pass0 q
/-- a rule's field -/
def rR (C : Addr) (i : Nat) : V → Hp → VK → Prop := fun x H Q => ∃ r row v, x = .ref r ∧ RuleAt C H r row ∧ row[i]? = some v ∧ Q v H
theorem rR_m {i : Nat} : ∀ x H1 Q, rR C i x H1 Q → ∃ a dx fs, x = V.ref a ∧ H1 a = some (.ins C dx fs) ∧ spR C i [.ref a] H1 Q E0 := by
  rintro x H1 Q ⟨r, row, v, rfl, h1, h2, h3⟩
  obtain ⟨dx, t, fs, g1, _⟩ := id h1
  exact ⟨r, dx, fs, rfl, g1, _, rfl, r, row, v, rfl, h1, h2, h3⟩
theorem pe_R0 (c : RuleC X.prog X.w X.K X.mg X.base C) (hr : Room 2 X.A) (he : PE X e ta) (hab : attributeBase e "mode" X.env (eval e X.env) = eval e X.env := by rfl) : PE X (.Attribute e "mode" pos) (tGet (rR C 0) ta) := pe_get c.cl c.p0 hr he rR_m hab
theorem pe_R1 (c : RuleC X.prog X.w X.K X.mg X.base C) (hr : Room 2 X.A) (he : PE X e ta) (hab : attributeBase e "heard" X.env (eval e X.env) = eval e X.env := by rfl) : PE X (.Attribute e "heard" pos) (tGet (rR C 1) ta) := pe_get c.cl c.p1 hr he rR_m hab
theorem pe_R2 (c : RuleC X.prog X.w X.K X.mg X.base C) (hr : Room 2 X.A) (he : PE X e ta) (hab : attributeBase e "which" X.env (eval e X.env) = eval e X.env := by rfl) : PE X (.Attribute e "which" pos) (tGet (rR C 2) ta) := pe_get c.cl c.p2 hr he rR_m hab
theorem pe_R3 (c : RuleC X.prog X.w X.K X.mg X.base C) (hr : Room 2 X.A) (he : PE X e ta) (hab : attributeBase e "then" X.env (eval e X.env) = eval e X.env := by rfl) : PE X (.Attribute e "then" pos) (tGet (rR C 3) ta) := pe_get c.cl c.p3 hr he rR_m hab
theorem pe_R4 (c : RuleC X.prog X.w X.K X.mg X.base C) (hr : Room 2 X.A) (he : PE X e ta) (hab : attributeBase e "move" X.env (eval e X.env) = eval e X.env := by rfl) : PE X (.Attribute e "move" pos) (tGet (rR C 4) ta) := pe_get c.cl c.p4 hr he rR_m hab
theorem pe_R5 (c : RuleC X.prog X.w X.K X.mg X.base C) (hr : Room 2 X.A) (he : PE X e ta) (hab : attributeBase e "send" X.env (eval e X.env) = eval e X.env := by rfl) : PE X (.Attribute e "send" pos) (tGet (rR C 5) ta) := pe_get c.cl c.p5 hr he rR_m hab
/-- what a role hands out -/
def rO (C : Addr) (G : Str → Str → List Addr → List Str → Hp → VK → Prop) : V → Hp → VK → Prop := fun x H Q => ∃ o side first rs calm, x = .ref o ∧ RoleAt C H o side first rs calm ∧ G side first rs calm H Q
theorem rO_m {G : Str → Str → List Addr → List Str → Hp → VK → Prop} : ∀ x H1 Q, rO C G x H1 Q → ∃ a dx fs, x = V.ref a ∧ H1 a = some (.ins C dx fs) ∧ (Sp1 fun a H Q => ∃ o side first rs calm, a = .ref o ∧ RoleAt C H o side first rs calm ∧ G side first rs calm H Q) [.ref a] H1 Q E0 := by
  rintro x H1 Q ⟨o, side, first, rs, calm, rfl, h1, h2⟩
  obtain ⟨dx, fs, t1, t2, t3, g1, _⟩ := id h1.ex
  exact ⟨o, dx, fs, rfl, g1, _, rfl, o, side, first, rs, calm, rfl, h1, h2⟩
theorem pe_side (c : RoleC X.prog X.w X.K X.mg X.base C) (hr : Room 2 X.A) (he : PE X e ta) (hab : attributeBase e "side" X.env (eval e X.env) = eval e X.env := by rfl) : PE X (.Attribute e "side" pos) (tGet (rO C gSide) ta) := pe_get c.cl c.side hr he rO_m hab
theorem pe_first (c : RoleC X.prog X.w X.K X.mg X.base C) (hr : Room 2 X.A) (he : PE X e ta) (hab : attributeBase e "first" X.env (eval e X.env) = eval e X.env := by rfl) : PE X (.Attribute e "first" pos) (tGet (rO C gFirst) ta) := pe_get c.cl c.first hr he rO_m hab
theorem pe_rules (c : RoleC X.prog X.w X.K X.mg X.base C) (hr : Room 2 X.A) (he : PE X e ta) (hab : attributeBase e "rules" X.env (eval e X.env) = eval e X.env := by rfl) : PE X (.Attribute e "rules" pos) (tGet (rO C gRules) ta) := pe_get c.cl c.rules hr he rO_m hab
theorem pe_settled (c : RoleC X.prog X.w X.K X.mg X.base C) (hr : Room 2 X.A) (he : PE X e ta) (hab : attributeBase e "settled" X.env (eval e X.env) = eval e X.env := by rfl) : PE X (.Attribute e "settled" pos) (tGet (rO C gSettled) ta) := pe_get c.cl c.settled hr he rO_m hab
end
section
variable {σ : L2.St} {H : Hp} {Q : VK} {ta : TE} {C o : Addr} {side first : Str} {rs : List Addr} {calm : List Str} {v : V}
theorem r_get {R : V → Hp → VK → Prop} (q : ta σ H fun x H1 => R x H1 Q) : tGet R ta σ H Q := q
theorem r_R {i : Nat} {r : Addr} {row : List V} (h : RuleAt C H r row) (e : row[i]? = some v) (q : Q v H) : rR C i (.ref r) H Q := ⟨r, row, v, rfl, h, e, q⟩
theorem r_side (h : RoleAt C H o side first rs calm) (q : Q (.str side) H) : rO C gSide (.ref o) H Q := ⟨o, side, first, rs, calm, rfl, h, q⟩
theorem r_first (h : RoleAt C H o side first rs calm) (q : Q (.str first) H) : rO C gFirst (.ref o) H Q := ⟨o, side, first, rs, calm, rfl, h, q⟩
theorem r_rules (h : RoleAt C H o side first rs calm) (l : rs.length ≤ 1000) (q : ∀ p, H p = none → Q (.ref p) (upd H p (.lst (rs.map V.ref)))) : rO C gRules (.ref o) H Q := ⟨o, side, first, rs, calm, rfl, h, l, q⟩
theorem r_settled (h : RoleAt C H o side first rs calm) (l : calm.length ≤ 1000) (q : ∀ p, H p = none → Q (.ref p) (upd H p (.lst (calm.map V.str)))) : rO C gSettled (.ref o) H Q := ⟨o, side, first, rs, calm, rfl, h, l, q⟩
end

/-- a def of the module by its name -/
structure Df (K : PySem.W.Frag) (mg : Str → Option Value) (x : Str) (i : Nat) : Prop where
  ex : ∃ f fd, FunD K x x (defArgs (top i)) (defBody (top i)) (defScope (top i)) [] [] f fd ∧ mg x = some (.ref f)
/-- .. that keeps a promise -/
structure Cal (P : Program) (w : World) (K : PySem.W.Frag) (mg : Str → Option Value) (base : Heap) (k : Nat) (x : Str) (sp : Sp) : Prop where
  ex : ∃ f fd ps, FnOk P w K mg base CX0 k f fd ps sp ∧ mg x = some (.ref f) ∧ PySem.W.keepIn K (.ref f) = true ∧ Binds K fd ps []
section
variable {P : Program} {w : World} {K : PySem.W.Frag} {mg : Str → Option Value} {base : Heap}
theorem pe_c {X : Cx} {k j : Nat} {x : Str} {sp : Sp} {p pos : Pos} {e : Expr} {es : List Expr} {t : TA} (c : Cal X.prog X.w X.K X.mg X.base k x sp) (hr : Room j X.A) (hk : k ≤ j) (hg : Gl X x) (ha : PA X (e :: es) t)
    (hdb : (x == ("__debug__" : Str)) = false := by decide) (he : starEach (e :: es) X.env = (false, eval e X.env) :: starEach es X.env := by rfl) (hpl : (backTo pos (starEach es X.env)).any (·.1) = false := by rfl) :
    PE X (.Call (.Name x p) (e :: es) [] pos) (tCall sp [] E0 t) := by
  obtain ⟨f, fd, ps, F, hm, kp, b⟩ := c.ex
  exact pe_call F (hr.mono hk) hg hm kp b .nil pass0 ha hdb he hpl
theorem mk_cal {x : Str} {i : Nat} {N ps : List Str} {k : Nat} {sp : Sp} (F : Df K mg x i) (S : FnScope N ps (defScope (top i))) (len : ∀ vs H Q E, sp vs H Q E → vs.length = ps.length)
    (hb : ∀ (kV doc pm : Value) (an : Option Addr) (cdv ct : Value) (us : List Value), us.length = ps.length → bindArgs (PySem.W.fnOf x x (defArgs (top i)) (defBody (top i)) (defScope (top i)) .none kV doc pm an cdv ct) ⟨us, []⟩ = pure (ps.zip us))
    (hbody : ∀ (f : Addr) (cdv : Value) (A : Around) (outer : List Env) (s : Shared) (H : Hp) (vs : List V) (Q : VK) (E : XK), Room k (A.deeper (envOfC x (defScope (top i)) s.heap.objs.size f cdv)) → sp vs H Q E →
      ∃ t, PSs (cxOf CX0 P w K mg base N x (defScope (top i)) f cdv A outer s H E).nox (defBody (top i)) t ∧ t { nx := fun _ H' => Q .non H', rt := Q } (start N vs) H) : Cal P w K mg base (k + 1) x sp := by
  obtain ⟨f, fd, F, hm⟩ := F.ex
  refine ⟨f, fd, ps, F.ok S len fun cdv A outer s H vs Q E hr h => ?_, hm, F.kp, F.bindsN hb⟩
  obtain ⟨t, h1, h2⟩ := hbody f cdv A outer s H vs Q E hr h
  exact ⟨t, h1.nox, h2⟩
end
end K67
open K67 in
local macro_rules | `(tactic| walk_at "rd1") => `(tactic| first
  | with_reducible refine K67.r_seq ?_
  | with_reducible refine K67.r_ret ?_
  | with_reducible refine K67.r_drop ?_
  | with_reducible refine K67.r_asg ?_
  | with_reducible refine K67.r_name ?_
  | with_reducible refine K67.r_next ?_
  | with_reducible refine K67.r_op ?_
  | with_reducible refine K67.r_un ?_
  | with_reducible refine K67.r_test ?_
  | with_reducible refine K67.r_tB ?_
  | with_reducible refine K67.r_ifS ?_
  | with_reducible refine K67.r_cons ?_
  | with_reducible refine K67.r_nil ?_
  | with_reducible refine K67.r_cb ?_
  | with_reducible refine K67.r_andT ?_
  | with_reducible refine K67.r_orT ?_
  | with_reducible refine K67.r_notT ?_
  | with_reducible refine K67.r_andV ?_
  | with_reducible refine K67.r_orV ?_
  | with_reducible refine K67.r_notV ?_
  | with_reducible refine K67.r_call ?_
  | with_reducible refine K67.r_tup ?_
  | with_reducible refine K67.r_lst ?_
  | with_reducible refine K67.r_const ?_
  | with_reducible refine K67.r_bl ?_
  | with_reducible refine K67.r_bl2 ?_
  | with_reducible refine K67.r_i0 ?_
  | with_reducible refine K67.r_chain ?_
  | with_reducible refine K67.r_get ?_
  | with_reducible refine K67.r_gcons ?_
  | with_reducible refine K67.r_gnil ?_
  | with_reducible refine K67.r_cont ?_
  | with_reducible refine K67.r_bm ?_
  | with_reducible refine K67.r_is0 ?_
  | with_reducible refine K67.r_is1 ?_
  | with_reducible refine K67.r_intI ?_
  | with_reducible refine K67.r_intB ?_
  | with_reducible refine K67.r_strS ?_
  | with_reducible refine K67.r_mx ?_
  | with_reducible refine K67.r_iStr ?_
  | with_reducible refine K67.r_iList ?_
  | with_reducible refine K67.r_iTup ?_
  | with_reducible refine K67.r_lc ?_
  | with_reducible refine K67.r_rng1 ?_
  | with_reducible refine K67.r_rng2 ?_
  | with_reducible refine K67.r_yes ?_
  | with_reducible refine K67.r_for ?_
  | with_reducible refine K67.r_par ?_
  | with_reducible refine K67.r_par3 ?_
  | with_reducible refine K67.r_two ?_
  | with_reducible refine K67.r_three ?_
  | with_reducible refine K67.r_unI ?_
  | with_reducible refine K67.sp1 ?_
  | with_reducible refine K67.sp2 ?_
  | with_reducible refine K67.sp3 ?_
  | with_reducible refine K67.sp4 ?_
  | with_reducible refine K67.sp5 ?_
  | with_reducible refine K67.sp6 ?_
  | ((with_reducible refine K67.r_aug (v := ?_) ?rh ?_); (case rh => exact rfl))
  | ((with_reducible refine K67.r_var (v := ?_) ?rh ?_); (case rh => exact rfl))
  | ((with_reducible refine K67.r_eq ?rh ?_); (case rh => exact rfl))
  | ((with_reducible refine K67.r_ne ?rh ?_); (case rh => exact rfl)))
local macro_rules | `(tactic| walk_at "rd") => `(tactic| repeat (walk_at "rd1"))
open K67 in
local macro_rules | `(tactic| walk_at "rdn1") => `(tactic| first
  | with_reducible refine K67.r_seq ?_
  | with_reducible refine K67.r_ret ?_
  | with_reducible refine K67.r_drop ?_
  | with_reducible refine K67.r_asg ?_
  | with_reducible refine K67.r_name ?_
  | with_reducible refine K67.r_next ?_
  | with_reducible refine K67.r_op ?_
  | with_reducible refine K67.r_un ?_
  | with_reducible refine K67.r_test ?_
  | with_reducible refine K67.r_tB ?_
  | with_reducible refine K67.r_ifS ?_
  | with_reducible refine K67.r_cons ?_
  | with_reducible refine K67.r_nil ?_
  | with_reducible refine K67.r_cb ?_
  | with_reducible refine K67.r_andT ?_
  | with_reducible refine K67.r_orT ?_
  | with_reducible refine K67.r_notT ?_
  | with_reducible refine K67.r_andV ?_
  | with_reducible refine K67.r_orV ?_
  | with_reducible refine K67.r_notV ?_
  | with_reducible refine K67.r_call ?_
  | with_reducible refine K67.r_tup ?_
  | with_reducible refine K67.r_lst ?_
  | with_reducible refine K67.r_const ?_
  | with_reducible refine K67.r_bl ?_
  | with_reducible refine K67.r_bl2 ?_
  | with_reducible refine K67.r_i0 ?_
  | with_reducible refine K67.r_chain ?_
  | with_reducible refine K67.r_get ?_
  | with_reducible refine K67.r_gcons ?_
  | with_reducible refine K67.r_gnil ?_
  | with_reducible refine K67.r_cont ?_
  | with_reducible refine K67.r_bm ?_
  | with_reducible refine K67.r_is0 ?_
  | with_reducible refine K67.r_is1 ?_
  | with_reducible refine K67.r_intI ?_
  | with_reducible refine K67.r_intB ?_
  | with_reducible refine K67.r_strS ?_
  | with_reducible refine K67.r_mx ?_
  | with_reducible refine K67.r_iStr ?_
  | with_reducible refine K67.r_iList ?_
  | with_reducible refine K67.r_iTup ?_
  | with_reducible refine K67.r_lc ?_
  | with_reducible refine K67.r_rng1 ?_
  | with_reducible refine K67.r_rng2 ?_
  | with_reducible refine K67.r_yes ?_
  | with_reducible refine K67.r_for ?_
  | with_reducible refine K67.r_par ?_
  | with_reducible refine K67.r_par3 ?_
  | with_reducible refine K67.r_unI ?_
  | ((with_reducible refine K67.r_aug (v := ?_) ?rh ?_); (case rh => exact rfl))
  | ((with_reducible refine K67.r_var (v := ?_) ?rh ?_); (case rh => exact rfl))
  | ((with_reducible refine K67.r_eq ?rh ?_); (case rh => exact rfl))
  | ((with_reducible refine K67.r_ne ?rh ?_); (case rh => exact rfl)))
local macro_rules | `(tactic| walk_at "rdn") => `(tactic| repeat (walk_at "rdn1"))
-- deps: Base
namespace K67
open PySem PySem.Spec PyProof.Rows L2
section
variable {P : Program} {w : World} {K : PySem.W.Frag} {mg : Str → Option Value} {base : Heap} {D : Adr}
abbrev sp_is_whole (K : PySem.W.Frag) (D : Adr) : Sp := Sp1 fun a H Q => ∃ i : Int, a = .int i ∧ Q (.bl true) H
theorem sc_is_whole : FnScope ["value"] ["value"] (defScope (top 4)) := ⟨rfl, rfl, rfl, by decide +kernel, rfl, by decide +kernel, by decide +kernel⟩
theorem ok_is_whole (F : Df K mg "is_whole" 4) (B : Bl mg) : Cal P w K mg base 1 "is_whole" (sp_is_whole K D) := by
  have sc := sc_is_whole
  refine mk_cal F sc len1 (fun _ _ _ _ _ _ us hl => match us, hl with | [_], _ => rfl) (fun f cdv A outer s H vs Q E hr h => ?_)
  obtain ⟨a0, rfl, h⟩ := h
  refine ⟨_, (pss_one (ps_ret (pe_and (pe_callB call_isi rfl B.isinstance_ (by decide +kernel) (pa_cons (pv 0) (pa_cons (pe_bltn (v := .ty "int") rfl B.int_ (by decide +kernel) rfl) pa_nil))) (pe_one (pe_not (pe_callB call_isi rfl B.isinstance_ (by decide +kernel) (pa_cons (pv 0) (pa_cons (pe_bltn (v := .ty "bool") rfl B.bool_ (by decide +kernel) rfl) pa_nil)))))))), ?_⟩
  obtain ⟨i, rfl, q⟩ := h
  walk_at "rd"
  refine r_isi (b := true) (.ty _) (.base (.int _)) (kit_ty (by decide +kernel)) ?_
  walk_at "rd"
  refine if_t rfl ?_
  walk_at "rd"
  refine r_isi (b := false) (.ty _) (.base (.int _)) (kit_ty (by decide +kernel)) ?_
  walk_at "rd"
  exact q
/-- a name that is drawn: 1 to 8 small letters, not "timeout" -/
structure Good (z : Str) : Prop where
  ne : z ≠ "timeout"
  lo : 1 ≤ z.length
  hi : z.length ≤ 8
  let_ : ∀ c ∈ z.cps.toList, 97 ≤ c ∧ c ≤ 122
theorem letters_all : (List.range 26).all (fun i => decide ((97 + i) ∈ ("abcdefghijklmnopqrstuvwxyz" : Str).cps.toList)) = true := by decide +kernel
theorem letter_in {c : Nat} (h : 97 ≤ c ∧ c ≤ 122) : c ∈ ("abcdefghijklmnopqrstuvwxyz" : Str).cps.toList := by
  have q := List.all_eq_true.mp letters_all (c - 97) (List.mem_range.mpr (by omega))
  have q := of_decide_eq_true q
  rw [show 97 + (c - 97) = c by omega] at q
  exact q
abbrev sp_is_name (K : PySem.W.Frag) (D : Adr) : Sp := Sp1 fun a H Q => (∃ z, a = .str z ∧ Good z ∧ ∀ H', Same H H' → Q (.bl true) H') ∨ (a = .str "timeout" ∧ Q (.bl false) H)
theorem sc_is_name : FnScope ["value", "letter"] ["value"] (defScope (top 5)) := ⟨rfl, rfl, rfl, by decide +kernel, rfl, by decide +kernel, by decide +kernel⟩
theorem ok_is_name (F : Df K mg "is_name" 5) (B : Bl mg) (T : Txt mg D) : Cal P w K mg base 1 "is_name" (sp_is_name K D) := by
  have sc := sc_is_name
  refine mk_cal F sc len1 (fun _ _ _ _ _ _ us hl => match us, hl with | [_], _ => rfl) (fun f cdv A outer s H vs Q E hr h => ?_)
  obtain ⟨a0, rfl, h⟩ := h
  refine ⟨_, (pss_cons (ps_if (PW.pt (pw_or (pt_not (pt_val (pe_callB call_isi rfl B.isinstance_ (by decide +kernel) (pa_cons (pv 0) (pa_cons (pe_bltn (v := .ty "str") rfl B.str_ (by decide +kernel) rfl) pa_nil))))) (pw_or (pt_not (pt_chain op_le op_le pe_int (pe_callB call_lenT rfl B.len_ (by decide +kernel) (pa_cons (pv 0) pa_nil)) (pe_gc rfl T.LONGEST_NAME))) (pw_or1 (pt_cmpR op_eq (pv 0) (pe_gc rfl T.TIMEOUT) (nomark _)))))) (pss_one (ps_ret pe_bl)) pss_nil)
  (pss_one (ps_ret (pe_cmpR (op_eqD hr.units) (pe_lc (own := [("letter", 1)]) (g := gName 1) rfl sc.nd (pi_str (pv 0)) (blkOk_by (own := [("letter", 1)]) (N := ["value", "letter"]) (sc := defScope (top 5)) (by decide +kernel)) (fun _ _ _ _ _ => pg_name (i := 1) sc.nd rfl (Or.inl rfl)) (fun _ _ _ _ _ => pts_one (pt_cmpR op_ninC (pv 1) (pe_gc rfl T.LETTERS) rfl)) (fun _ _ _ _ _ => (pv 1))) (pe_lst pa_nil) (nomark _))))), ?_⟩
  rcases h with ⟨z, rfl, gz, q⟩ | ⟨rfl, q⟩
  · have hl : z.length ≤ sizeLine := Nat.le_trans gz.hi (by decide)
    have h1 : (1 : Int) ≤ (z.length : Int) := by have := gz.lo; omega
    have h8 : (z.length : Int) ≤ 8 := by have := gz.hi; omega
    walk_at "rd"
    refine r_isi (b := true) (.ty _) (.base (.str _)) (kit_ty (by decide +kernel)) ?_
    walk_at "rd"
    refine if_f rfl ?_
    walk_at "rd"
    refine r_lenT hl ?_
    walk_at "rd"
    refine if_t (decide_eq_true h1) ?_
    walk_at "rd"
    refine if_f (by rw [decide_eq_true h8]; rfl) ?_
    walk_at "rd"
    refine if_f (decide_eq_false fun e => gz.ne (V.str.inj e)) ?_
    walk_at "rd"
    refine ⟨z, rfl, fun D hD => ?_⟩
    refine lc_it walk_str (fun i H' => Same H H' ∧ H' D = some (.lst [])) ⟨same_upd hD, upd_same⟩ (fun _ _ _ _ => trivial) ?_ ?_
    · rintro i x H1 H2 hi ⟨hs, hd⟩ ⟨rfl, c, hc, rfl⟩
      walk_at "rd"
      refine ⟨rfl, ?_⟩
      walk_at "rd"
      refine ⟨c, _, rfl, rfl, ?_⟩
      have hm : c ∈ z.cps.toList := List.mem_of_getElem? (by rw [Array.getElem?_toList]; exact hc)
      rw [decide_eq_true (letter_in (gz.let_ c hm))]
      walk_at "rd"
      exact if_f rfl ⟨hs, hd⟩
    · rintro H1 ⟨hs, hd⟩
      walk_at "rd"
      refine ⟨Nat.zero_le _, fun p hp => ?_⟩
      refine ⟨.list [], .list [], .lst (.of (by rw [upd_ne (ne_of_none hd hp)]; exact hd)) .nil, .lst (.of upd_same) .nil, by decide, by decide, ?_⟩
      exact q _ (same_upd' hs hp)
  · walk_at "rd"
    refine r_isi (b := true) (.ty _) (.base (.str _)) (kit_ty (by decide +kernel)) ?_
    walk_at "rd"
    refine if_f rfl ?_
    walk_at "rd"
    refine r_lenT (by decide) ?_
    walk_at "rd"
    refine if_t (by decide) ?_
    walk_at "rd"
    refine if_f (by decide) ?_
    walk_at "rd"
    refine if_t (by decide) ?_
    walk_at "rd"
    exact q
theorem inV_str (z : Str) (ws : List Str) : inV (.str z) (ws.map V.str) = decide (z ∈ ws) := by
  have h : inV (.str z) (ws.map V.str) = ws.any fun y => y == z := by
    unfold inV
    rw [List.any_map]
    rfl
  rw [h]
  by_cases m : z ∈ ws
  · rw [decide_eq_true m]
    exact List.any_eq_true.mpr ⟨z, m, beq_self_eq_true z⟩
  · rw [decide_eq_false m]
    exact List.any_eq_false.mpr fun y hy e => m (by rw [← eq_of_beq e]; exact hy)
theorem all_str (ws : List Str) : (ws.map V.str).all flatV = true := by
  rw [List.all_map]
  exact List.all_eq_true.mpr fun _ _ => rfl
theorem r_inS {K : PySem.W.Frag} {H : Hp} {Q : VK} {z : Str} {p : Addr} {ws : List Str} (h : SqL K H p (ws.map V.str) ∨ SqT K H p (ws.map V.str)) (q : Q (.bl (decide (z ∈ ws))) H) : rIn K false (.str z) (.ref p) H Q :=
  ⟨p, ws.map V.str, rfl, h, rfl, all_str ws, by rw [inV_str]; exact q⟩
theorem r_ninS {K : PySem.W.Frag} {H : Hp} {Q : VK} {z : Str} {p : Addr} {ws : List Str} (h : SqL K H p (ws.map V.str) ∨ SqT K H p (ws.map V.str)) (q : Q (.bl (!decide (z ∈ ws))) H) : rIn K true (.str z) (.ref p) H Q :=
  ⟨p, ws.map V.str, rfl, h, rfl, all_str ws, by rw [inV_str]; exact q⟩
abbrev sp_is_word (K : PySem.W.Frag) (D : Adr) : Sp := Sp2 fun a b H Q => ∃ z t, ∃ ws : List Str, a = .str z ∧ b = .ref t ∧ SqT K H t (ws.map V.str) ∧ Q (.bl (decide (z ∈ ws))) H
theorem sc_is_word : FnScope ["value", "words"] ["value", "words"] (defScope (top 6)) := ⟨rfl, rfl, rfl, by decide +kernel, rfl, by decide +kernel, by decide +kernel⟩
theorem ok_is_word (F : Df K mg "is_word" 6) (B : Bl mg) : Cal P w K mg base 1 "is_word" (sp_is_word K D) := by
  have sc := sc_is_word
  refine mk_cal F sc len2 (fun _ _ _ _ _ _ us hl => match us, hl with | [_, _], _ => rfl) (fun f cdv A outer s H vs Q E hr h => ?_)
  obtain ⟨a0, a1, rfl, h⟩ := h
  refine ⟨_, (pss_one (ps_ret (pe_and (pe_callB call_isi rfl B.isinstance_ (by decide +kernel) (pa_cons (pv 0) (pa_cons (pe_bltn (v := .ty "str") rfl B.str_ (by decide +kernel) rfl) pa_nil))) (pe_one (pe_cmpR op_in_seq (pv 0) (pv 1) rfl))))), ?_⟩
  obtain ⟨z, t, ws, rfl, rfl, ht, q⟩ := h
  walk_at "rd"
  refine r_isi (b := true) (.ty _) (.base (.str _)) (kit_ty (by decide +kernel)) ?_
  walk_at "rd"
  refine if_t rfl ?_
  walk_at "rd"
  refine r_inS (.inr ht) ?_
  exact q
end
end K67
-- deps: Checks
namespace K67
open PySem PySem.Spec PyProof.Rows L2
section
variable {P : Program} {w : World} {K : PySem.W.Frag} {mg : Str → Option Value} {base : Heap}
/-- a property of the text: where it stands -/
structure Pf (K : PySem.W.Frag) (C : Addr) (f q : Str) (i j : Nat) : Prop where
  ex : ∃ p g fd, PropOf K C f p g ∧ FunD K f q (defArgs (inClass (top i) j)) (defBody (inClass (top i) j)) (defScope (inClass (top i) j)) [] [] g fd
theorem mk_get {C : Addr} {f q : Str} {i j : Nat} {sp : Sp} (F : Pf K C f q i j) (S : FnScope ["self"] ["self"] (defScope (inClass (top i) j))) (len : ∀ vs H Q E, sp vs H Q E → vs.length = 1)
    (hb : ∀ (kV doc pm : Value) (an : Option Addr) (cdv ct : Value) (us : List Value), us.length = 1 → bindArgs (PySem.W.fnOf f q (defArgs (inClass (top i) j)) (defBody (inClass (top i) j)) (defScope (inClass (top i) j)) .none kV doc pm an cdv ct) ⟨us, []⟩ = pure ((["self"] : List Str).zip us))
    (hbody : ∀ (g : Addr) (cdv : Value) (A : Around) (outer : List Env) (s : Shared) (H : Hp) (vs : List V) (Q : VK) (E : XK), Room 0 (A.deeper (envOfC q (defScope (inClass (top i) j)) s.heap.objs.size g cdv)) → sp vs H Q E →
      ∃ t, PSs (cxOf CX0 P w K mg base ["self"] q (defScope (inClass (top i) j)) g cdv A outer s H E).nox (defBody (inClass (top i) j)) t ∧ t { nx := fun _ H' => Q .non H', rt := Q } (start ["self"] vs) H) : Getter P w K mg base C f sp := by
  obtain ⟨p, g, fd, hp, F⟩ := F.ex
  refine ⟨p, g, fd, hp, F.ok S len fun cdv A outer s H vs Q E hr h => ?_, F.bindsN hb⟩
  obtain ⟨t, h1, h2⟩ := hbody g cdv A outer s H vs Q E hr h
  exact ⟨t, h1.nox, h2⟩

theorem get_R0 {C : Addr} (F : Pf K C "mode" "Rule.mode" 26 1) (c : Cls K C) (n : NoAttr K C "fields") : Getter P w K mg base C "mode" (spR C 0) := by
  refine mk_get F ⟨rfl, rfl, rfl, by decide +kernel, rfl, by decide +kernel, by decide +kernel⟩ len1 (fun _ _ _ _ _ _ us hl => match us, hl with | [_], _ => rfl) (fun g cdv A outer s H vs Q E hr h => ?_)
  obtain ⟨a0, rfl, r, row, v, rfl, ⟨dx, t, fs, h1, h2, h3⟩, hi, q⟩ := h
  refine ⟨_, (pss_one (ps_ret (pe_ix ix_tup (pe_fld (pv 0) rfl) pe_int (fun _ _ => rfl)))), ?_⟩
  exact ⟨_, rfl, r, C, dx, fs, _, rfl, h1, c, n, h2, t, row, _, v, rfl, rfl, SqT.of h3, at_of rfl hi, q⟩

theorem get_R1 {C : Addr} (F : Pf K C "heard" "Rule.heard" 26 2) (c : Cls K C) (n : NoAttr K C "fields") : Getter P w K mg base C "heard" (spR C 1) := by
  refine mk_get F ⟨rfl, rfl, rfl, by decide +kernel, rfl, by decide +kernel, by decide +kernel⟩ len1 (fun _ _ _ _ _ _ us hl => match us, hl with | [_], _ => rfl) (fun g cdv A outer s H vs Q E hr h => ?_)
  obtain ⟨a0, rfl, r, row, v, rfl, ⟨dx, t, fs, h1, h2, h3⟩, hi, q⟩ := h
  refine ⟨_, (pss_one (ps_ret (pe_ix ix_tup (pe_fld (pv 0) rfl) pe_int (fun _ _ => rfl)))), ?_⟩
  exact ⟨_, rfl, r, C, dx, fs, _, rfl, h1, c, n, h2, t, row, _, v, rfl, rfl, SqT.of h3, at_of rfl hi, q⟩

theorem get_R2 {C : Addr} (F : Pf K C "which" "Rule.which" 26 3) (c : Cls K C) (n : NoAttr K C "fields") : Getter P w K mg base C "which" (spR C 2) := by
  refine mk_get F ⟨rfl, rfl, rfl, by decide +kernel, rfl, by decide +kernel, by decide +kernel⟩ len1 (fun _ _ _ _ _ _ us hl => match us, hl with | [_], _ => rfl) (fun g cdv A outer s H vs Q E hr h => ?_)
  obtain ⟨a0, rfl, r, row, v, rfl, ⟨dx, t, fs, h1, h2, h3⟩, hi, q⟩ := h
  refine ⟨_, (pss_one (ps_ret (pe_ix ix_tup (pe_fld (pv 0) rfl) pe_int (fun _ _ => rfl)))), ?_⟩
  exact ⟨_, rfl, r, C, dx, fs, _, rfl, h1, c, n, h2, t, row, _, v, rfl, rfl, SqT.of h3, at_of rfl hi, q⟩

theorem get_R3 {C : Addr} (F : Pf K C "then" "Rule.then" 26 4) (c : Cls K C) (n : NoAttr K C "fields") : Getter P w K mg base C "then" (spR C 3) := by
  refine mk_get F ⟨rfl, rfl, rfl, by decide +kernel, rfl, by decide +kernel, by decide +kernel⟩ len1 (fun _ _ _ _ _ _ us hl => match us, hl with | [_], _ => rfl) (fun g cdv A outer s H vs Q E hr h => ?_)
  obtain ⟨a0, rfl, r, row, v, rfl, ⟨dx, t, fs, h1, h2, h3⟩, hi, q⟩ := h
  refine ⟨_, (pss_one (ps_ret (pe_ix ix_tup (pe_fld (pv 0) rfl) pe_int (fun _ _ => rfl)))), ?_⟩
  exact ⟨_, rfl, r, C, dx, fs, _, rfl, h1, c, n, h2, t, row, _, v, rfl, rfl, SqT.of h3, at_of rfl hi, q⟩

theorem get_R4 {C : Addr} (F : Pf K C "move" "Rule.move" 26 5) (c : Cls K C) (n : NoAttr K C "fields") : Getter P w K mg base C "move" (spR C 4) := by
  refine mk_get F ⟨rfl, rfl, rfl, by decide +kernel, rfl, by decide +kernel, by decide +kernel⟩ len1 (fun _ _ _ _ _ _ us hl => match us, hl with | [_], _ => rfl) (fun g cdv A outer s H vs Q E hr h => ?_)
  obtain ⟨a0, rfl, r, row, v, rfl, ⟨dx, t, fs, h1, h2, h3⟩, hi, q⟩ := h
  refine ⟨_, (pss_one (ps_ret (pe_ix ix_tup (pe_fld (pv 0) rfl) pe_int (fun _ _ => rfl)))), ?_⟩
  exact ⟨_, rfl, r, C, dx, fs, _, rfl, h1, c, n, h2, t, row, _, v, rfl, rfl, SqT.of h3, at_of rfl hi, q⟩

theorem get_R5 {C : Addr} (F : Pf K C "send" "Rule.send" 26 6) (c : Cls K C) (n : NoAttr K C "fields") : Getter P w K mg base C "send" (spR C 5) := by
  refine mk_get F ⟨rfl, rfl, rfl, by decide +kernel, rfl, by decide +kernel, by decide +kernel⟩ len1 (fun _ _ _ _ _ _ us hl => match us, hl with | [_], _ => rfl) (fun g cdv A outer s H vs Q E hr h => ?_)
  obtain ⟨a0, rfl, r, row, v, rfl, ⟨dx, t, fs, h1, h2, h3⟩, hi, q⟩ := h
  refine ⟨_, (pss_one (ps_ret (pe_ix ix_tup (pe_fld (pv 0) rfl) pe_int (fun _ _ => rfl)))), ?_⟩
  exact ⟨_, rfl, r, C, dx, fs, _, rfl, h1, c, n, h2, t, row, _, v, rfl, rfl, SqT.of h3, at_of rfl hi, q⟩

theorem get_side {C : Addr} (F : Pf K C "side" "Role.side" 34 1) (c : Cls K C) (n : NoAttr K C "ends") : Getter P w K mg base C "side" (spG C gSide) := by
  refine mk_get F ⟨rfl, rfl, rfl, by decide +kernel, rfl, by decide +kernel, by decide +kernel⟩ len1 (fun _ _ _ _ _ _ us hl => match us, hl with | [_], _ => rfl) (fun g cdv A outer s H vs Q E hr h => ?_)
  obtain ⟨a0, rfl, o, side, first, rs, calm, rfl, ⟨dx, fs, t1, t2, t3, h1, e1, e2, e3, h2, h3, h4⟩, q⟩ := h
  refine ⟨_, (pss_one (ps_ret (pe_ix ix_tup (pe_fld (pv 0) rfl) pe_int (fun _ _ => rfl)))), ?_⟩
  exact ⟨_, rfl, o, C, dx, fs, _, rfl, h1, c, n, e1, t1, _, _, _, rfl, rfl, SqT.of h2, at_of (j := 0) rfl rfl, q⟩

theorem get_first {C : Addr} (F : Pf K C "first" "Role.first" 34 2) (c : Cls K C) (n : NoAttr K C "ends") : Getter P w K mg base C "first" (spG C gFirst) := by
  refine mk_get F ⟨rfl, rfl, rfl, by decide +kernel, rfl, by decide +kernel, by decide +kernel⟩ len1 (fun _ _ _ _ _ _ us hl => match us, hl with | [_], _ => rfl) (fun g cdv A outer s H vs Q E hr h => ?_)
  obtain ⟨a0, rfl, o, side, first, rs, calm, rfl, ⟨dx, fs, t1, t2, t3, h1, e1, e2, e3, h2, h3, h4⟩, q⟩ := h
  refine ⟨_, (pss_one (ps_ret (pe_ix ix_tup (pe_fld (pv 0) rfl) pe_int (fun _ _ => rfl)))), ?_⟩
  exact ⟨_, rfl, o, C, dx, fs, _, rfl, h1, c, n, e1, t1, _, _, _, rfl, rfl, SqT.of h2, at_of (j := 1) rfl rfl, q⟩

theorem get_rules {C : Addr} (F : Pf K C "rules" "Role.rules" 34 3) (B : Bl mg) (c : Cls K C) (n : NoAttr K C "table") : Getter P w K mg base C "rules" (spG C gRules) := by
  refine mk_get F ⟨rfl, rfl, rfl, by decide +kernel, rfl, by decide +kernel, by decide +kernel⟩ len1 (fun _ _ _ _ _ _ us hl => match us, hl with | [_], _ => rfl) (fun g cdv A outer s H vs Q E hr h => ?_)
  obtain ⟨a0, rfl, o, side, first, rs, calm, rfl, ⟨dx, fs, t1, t2, t3, h1, e1, e2, e3, h2, h3, h4⟩, hl, q⟩ := h
  refine ⟨_, (pss_one (ps_ret (pe_callTy call_lst rfl B.list_ (by decide +kernel) (pa_cons (pe_fld (pv 0) rfl) pa_nil)))), ?_⟩
  exact ⟨_, rfl, o, C, dx, fs, _, rfl, h1, c, n, e2, _, _, rfl, .inr (SqT.of h3), fun p hp => q p hp⟩

theorem get_settled {C : Addr} (F : Pf K C "settled" "Role.settled" 34 4) (B : Bl mg) (c : Cls K C) (n : NoAttr K C "calm") : Getter P w K mg base C "settled" (spG C gSettled) := by
  refine mk_get F ⟨rfl, rfl, rfl, by decide +kernel, rfl, by decide +kernel, by decide +kernel⟩ len1 (fun _ _ _ _ _ _ us hl => match us, hl with | [_], _ => rfl) (fun g cdv A outer s H vs Q E hr h => ?_)
  obtain ⟨a0, rfl, o, side, first, rs, calm, rfl, ⟨dx, fs, t1, t2, t3, h1, e1, e2, e3, h2, h3, h4⟩, hl, q⟩ := h
  refine ⟨_, (pss_one (ps_ret (pe_callTy call_lst rfl B.list_ (by decide +kernel) (pa_cons (pe_fld (pv 0) rfl) pa_nil)))), ?_⟩
  exact ⟨_, rfl, o, C, dx, fs, _, rfl, h1, c, n, e3, _, _, rfl, .inr (SqT.of h4), fun p hp => q p hp⟩

end
end K67

-- deps: Checks
namespace K67
open PySem PySem.Spec PyProof.Rows L2
section
variable {P : Program} {w : World} {K : PySem.W.Frag} {mg : Str → Option Value} {base : Heap} {D : Adr}
/-- a row of a ring: mode, what is heard, the test, the next mode, the move; what is sent (a name or None) last -/
def Row (m h mv th : Str) (snd : V) : List V := [.str m, .str h, .str "any", .str th, .str mv, snd]
abbrev sp_is_for (K : PySem.W.Frag) (D : Adr) : Sp := Sp3 fun a b c H Q => ∃ r m h mv th snd m' n, a = .ref r ∧ b = .str m' ∧ c = .str n ∧ RuleAt D.cr H r (Row m h mv th snd) ∧ Q (.bl (decide (m = m') && decide (h = n))) H
theorem sc_is_for : FnScope ["rule", "mode", "name"] ["rule", "mode", "name"] (defScope (top 8)) := ⟨rfl, rfl, rfl, by decide +kernel, rfl, by decide +kernel, by decide +kernel⟩
theorem ok_is_for (F : Df K mg "is_for" 8) (T : Txt mg D) (R : RuleC P w K mg base D.cr) : Cal P w K mg base 3 "is_for" (sp_is_for K D) := by
  have sc := sc_is_for
  refine mk_cal F sc len3 (fun _ _ _ _ _ _ us hl => match us, hl with | [_, _, _], _ => rfl) (fun f cdv A outer s H vs Q E hr h => ?_)
  obtain ⟨a0, a1, a2, rfl, h⟩ := h
  refine ⟨_, (pss_cons (ps_if (PW.pt (pw_and (pt_cmpR op_is1 (pe_R0 R (hr.mono (by decide)) (pv 0)) pe_non (nomark _)) (pw_and1 (pt_cmpR op_ne (pe_R0 R (hr.mono (by decide)) (pv 0)) (pv 1) (nomark _))))) (pss_one (ps_ret pe_bl)) pss_nil)
  (pss_one (ps_ret (pe_or (pe_cmpR op_eq (pe_R1 R (hr.mono (by decide)) (pv 0)) (pv 2) (nomark _)) (pe_one (pe_and (pe_cmpR op_is0 (pe_R1 R (hr.mono (by decide)) (pv 0)) pe_non (nomark _)) (pe_one (pe_cmpR op_ne (pv 2) (pe_gc rfl T.TIMEOUT) (nomark _))))))))), ?_⟩
  obtain ⟨r, m, h, mv, th, snd, m', n, rfl, rfl, rfl, hR, q⟩ := h
  walk_at "rd"
  refine r_R hR rfl ?_
  walk_at "rd"
  refine if_t rfl ?_
  walk_at "rd"
  refine r_R hR rfl ?_
  walk_at "rd"
  rw [dec_str]
  by_cases e1 : m = m'
  · refine if_f (by rw [decide_eq_true e1]; rfl) ?_
    walk_at "rd"
    refine r_R hR rfl ?_
    walk_at "rd"
    rw [dec_str]
    rw [decide_eq_true e1, Bool.true_and] at q
    by_cases e2 : h = n
    · refine if_t (decide_eq_true e2) ?_
      rw [decide_eq_true e2] at q
      exact q
    · refine if_f (decide_eq_false e2) ?_
      walk_at "rd"
      refine r_R hR rfl ?_
      walk_at "rd"
      refine if_f rfl ?_
      rw [decide_eq_false e2] at q
      exact q
  · refine if_t (by rw [decide_eq_false e1]; rfl) ?_
    walk_at "rd"
    rw [decide_eq_false e1, Bool.false_and] at q
    exact q
abbrev sp_mode_after (K : PySem.W.Frag) (D : Adr) : Sp := Sp2 fun a b H Q => ∃ r m h mv th snd, a = .ref r ∧ RuleAt D.cr H r (Row m h mv th snd) ∧ Q (.str th) H
theorem sc_mode_after : FnScope ["rule", "mode"] ["rule", "mode"] (defScope (top 9)) := ⟨rfl, rfl, rfl, by decide +kernel, rfl, by decide +kernel, by decide +kernel⟩
theorem ok_mode_after (F : Df K mg "mode_after" 9) (R : RuleC P w K mg base D.cr) : Cal P w K mg base 3 "mode_after" (sp_mode_after K D) := by
  have sc := sc_mode_after
  refine mk_cal F sc len2 (fun _ _ _ _ _ _ us hl => match us, hl with | [_, _], _ => rfl) (fun f cdv A outer s H vs Q E hr h => ?_)
  obtain ⟨a0, a1, rfl, h⟩ := h
  refine ⟨_, (pss_cons (ps_if (pt_cmpR op_is0 (pe_R3 R (hr.mono (by decide)) (pv 0)) pe_non (nomark _)) (pss_one (ps_ret (pv 1))) pss_nil)
  (pss_one (ps_ret (pe_R3 R (hr.mono (by decide)) (pv 0))))), ?_⟩
  obtain ⟨r, m, h, mv, th, snd, rfl, hR, q⟩ := h
  walk_at "rd"
  refine r_R hR rfl ?_
  walk_at "rd"
  refine if_f rfl ?_
  walk_at "rd"
  exact r_R hR rfl q
abbrev sp_caller_fits (K : PySem.W.Frag) (D : Adr) : Sp := Sp4 fun a b c d H Q => ∃ r m h th snd ch xs, ∃ (i j : Int), a = .ref r ∧ b = .ref ch ∧ c = .int i ∧ RuleAt D.cr H r (Row m h "down" th snd) ∧ SqL K H ch xs ∧ atI xs (-1) = some (.int j) ∧ Q (.bl (!decide (i = j))) H
theorem sc_caller_fits : FnScope ["rule", "choices", "offered", "choice"] ["rule", "choices", "offered", "choice"] (defScope (top 10)) := ⟨rfl, rfl, rfl, by decide +kernel, rfl, by decide +kernel, by decide +kernel⟩
theorem ok_caller_fits (F : Df K mg "caller_fits" 10) (R : RuleC P w K mg base D.cr) : Cal P w K mg base 3 "caller_fits" (sp_caller_fits K D) := by
  have sc := sc_caller_fits
  refine mk_cal F sc len4 (fun _ _ _ _ _ _ us hl => match us, hl with | [_, _, _, _], _ => rfl) (fun f cdv A outer s H vs Q E hr h => ?_)
  obtain ⟨a0, a1, a2, a3, rfl, h⟩ := h
  refine ⟨_, (pss_cons (ps_if (PW.pt (pw_and (pt_cmpR op_eq (pe_R4 R (hr.mono (by decide)) (pv 0)) pe_str (nomark _)) (pw_and1 (pt_cmpR op_eq (pv 2) (pe_ix ix_list (pv 1) (pe_un un_neg pe_int) (fun _ _ => rfl)) (nomark _))))) (pss_one (ps_ret pe_bl)) pss_nil)
  (pss_cons (ps_if (pt_cmpR op_eq (pe_R2 R (hr.mono (by decide)) (pv 0)) pe_str (nomark _)) (pss_one (ps_ret (pe_cmpR op_eq (pv 3) (pv 2) (nomark _)))) pss_nil)
  (pss_cons (ps_if (pt_cmpR op_eq (pe_R2 R (hr.mono (by decide)) (pv 0)) pe_str (nomark _)) (pss_one (ps_ret (pe_cmpR op_gt (pv 3) (pv 2) (nomark _)))) pss_nil)
  (pss_cons (ps_if (pt_cmpR op_eq (pe_R2 R (hr.mono (by decide)) (pv 0)) pe_str (nomark _)) (pss_one (ps_ret (pe_and (pe_cmpR op_lt (pv 3) (pv 2) (nomark _)) (pe_one (pe_cmpR op_in_seq (pv 3) (pv 1) rfl))))) pss_nil)
  (pss_one (ps_ret pe_bl)))))), ?_⟩
  obtain ⟨r, m, h, th, snd, ch, xs, i, j, rfl, rfl, rfl, hR, hc, hl, q⟩ := h
  walk_at "rd"
  refine r_R hR rfl ?_
  walk_at "rd"
  refine if_t (by decide +kernel) ?_
  walk_at "rd"
  refine r_ixL hc hl ?_
  walk_at "rd"
  rw [dec_int]
  by_cases e : i = j
  · refine if_t (decide_eq_true e) ?_
    walk_at "rd"
    rw [decide_eq_true e] at q
    exact q
  · refine if_f (decide_eq_false e) ?_
    rw [decide_eq_false e] at q
    walk_at "rd"
    refine r_R hR rfl ?_
    walk_at "rd"
    refine if_f (by decide +kernel) ?_
    walk_at "rd"
    refine r_R hR rfl ?_
    walk_at "rd"
    refine if_f (by decide +kernel) ?_
    walk_at "rd"
    refine r_R hR rfl ?_
    walk_at "rd"
    refine if_f (by decide +kernel) ?_
    walk_at "rd"
    exact q
abbrev sp_host_fits (K : PySem.W.Frag) (D : Adr) : Sp := Sp5 fun a b c d e H Q => ∃ r m h mv th snd, a = .ref r ∧ RuleAt D.cr H r (Row m h mv th snd) ∧ Q (.bl true) H
theorem sc_host_fits : FnScope ["rule", "choices", "told", "held", "choice"] ["rule", "choices", "told", "held", "choice"] (defScope (top 13)) := ⟨rfl, rfl, rfl, by decide +kernel, rfl, by decide +kernel, by decide +kernel⟩
theorem ok_host_fits (F : Df K mg "host_fits" 13) (R : RuleC P w K mg base D.cr) : Cal P w K mg base 3 "host_fits" (sp_host_fits K D) := by
  have sc := sc_host_fits
  refine mk_cal F sc len5 (fun _ _ _ _ _ _ us hl => match us, hl with | [_, _, _, _, _], _ => rfl) (fun f cdv A outer s H vs Q E hr h => ?_)
  obtain ⟨a0, a1, a2, a3, a4, rfl, h⟩ := h
  refine ⟨_, (pss_cons (ps_if (pt_cmpR op_eq (pe_R2 R (hr.mono (by decide)) (pv 0)) pe_str (nomark _)) (pss_one (ps_ret (pe_cmpR op_in_seq (pv 4) (pv 1) rfl))) pss_nil)
  (pss_cons (ps_if (pt_cmpR op_eq (pe_R2 R (hr.mono (by decide)) (pv 0)) pe_str (nomark _)) (pss_one (ps_ret (pe_cmpR op_notIn_seq (pv 4) (pv 1) rfl))) pss_nil)
  (pss_cons (ps_if (pt_cmpR op_eq (pe_R2 R (hr.mono (by decide)) (pv 0)) pe_str (nomark _)) (pss_one (ps_ret (pe_cmpR op_eq (pv 4) (pv 3) (nomark _)))) pss_nil)
  (pss_cons (ps_if (pt_cmpR op_eq (pe_R2 R (hr.mono (by decide)) (pv 0)) pe_str (nomark _)) (pss_one (ps_ret (pe_and (pe_cmpR (op_neD hr.units) (pv 1) (pe_lst pa_nil) (nomark _)) (pe_one (pe_cmpR op_gt (pe_ix ix_list (pv 1) pe_int (fun _ _ => rfl)) (pv 4) (nomark _)))))) pss_nil)
  (pss_cons (ps_if (pt_cmpR op_eq (pe_R2 R (hr.mono (by decide)) (pv 0)) pe_str (nomark _)) (pss_one ps_never) pss_nil)
  (pss_cons (ps_if (pt_cmpR op_eq (pe_R2 R (hr.mono (by decide)) (pv 0)) pe_str (nomark _)) (pss_one ps_never) pss_nil)
  (pss_one (ps_ret pe_bl)))))))), ?_⟩
  obtain ⟨r, m, h, mv, th, snd, rfl, hR, q⟩ := h
  walk_at "rd"
  refine r_R hR rfl ?_
  walk_at "rd"
  refine if_f (by decide +kernel) ?_
  walk_at "rd"
  refine r_R hR rfl ?_
  walk_at "rd"
  refine if_f (by decide +kernel) ?_
  walk_at "rd"
  refine r_R hR rfl ?_
  walk_at "rd"
  refine if_f (by decide +kernel) ?_
  walk_at "rd"
  refine r_R hR rfl ?_
  walk_at "rd"
  refine if_f (by decide +kernel) ?_
  walk_at "rd"
  refine r_R hR rfl ?_
  walk_at "rd"
  refine if_f (by decide +kernel) ?_
  walk_at "rd"
  refine r_R hR rfl ?_
  walk_at "rd"
  refine if_f (by decide +kernel) ?_
  walk_at "rd"
  exact q
/-! ### rings -/
abbrev md (ms : List Str) (i : Nat) : Str := ms.getD i Str.empty
/-- the i-th rule of a ring of k modes -/
def ringRow (cal : Bool) (ms : List Str) (nm : Str) (k i : Nat) : List V :=
  bif cal then Row (md ms i) "timeout" "down" (md ms ((i + 1) % k)) (.str nm) else Row (md ms i) nm "stay" (md ms ((i + 1) % k)) .non
/-- the drawn names: six modes, all different, a message -/
structure Nms (ms : List Str) (nm : Str) : Prop where
  six : ms.length = 6
  nd : ms.Nodup
  gm : ∀ m ∈ ms, Good m
  gn : Good nm
theorem Nms.at_ {ms : List Str} {nm : Str} (h : Nms ms nm) {i : Nat} (hi : i < 6) : ms[i]? = some (md ms i) := by
  have : i < ms.length := by rw [h.six]; exact hi
  rw [List.getElem?_eq_getElem this]
  unfold md
  rw [List.getD_eq_getElem?_getD, List.getElem?_eq_getElem this]
  rfl
theorem Nms.inj {ms : List Str} {nm : Str} (h : Nms ms nm) {i j : Nat} (hi : i < 6) (hj : j < 6) (e : md ms i = md ms j) : i = j := nd_ix h.nd (h.at_ hi) (by rw [e]; exact h.at_ hj)
theorem Nms.good {ms : List Str} {nm : Str} (h : Nms ms nm) {i : Nat} (hi : i < 6) : Good (md ms i) := h.gm _ (List.mem_of_getElem? (h.at_ hi))
def sideS (cal : Bool) : Str := bif cal then "caller" else "host"
structure RingAt (D : Adr) (H : Hp) (o : Addr) (cal : Bool) (ms : List Str) (nm : Str) (k : Nat) (calm : List Str) (rs : List Addr) : Prop where
  len : rs.length = k
  role : RoleAt D.co H o (sideS cal) (md ms 0) rs calm
  rules : ∀ (i : Nat) (r : Addr), rs[i]? = some r → RuleAt D.cr H r (ringRow cal ms nm k i)
  k1 : 1 ≤ k
  k6 : k ≤ 6
  few : calm.length ≤ 6
theorem RingAt.same {H H' : Hp} {o : Addr} {cal : Bool} {ms : List Str} {nm : Str} {k : Nat} {calm : List Str} {rs : List Addr} (s : Same H H') (h : RingAt D H o cal ms nm k calm rs) : RingAt D H' o cal ms nm k calm rs :=
  ⟨h.len, h.role.same s, fun i r e => (h.rules i r e).same s, h.k1, h.k6, h.few⟩
/-- the choices of a list that goes down by ones -/
def desc (t : Int) (n : Nat) : List Int := (List.range n).map fun j : Nat => t - (j : Int)
theorem desc_len (t : Int) (n : Nat) : (desc t n).length = n := by simp [desc]
theorem desc_at {t : Int} {n j : Nat} (h : j < n) : ((desc t n).map V.int)[j]? = some (.int (t - (j : Int))) := by
  unfold desc
  rw [List.getElem?_map, List.getElem?_map, List.getElem?_range h]
  rfl
theorem desc_at' {t : Int} {n j : Nat} {v : V} (h : ((desc t n).map V.int)[j]? = some v) : j < n ∧ v = .int (t - (j : Int)) := by
  have hl := (List.getElem?_eq_some_iff.mp h).1
  rw [List.length_map, desc_len] at hl
  rw [desc_at hl] at h
  exact ⟨hl, (Option.some.inj h).symm⟩
/-- what a caller's rule hands back -/
def CalRes (H : Hp) (t : Addr) (m : Str) (c : Int) (nm : Str) : Prop := ∃ u, H t = some (.tup [.str m, .int c, .ref u]) ∧ H u = some (.tup [.str nm, .int c])
abbrev sp_caller_acted (K : PySem.W.Frag) (D : Adr) : Sp := Sp5 fun a b c d e H Q => ∃ o ch en ms nm k calm rs n top num i j v2, a = .ref o ∧ b = .ref ch ∧ c = .ref en ∧ d = .str n ∧ Nms ms nm ∧ RingAt D H o true ms nm k calm rs ∧ SqL K H ch ((desc top num).map V.int) ∧
  SqT K H en [.str (md ms i), .int (top - ((j : Nat) : Int))] ∧ i < k ∧ j < num ∧ num ≤ 1000 ∧ v2 = e ∧
  (n ≠ "timeout" → ∀ H', Same H H' → Q .non H') ∧
  (n = "timeout" → j + 1 = num → ∀ H', Same H H' → Q .non H') ∧
  (n = "timeout" → j + 1 < num → ∀ H' t, Same H H' → CalRes H' t (md ms ((i + 1) % k)) (top - ((j : Nat) : Int) - 1) nm → Q (.ref t) H')
theorem atI_lst {xs : List V} {v : V} (h : xs[xs.length - 1]? = some v) : atI xs (-1) = some v := by
  have hl := (List.getElem?_eq_some_iff.mp h).1
  have e : xs = xs.dropLast ++ [v] := by
    have hne : xs ≠ [] := by
      intro q
      rw [q] at hl
      exact absurd hl (Nat.not_lt_zero _)
    have q := List.dropLast_concat_getLast hne
    rw [List.getLast_eq_getElem, (List.getElem?_eq_some_iff.mp h).2] at q
    exact q.symm
  rw [e]
  exact atI_last _ _
theorem ty_list {K : PySem.W.Frag} {H : Hp} {a : Addr} {xs : List V} (h : SqL K H a xs) : tyV K "list" (.ref a) H := .inl ⟨rfl, _, h⟩
theorem map_ref {rs : List Addr} {x : Nat} {y : V} (hx : (rs.map V.ref)[x]? = some y) : ∃ r, rs[x]? = some r ∧ y = V.ref r := by
  rw [List.getElem?_map] at hx
  cases e : rs[x]? with
  | none => rw [e] at hx; cases hx
  | some r => rw [e] at hx; exact ⟨r, rfl, (Option.some.inj hx).symm⟩
theorem all_int (ns : List Int) : (ns.map V.int).all flatV = true := by
  rw [List.all_map]
  exact List.all_eq_true.mpr fun _ _ => rfl
theorem r_index {K : PySem.W.Frag} {H : Hp} {Q : VK} {ch : Addr} {top : Int} {num j : Nat} (h : SqL K H ch ((desc top num).map V.int)) (hj : j < num) (q : Q (.int (j : Nat)) H) : rIndex K (.ref ch) [.int (top - (j : Int))] H Q := by
  refine ⟨ch, _, _, j, _, rfl, rfl, h, rfl, all_int _, desc_at hj, ?_, fun m z' hm e => ?_, q⟩
  · exact beq_self_eq_true (top - (j : Int))
  · obtain ⟨_, rfl⟩ := desc_at' e
    exact beq_eq_false_iff_ne.mpr (by omega)
theorem sc_caller_acted : FnScope ["role", "choices", "end", "name", "choice", "mode", "offered", "rule", "message"] ["role", "choices", "end", "name", "choice"] (defScope (top 11)) := ⟨rfl, rfl, rfl, by decide +kernel, rfl, by decide +kernel, by decide +kernel⟩
theorem ok_caller_acted (F : Df K mg "caller_acted" 11) (R : RuleC P w K mg base D.cr) (O : RoleC P w K mg base D.co) (cis_for : Cal P w K mg base 3 "is_for" (sp_is_for K D)) (ccaller_fits : Cal P w K mg base 3 "caller_fits" (sp_caller_fits K D)) (cmode_after : Cal P w K mg base 3 "mode_after" (sp_mode_after K D)) : Cal P w K mg base 4 "caller_acted" (sp_caller_acted K D) := by
  have sc := sc_caller_acted
  refine mk_cal F sc len5 (fun _ _ _ _ _ _ us hl => match us, hl with | [_, _, _, _, _], _ => rfl) (fun f cdv A outer s H vs Q E hr h => ?_)
  obtain ⟨a0, a1, a2, a3, a4, rfl, h⟩ := h
  refine ⟨_, (pss_cons (ps_asg (pv 2) (pg_tup rfl (pgs_cons (pg_name (i := 5) sc.nd rfl (.inl rfl)) (pgs_cons (pg_name (i := 6) sc.nd rfl (.inl rfl)) pgs_nil))))
  (pss_cons (ps_if (pt_cmpR op_is0 (pv 6) pe_non (nomark _)) (pss_one (ps_ret pe_non)) pss_nil)
  (pss_cons (ps_for PassesOwn.never rfl (pi_list (pe_rules O (hr.mono (by decide)) (pv 0))) (pg_name (i := 7) sc.nd rfl (.inl rfl)) (pss_one (ps_if (PW.pt (pw_and (pt_val (pe_c cis_for hr (by decide) rfl (pa_cons (pv 7) (pa_cons (pv 5) (pa_cons (pv 3) pa_nil))))) (pw_and1 (pt_val (pe_c ccaller_fits hr (by decide) rfl (pa_cons (pv 7) (pa_cons (pv 1) (pa_cons (pv 6) (pa_cons (pv 4) pa_nil))))))))) (pss_cons (ps_if (pt_cmpR op_eq (pe_R4 R (hr.mono (by decide)) (pv 7)) pe_str (nomark _)) (pss_one (ps_set (i := 6) sc.nd rfl (.inl rfl) (pe_ix ix_list (pv 1) (pe_op op_add (pe_bm PySem.F.plainAttrs_list PySem.F.slot_list_index PySem.F.type_list_index mt_index (pv 1) (pa_cons (pv 6) pa_nil)) pe_int) (fun _ _ => rfl)))) (pss_one (ps_if (pt_cmpR op_eq (pe_R4 R (hr.mono (by decide)) (pv 7)) pe_str (nomark _)) (pss_one (ps_set (i := 6) sc.nd rfl (.inl rfl) (pv 4))) pss_nil)))
  (pss_cons (ps_set (i := 8) sc.nd rfl (.inl rfl) pe_non)
  (pss_cons (ps_if (pt_cmpR op_is1 (pe_R5 R (hr.mono (by decide)) (pv 7)) pe_non (nomark _)) (pss_one (ps_set (i := 8) sc.nd rfl (.inl rfl) (pe_tup (pa_cons (pe_R5 R (hr.mono (by decide)) (pv 7)) (pa_cons (pv 6) pa_nil))))) pss_nil)
  (pss_one (ps_ret (pe_tup (pa_cons (pe_c cmode_after hr (by decide) rfl (pa_cons (pv 7) (pa_cons (pv 5) pa_nil))) (pa_cons (pv 6) (pa_cons (pv 8) pa_nil))))))))) pss_nil)))
  (pss_one (ps_ret pe_non))))), ?_⟩
  obtain ⟨o, ch, en, ms, nm, k, calm, rs, n, top, num, i, j, v2, rfl, rfl, rfl, rfl, N, O1, hch, hen, hi, hj, hnum, rfl, q1, q2, q3⟩ := h
  walk_at "rd"
  refine r_gtup hen rfl ?_
  walk_at "rd"
  refine if_f rfl ?_
  walk_at "rd"
  refine r_rules O1.role (by rw [O1.len]; have := O1.k6; omega) fun p hp => ⟨p, rfl, ⟨_, .of upd_same⟩, ?_⟩
  refine for_list (K := K) (a := p) (xs := rs.map V.ref) (fun x σ H' => (∃ v7, σ = [some (.ref o), some (.ref ch), some (.ref en), some (.str n), some v2, some (.str (md ms i)), some (.int (top - (j : Int))), v7, none]) ∧ Same H H' ∧ H' p = some (.lst (rs.map V.ref)) ∧ (n = "timeout" → j + 1 < num → x ≤ i)) ⟨⟨none, rfl⟩, same_upd hp, upd_same, fun _ _ => Nat.zero_le _⟩ (fun x σ H' _ h => .of h.2.2.1) ?_ ?_
  · rintro x y σ H1 hx ⟨⟨v7, rfl⟩, s1, hp1, hxi⟩
    obtain ⟨r, hr1, rfl⟩ : ∃ r, rs[x]? = some r ∧ y = V.ref r := by
      rw [List.getElem?_map] at hx
      cases e : rs[x]? with
      | none => rw [e] at hx; cases hx
      | some r => rw [e] at hx; exact ⟨r, rfl, (Option.some.inj hx).symm⟩
    have hx6 : x < k := by rw [← O1.len]; exact (List.getElem?_eq_some_iff.mp hr1).1
    have hR : ∀ {H2}, Same H H2 → RuleAt D.cr H2 r (Row (md ms x) "timeout" "down" (md ms ((x + 1) % k)) (.str nm)) := fun s2 => (O1.rules x r hr1).same s2
    walk_at "rd"
    refine ⟨r, _, _, _, _, _, _, _, rfl, rfl, rfl, hR s1, ?_⟩
    walk_at "rd"
    have go : ∀ v7', (n = "timeout" → j + 1 < num → x ≠ i) → (∃ v7, [some (V.ref o), some (V.ref ch), some (V.ref en), some (V.str n), some v2, some (V.str (md ms i)), some (V.int (top - (j : Int))), v7', none] = [some (V.ref o), some (V.ref ch), some (V.ref en), some (V.str n), some v2, some (V.str (md ms i)), some (V.int (top - (j : Int))), v7, none]) ∧ Same H H1 ∧ H1 p = some (.lst (rs.map V.ref)) ∧ (n = "timeout" → j + 1 < num → x + 1 ≤ i) := fun v7' h => ⟨⟨v7', rfl⟩, s1, hp1, fun a b => by have := hxi a b; have := h a b; omega⟩
    by_cases hn : "timeout" = n
    · by_cases hm : md ms x = md ms i
      · have hxi' : x = i := N.inj (by have := O1.k6; omega) (by have := O1.k6; omega) hm
        refine if_t (by rw [decide_eq_true hm, decide_eq_true hn]; rfl) ?_
        walk_at "rd"
        refine ⟨r, _, _, _, _, ch, _, _, top - ((num - 1 : Nat) : Int), rfl, rfl, rfl, hR s1, s1.seq hch, atI_lst (by rw [List.length_map, desc_len]; exact desc_at (by omega)), ?_⟩
        walk_at "rd"
        by_cases hl : j + 1 = num
        · refine if_f (by rw [decide_eq_true (show top - (j : Int) = top - ((num - 1 : Nat) : Int) by omega)]; rfl) ?_
          exact go _ fun _ h => by omega
        · refine if_t (by rw [decide_eq_false (show ¬ top - (j : Int) = top - ((num - 1 : Nat) : Int) by omega)]; rfl) ?_
          walk_at "rd"
          refine r_R (hR s1) rfl ?_
          walk_at "rd"
          refine if_t (by decide +kernel) ?_
          walk_at "rd"
          refine ⟨ty_list (s1.seq hch), ?_⟩
          walk_at "rd"
          refine r_index (s1.seq hch) hj ?_
          walk_at "rd"
          refine r_ixL (s1.seq hch) (at_of (j := j + 1) rfl (desc_at (by omega))) ?_
          walk_at "rd"
          refine r_R (hR s1) rfl ?_
          walk_at "rd"
          refine if_t rfl ?_
          walk_at "rd"
          refine r_R (hR s1) rfl ?_
          walk_at "rd"
          refine ⟨sz2, fun u hu => ?_⟩
          walk_at "rd"
          refine ⟨r, _, _, _, _, _, rfl, hR (s1.trans (same_upd hu)), ?_⟩
          walk_at "rd"
          refine ⟨sz3, fun t ht => ?_⟩
          refine q3 hn.symm (by omega) _ _ ((same_upd' s1 hu).trans (same_upd ht)) ⟨u, ?_, ?_⟩
          · rw [upd_same, hxi', show top - ((j + 1 : Nat) : Int) = top - (j : Int) - 1 by omega]
          · rw [upd_ne (ne_of_none upd_same ht), upd_same, show top - ((j + 1 : Nat) : Int) = top - (j : Int) - 1 by omega]
      · refine if_f (by rw [decide_eq_false hm]; rfl) ?_
        exact go _ fun _ _ e => hm (by rw [e])
    · refine if_f (by rw [decide_eq_false hn, Bool.and_false]) ?_
      exact go _ fun h => absurd h.symm hn
  · rintro σ H1 ⟨⟨v7, rfl⟩, s1, hp1, hxi⟩
    dsimp only
    walk_at "rd"
    rw [List.length_map, O1.len] at hxi
    by_cases hn : n = "timeout"
    · exact q2 hn (by have := hxi hn; omega) _ s1
    · exact q1 hn _ s1
end
end K67
-- deps: Acts
namespace K67
open PySem PySem.Spec PyProof.Rows L2
section
variable {P : Program} {w : World} {K : PySem.W.Frag} {mg : Str → Option Value} {base : Heap} {D : Adr}
abbrev sp_host_acted (K : PySem.W.Frag) (D : Adr) : Sp := Sp6 fun a b c d e f H Q => ∃ o en ms nm k calm rs n i, a = .ref o ∧ d = .ref en ∧ e = .str n ∧ Nms ms nm ∧ RingAt D H o false ms nm k calm rs ∧
  SqT K H en [.str (md ms i), .non] ∧ i < k ∧ b = b ∧ c = c ∧ f = f ∧
  (n = "timeout" ∨ n ≠ nm → ∀ H', Same H H' → Q .non H') ∧
  (n ≠ "timeout" → n = nm → ∀ H' t, Same H H' → H' t = some (.tup [.str (md ms ((i + 1) % k)), .non, .non]) → Q (.ref t) H')
theorem sc_host_acted : FnScope ["role", "choices", "told", "end", "name", "choice", "mode", "held", "spoken", "rule", "message"] ["role", "choices", "told", "end", "name", "choice"] (defScope (top 14)) := ⟨rfl, rfl, rfl, by decide +kernel, rfl, by decide +kernel, by decide +kernel⟩
theorem ok_host_acted (F : Df K mg "host_acted" 14) (T : Txt mg D) (R : RuleC P w K mg base D.cr) (O : RoleC P w K mg base D.co) (cis_for : Cal P w K mg base 3 "is_for" (sp_is_for K D)) (chost_fits : Cal P w K mg base 3 "host_fits" (sp_host_fits K D)) (cmode_after : Cal P w K mg base 3 "mode_after" (sp_mode_after K D)) : Cal P w K mg base 4 "host_acted" (sp_host_acted K D) := by
  have sc := sc_host_acted
  refine mk_cal F sc len6 (fun _ _ _ _ _ _ us hl => match us, hl with | [_, _, _, _, _, _], _ => rfl) (fun f cdv A outer s H vs Q E hr h => ?_)
  obtain ⟨a0, a1, a2, a3, a4, a5, rfl, h⟩ := h
  refine ⟨_, (pss_cons (ps_asg (pv 3) (pg_tup rfl (pgs_cons (pg_name (i := 6) sc.nd rfl (.inl rfl)) (pgs_cons (pg_name (i := 7) sc.nd rfl (.inl rfl)) pgs_nil))))
  (pss_cons (ps_set (i := 8) sc.nd rfl (.inl rfl) (pv 5))
  (pss_cons (ps_if (pt_cmpR op_eq (pv 4) (pe_gc rfl T.TIMEOUT) (nomark _)) (pss_cons (ps_if (pt_cmpR op_is0 (pv 7) pe_non (nomark _)) (pss_one (ps_ret pe_non)) pss_nil)
  (pss_one (ps_set (i := 8) sc.nd rfl (.inl rfl) (pv 7)))) pss_nil)
  (pss_cons (ps_for PassesOwn.never rfl (pi_list (pe_rules O (hr.mono (by decide)) (pv 0))) (pg_name (i := 9) sc.nd rfl (.inl rfl)) (pss_one (ps_if (PW.pt (pw_and (pt_val (pe_c cis_for hr (by decide) rfl (pa_cons (pv 9) (pa_cons (pv 6) (pa_cons (pv 4) pa_nil))))) (pw_and1 (pt_val (pe_c chost_fits hr (by decide) rfl (pa_cons (pv 9) (pa_cons (pv 1) (pa_cons (pv 2) (pa_cons (pv 7) (pa_cons (pv 8) pa_nil)))))))))) (pss_cons (ps_if (pt_cmpR op_eq (pe_R4 R (hr.mono (by decide)) (pv 9)) pe_str (nomark _)) (pss_one (ps_set (i := 7) sc.nd rfl (.inl rfl) (pv 8))) (pss_one (ps_if (pt_cmpR op_eq (pe_R4 R (hr.mono (by decide)) (pv 9)) pe_str (nomark _)) (pss_cons ps_never
  (pss_one (ps_set (i := 8) sc.nd rfl (.inl rfl) (pv 7)))) (pss_one (ps_if (pt_cmpR op_eq (pe_R4 R (hr.mono (by decide)) (pv 9)) pe_str (nomark _)) (pss_one (ps_set (i := 7) sc.nd rfl (.inl rfl) pe_non)) pss_nil)))))
  (pss_cons (ps_set (i := 10) sc.nd rfl (.inl rfl) pe_non)
  (pss_cons (ps_if (pt_cmpR op_is1 (pe_R5 R (hr.mono (by decide)) (pv 9)) pe_non (nomark _)) (pss_one (ps_set (i := 10) sc.nd rfl (.inl rfl) (pe_tup (pa_cons (pe_R5 R (hr.mono (by decide)) (pv 9)) (pa_cons (pv 8) pa_nil))))) pss_nil)
  (pss_one (ps_ret (pe_tup (pa_cons (pe_c cmode_after hr (by decide) rfl (pa_cons (pv 9) (pa_cons (pv 6) pa_nil))) (pa_cons (pv 7) (pa_cons (pv 10) pa_nil))))))))) pss_nil)))
  (pss_one (ps_ret pe_non)))))), ?_⟩
  obtain ⟨o, en, ms, nm, k, calm, rs, n, i, rfl, rfl, rfl, N, O1, hen, hi, -, -, -, q1, q2⟩ := h
  walk_at "rd"
  refine r_gtup hen rfl ?_
  walk_at "rd"
  by_cases ht : n = "timeout"
  · refine if_t (by rw [dec_str]; exact decide_eq_true ht) ?_
    walk_at "rd"
    refine if_t rfl ?_
    walk_at "rd"
    exact q1 (.inl ht) _ (Same.refl _)
  refine if_f (by rw [dec_str]; exact decide_eq_false ht) ?_
  walk_at "rd"
  refine r_rules O1.role (by rw [O1.len]; have := O1.k6; omega) fun p hp => ⟨p, rfl, ⟨_, .of upd_same⟩, ?_⟩
  refine for_list (K := K) (a := p) (xs := rs.map V.ref) (fun x σ H' => (∃ v9, σ = [some (.ref o), some a1, some a2, some (.ref en), some (.str n), some a5, some (.str (md ms i)), some .non, some a5, v9, none]) ∧ Same H H' ∧ H' p = some (.lst (rs.map V.ref)) ∧ (n = nm → x ≤ i)) ⟨⟨none, rfl⟩, same_upd hp, upd_same, fun _ => Nat.zero_le _⟩ (fun x σ H' _ h => .of h.2.2.1) ?_ ?_
  · rintro x y σ H1 hx ⟨⟨v9, rfl⟩, s1, hp1, hxi⟩
    obtain ⟨r, hr1, rfl⟩ := map_ref hx
    have hx6 : x < k := by rw [← O1.len]; exact (List.getElem?_eq_some_iff.mp hr1).1
    have hR : ∀ {H2}, Same H H2 → RuleAt D.cr H2 r (Row (md ms x) nm "stay" (md ms ((x + 1) % k)) .non) := fun s2 => (O1.rules x r hr1).same s2
    walk_at "rd"
    refine ⟨r, _, _, _, _, _, _, _, rfl, rfl, rfl, hR s1, ?_⟩
    walk_at "rd"
    have go : ∀ v9', (n = nm → x ≠ i) → (∃ v9, [some (V.ref o), some a1, some a2, some (.ref en), some (.str n), some a5, some (.str (md ms i)), some .non, some a5, v9', none] = [some (V.ref o), some a1, some a2, some (.ref en), some (.str n), some a5, some (.str (md ms i)), some .non, some a5, v9, none]) ∧ Same H H1 ∧ H1 p = some (.lst (rs.map V.ref)) ∧ (n = nm → x + 1 ≤ i) := fun v9' h => ⟨⟨v9', rfl⟩, s1, hp1, fun a => by have := hxi a; have := h a; omega⟩
    by_cases hn : nm = n
    · by_cases hm : md ms x = md ms i
      · have hxi' : x = i := N.inj (by have := O1.k6; omega) (by have := O1.k6; omega) hm
        refine if_t (by rw [decide_eq_true hm, decide_eq_true hn]; rfl) ?_
        walk_at "rd"
        refine ⟨r, _, _, _, _, _, rfl, hR s1, ?_⟩
        walk_at "rd"
        refine if_t rfl ?_
        walk_at "rd"
        refine r_R (hR s1) rfl ?_
        walk_at "rd"
        refine if_f (by decide +kernel) ?_
        walk_at "rd"
        refine r_R (hR s1) rfl ?_
        walk_at "rd"
        refine if_f (by decide +kernel) ?_
        walk_at "rd"
        refine r_R (hR s1) rfl ?_
        walk_at "rd"
        refine if_f (by decide +kernel) ?_
        walk_at "rd"
        refine r_R (hR s1) rfl ?_
        walk_at "rd"
        refine if_f rfl ?_
        walk_at "rd"
        refine ⟨r, _, _, _, _, _, rfl, hR s1, ?_⟩
        walk_at "rd"
        refine ⟨sz3, fun t hT => ?_⟩
        exact q2 ht hn.symm _ _ (same_upd' s1 hT) (by rw [upd_same, hxi'])
      · refine if_f (by rw [decide_eq_false hm]; rfl) ?_
        exact go _ fun _ e => hm (by rw [e])
    · refine if_f (by rw [decide_eq_false hn, Bool.and_false]) ?_
      exact go _ fun h => absurd h.symm hn
  · rintro σ H1 ⟨⟨v9, rfl⟩, s1, hp1, hxi⟩
    dsimp only
    walk_at "rd"
    rw [List.length_map, O1.len] at hxi
    exact q1 (.inr fun hn => by have := hxi hn; omega) _ s1
end
end K67
-- deps: Acts2
namespace K67
open PySem PySem.Spec PyProof.Rows L2
section
variable {P : Program} {w : World} {K : PySem.W.Frag} {mg : Str → Option Value} {base : Heap} {D : Adr}
/-- nothing fits -/
def NoneQ (H : Hp) (Q : VK) : Prop := ∀ H', Same H H' → Q .non H'
/-- what is heard: a timeout | a message -/
def actC (K : PySem.W.Frag) (H : Hp) (d : V) (ms : List Str) (nm : Str) (k i : Nat) (top : Int) (num j : Nat) (Q : VK) : Prop :=
  (d = .str "timeout" ∧ (j + 1 = num → NoneQ H Q) ∧ (j + 1 < num → ∀ H' t, Same H H' → CalRes H' t (md ms ((i + 1) % k)) (top - (j : Int) - 1) nm → Q (.ref t) H')) ∨
  ∃ t n c, d = .ref t ∧ SqT K H t [.str n, c] ∧ n ≠ "timeout" ∧ NoneQ H Q
def actH (K : PySem.W.Frag) (H : Hp) (d : V) (ms : List Str) (nm : Str) (k i : Nat) (Q : VK) : Prop :=
  (d = .str "timeout" ∧ NoneQ H Q) ∨
  ∃ t n c l, d = .ref t ∧ SqT K H t [.str n, c, l] ∧ n ≠ "timeout" ∧ (n ≠ nm → NoneQ H Q) ∧ (n = nm → ∀ H' t, Same H H' → H' t = some (.tup [.str (md ms ((i + 1) % k)), .non, .non]) → Q (.ref t) H')
abbrev sp_acted (K : PySem.W.Frag) (D : Adr) : Sp := Sp4 fun a b c d H Q => ∃ o ch en ms nm k calm rs i, a = .ref o ∧ b = .ref ch ∧ c = .ref en ∧ Nms ms nm ∧ i < k ∧
  ((RingAt D H o true ms nm k calm rs ∧ ∃ top num j rest, SqL K H ch ((desc top num).map V.int) ∧ SqT K H en (.str (md ms i) :: .int (top - ((j : Nat) : Int)) :: rest) ∧ j < num ∧ num ≤ 1000 ∧ actC K H d ms nm k i top num j Q) ∨
   (RingAt D H o false ms nm k calm rs ∧ ∃ rest, SqT K H en (.str (md ms i) :: .non :: rest) ∧ actH K H d ms nm k i Q))
theorem sc_acted : FnScope ["role", "choices", "end", "stimulus", "name", "choice", "told"] ["role", "choices", "end", "stimulus"] (defScope (top 40)) := ⟨rfl, rfl, rfl, by decide +kernel, rfl, by decide +kernel, by decide +kernel⟩
theorem ok_acted (F : Df K mg "acted" 40) (T : Txt mg D) (O : RoleC P w K mg base D.co) (ccaller_acted : Cal P w K mg base 4 "caller_acted" (sp_caller_acted K D)) (chost_acted : Cal P w K mg base 4 "host_acted" (sp_host_acted K D)) : Cal P w K mg base 5 "acted" (sp_acted K D) := by
  have sc := sc_acted
  refine mk_cal F sc len4 (fun _ _ _ _ _ _ us hl => match us, hl with | [_, _, _, _], _ => rfl) (fun f cdv A outer s H vs Q E hr h => ?_)
  obtain ⟨a0, a1, a2, a3, rfl, h⟩ := h
  refine ⟨_, (pss_cons (ps_if (pt_cmpR (op_eqTS hr.units0) (pv 3) (pe_gc rfl T.TIMEOUT) (nomark _)) (pss_one (ps_par3 (i := 4) (j := 5) (l := 6) rfl sc.nd rfl rfl rfl (by decide) (by decide) (by decide) rfl rfl rfl (pa_cons (pe_gc rfl T.TIMEOUT) (pa_cons pe_non (pa_cons (pe_lst pa_nil) pa_nil))) (by rfl))) (pss_one (ps_if (pt_cmpR op_eq (pe_side O (hr.mono (by decide)) (pv 0)) pe_str (nomark _)) (pss_cons (ps_asg (pv 3) (pg_tup rfl (pgs_cons (pg_name (i := 4) sc.nd rfl (.inl rfl)) (pgs_cons (pg_name (i := 5) sc.nd rfl (.inl rfl)) pgs_nil))))
  (pss_one (ps_set (i := 6) sc.nd rfl (.inl rfl) (pe_lst pa_nil)))) (pss_one (ps_asg (pv 3) (pg_tup rfl (pgs_cons (pg_name (i := 4) sc.nd rfl (.inl rfl)) (pgs_cons (pg_name (i := 5) sc.nd rfl (.inl rfl)) (pgs_cons (pg_name (i := 6) sc.nd rfl (.inl rfl)) pgs_nil)))))))))
  (pss_cons (ps_if (pt_cmpR op_eq (pe_side O (hr.mono (by decide)) (pv 0)) pe_str (nomark _)) (pss_one (ps_ret (pe_c ccaller_acted hr (by decide) rfl (pa_cons (pv 0) (pa_cons (pv 1) (pa_cons (pe_tup (pa_cons (pe_ix ix_tup (pv 2) pe_int (fun _ _ => rfl)) (pa_cons (pe_ix ix_tup (pv 2) pe_int (fun _ _ => rfl)) pa_nil))) (pa_cons (pv 4) (pa_cons (pv 5) pa_nil)))))))) pss_nil)
  (pss_one (ps_ret (pe_c chost_acted hr (by decide) rfl (pa_cons (pv 0) (pa_cons (pv 1) (pa_cons (pv 6) (pa_cons (pe_tup (pa_cons (pe_ix ix_tup (pv 2) pe_int (fun _ _ => rfl)) (pa_cons (pe_ix ix_tup (pv 2) pe_int (fun _ _ => rfl)) pa_nil))) (pa_cons (pv 4) (pa_cons (pv 5) pa_nil))))))))))), ?_⟩
  obtain ⟨o, ch, en, ms, nm, k, calm, rs, i, rfl, rfl, rfl, N, hi, ⟨O1, top, num, j, rest, hch, hen, hj, hnum, h⟩ | ⟨O1, rest, hen, h⟩⟩ := h
  · rcases h with ⟨rfl, h1, h2⟩ | ⟨t, n, c, rfl, ht, hn, h1⟩
    · walk_at "rd"
      refine r_eqS ?_
      walk_at "rd"
      refine if_t (decide_eq_true rfl) ?_
      walk_at "rd"
      refine ⟨sz0, fun p hp => ?_⟩
      have s1 := same_upd (o := .lst []) hp
      walk_at "rd"
      refine r_side (O1.role.same s1) ?_
      walk_at "rd"
      refine if_t (by decide +kernel) ?_
      walk_at "rd"
      refine r_ixT (same_seqT s1 hen) (at_of (j := 0) rfl rfl) ?_
      walk_at "rd"
      refine r_ixT (same_seqT s1 hen) (at_of (j := 1) rfl rfl) ?_
      walk_at "rd"
      refine ⟨sz2, fun e he => ?_⟩
      have s2 := same_upd' (o := .tup [.str (md ms i), .int (top - (j : Int))]) s1 he
      walk_at "rd"
      refine ⟨o, ch, e, ms, nm, k, calm, rs, _, top, num, i, j, _, rfl, rfl, rfl, rfl, N, O1.same s2, s2.seq hch, SqT.of upd_same, hi, hj, hnum, rfl, fun z => absurd rfl z, fun _ z H' s => h1 z _ (s2.trans s), fun _ z H' t s r => h2 z _ _ (s2.trans s) r⟩
    · walk_at "rd"
      refine r_eqT ht ?_
      walk_at "rd"
      refine if_f rfl ?_
      walk_at "rd"
      refine r_side O1.role ?_
      walk_at "rd"
      refine if_t (by decide +kernel) ?_
      walk_at "rd"
      refine r_gtup ht rfl ?_
      walk_at "rd"
      refine ⟨sz0, fun p hp => ?_⟩
      have s1 := same_upd (o := .lst []) hp
      walk_at "rd"
      refine r_side (O1.role.same s1) ?_
      walk_at "rd"
      refine if_t (by decide +kernel) ?_
      walk_at "rd"
      refine r_ixT (same_seqT s1 hen) (at_of (j := 0) rfl rfl) ?_
      walk_at "rd"
      refine r_ixT (same_seqT s1 hen) (at_of (j := 1) rfl rfl) ?_
      walk_at "rd"
      refine ⟨sz2, fun e he => ?_⟩
      have s2 := same_upd' (o := .tup [.str (md ms i), .int (top - (j : Int))]) s1 he
      walk_at "rd"
      refine ⟨o, ch, e, ms, nm, k, calm, rs, n, top, num, i, j, _, rfl, rfl, rfl, rfl, N, O1.same s2, s2.seq hch, SqT.of upd_same, hi, hj, hnum, rfl, fun z H' s => h1 _ (s2.trans s), fun z => absurd z hn, fun z => absurd z hn⟩
  · rcases h with ⟨rfl, h1⟩ | ⟨t, n, c, l, rfl, ht, hn, h1, h2⟩
    · walk_at "rd"
      refine r_eqS ?_
      walk_at "rd"
      refine if_t (decide_eq_true rfl) ?_
      walk_at "rd"
      refine ⟨sz0, fun p hp => ?_⟩
      have s1 := same_upd (o := .lst []) hp
      walk_at "rd"
      refine r_side (O1.role.same s1) ?_
      walk_at "rd"
      refine if_f (by decide +kernel) ?_
      walk_at "rd"
      refine r_ixT (same_seqT s1 hen) (at_of (j := 0) rfl rfl) ?_
      walk_at "rd"
      refine r_ixT (same_seqT s1 hen) (at_of (j := 1) rfl rfl) ?_
      walk_at "rd"
      refine ⟨sz2, fun e he => ?_⟩
      have s2 := same_upd' (o := .tup [.str (md ms i), .non]) s1 he
      walk_at "rd"
      refine ⟨o, e, ms, nm, k, calm, rs, _, i, rfl, rfl, rfl, N, O1.same s2, SqT.of upd_same, hi, rfl, rfl, rfl, fun _ H' s => h1 _ (s2.trans s), fun z => absurd rfl z⟩
    · walk_at "rd"
      refine r_eqT ht ?_
      walk_at "rd"
      refine if_f rfl ?_
      walk_at "rd"
      refine r_side O1.role ?_
      walk_at "rd"
      refine if_f (by decide +kernel) ?_
      walk_at "rd"
      refine r_gtup ht rfl ?_
      walk_at "rd"
      refine r_side O1.role ?_
      walk_at "rd"
      refine if_f (by decide +kernel) ?_
      walk_at "rd"
      refine r_ixT hen (at_of (j := 0) rfl rfl) ?_
      walk_at "rd"
      refine r_ixT hen (at_of (j := 1) rfl rfl) ?_
      walk_at "rd"
      refine ⟨sz2, fun e he => ?_⟩
      have s2 := same_upd (o := .tup [.str (md ms i), .non]) he
      walk_at "rd"
      refine ⟨o, e, ms, nm, k, calm, rs, n, i, rfl, rfl, rfl, N, O1.same s2, SqT.of upd_same, hi, rfl, rfl, rfl, fun z H' s => h1 (z.resolve_left hn) _ (s2.trans s), fun _ z H' t s r => h2 z _ _ (s2.trans s) r⟩
end
end K67
-- deps: Acted
namespace K67
open PySem PySem.Spec PyProof.Rows L2
section
variable {P : Program} {w : World} {K : PySem.W.Frag} {mg : Str → Option Value} {base : Heap} {D : Adr}
abbrev sp_shown (K : PySem.W.Frag) (D : Adr) : Sp := Sp3 fun a b c H Q => ∃ o ch en ms nm k calm rs i snd, a = .ref o ∧ b = .ref ch ∧ c = .ref en ∧ Nms ms nm ∧ i < k ∧
  ((RingAt D H o true ms nm k calm rs ∧ ∃ top num j, SqL K H ch ((desc top num).map V.int) ∧ SqT K H en [.str (md ms i), .int (top - ((j : Nat) : Int)), snd] ∧ j < num ∧ num ≤ 1000 ∧
      ∀ H' t, Same H H' → H' t = some (.tup [snd, .bl (decide (md ms i ∈ calm)), .int (top - (j : Int)), .bl (decide (j + 1 < num))]) → Q (.ref t) H') ∨
   (RingAt D H o false ms nm k calm rs ∧ SqT K H en [.str (md ms i), .non, snd] ∧
      ∀ H' t, Same H H' → H' t = some (.tup [snd, .bl (decide (md ms i ∈ calm)), .non, .bl false]) → Q (.ref t) H'))
theorem sc_shown : FnScope ["role", "choices", "end"] ["role", "choices", "end"] (defScope (top 41)) := ⟨rfl, rfl, rfl, by decide +kernel, rfl, by decide +kernel, by decide +kernel⟩
theorem ok_shown (F : Df K mg "shown" 41) (T : Txt mg D) (O : RoleC P w K mg base D.co) (cacted : Cal P w K mg base 5 "acted" (sp_acted K D)) : Cal P w K mg base 6 "shown" (sp_shown K D) := by
  have sc := sc_shown
  refine mk_cal F sc len3 (fun _ _ _ _ _ _ us hl => match us, hl with | [_, _, _], _ => rfl) (fun f cdv A outer s H vs Q E hr h => ?_)
  obtain ⟨a0, a1, a2, rfl, h⟩ := h
  refine ⟨_, (pss_one (ps_ret (pe_tup (pa_cons (pe_ix ix_tup (pv 2) pe_int (fun _ _ => rfl)) (pa_cons (pe_cmpR op_in_seq (pe_ix ix_tup (pv 2) pe_int (fun _ _ => rfl)) (pe_settled O (hr.mono (by decide)) (pv 0)) rfl) (pa_cons (pe_ix ix_tup (pv 2) pe_int (fun _ _ => rfl)) (pa_cons (pe_cmpR op_is1 (pe_c cacted hr (by decide) rfl (pa_cons (pv 0) (pa_cons (pv 1) (pa_cons (pv 2) (pa_cons (pe_gc rfl T.TIMEOUT) pa_nil))))) pe_non (nomark _)) pa_nil))))))), ?_⟩
  obtain ⟨o, ch, en, ms, nm, k, calm, rs, i, snd, rfl, rfl, rfl, N, hi, ⟨O1, top, num, j, hch, hen, hj, hnum, q⟩ | ⟨O1, hen, q⟩⟩ := h
  · walk_at "rd"
    refine r_ixT hen (at_of (j := 2) rfl rfl) ?_
    walk_at "rd"
    refine r_ixT hen (at_of (j := 0) rfl rfl) ?_
    walk_at "rd"
    refine r_settled O1.role (by have := O1.few; omega) fun p hp => ?_
    have s1 := same_upd (o := .lst (calm.map V.str)) hp
    refine r_inS (.inl (.of upd_same)) ?_
    walk_at "rd"
    refine r_ixT (same_seqT s1 hen) (at_of (j := 1) rfl rfl) ?_
    walk_at "rd"
    refine ⟨o, ch, en, ms, nm, k, calm, rs, i, rfl, rfl, rfl, N, hi, .inl ⟨O1.same s1, top, num, j, _, s1.seq hch, same_seqT s1 hen, hj, hnum, .inl ⟨rfl, fun e H1 s2 => ?_, fun e H1 t s2 r => ?_⟩⟩⟩
    · walk_at "rd"
      refine ⟨sz4, fun t ht => ?_⟩
      refine q _ _ (same_upd' (s1.trans s2) ht) ?_
      rw [upd_same, decide_eq_false (show ¬ j + 1 < num by omega)]
      rfl
    · walk_at "rd"
      refine ⟨sz4, fun t ht => ?_⟩
      refine q _ _ (same_upd' (s1.trans s2) ht) ?_
      rw [upd_same, decide_eq_true e]
      rfl
  · walk_at "rd"
    refine r_ixT hen (at_of (j := 2) rfl rfl) ?_
    walk_at "rd"
    refine r_ixT hen (at_of (j := 0) rfl rfl) ?_
    walk_at "rd"
    refine r_settled O1.role (by have := O1.few; omega) fun p hp => ?_
    have s1 := same_upd (o := .lst (calm.map V.str)) hp
    refine r_inS (.inl (.of upd_same)) ?_
    walk_at "rd"
    refine r_ixT (same_seqT s1 hen) (at_of (j := 1) rfl rfl) ?_
    walk_at "rd"
    refine ⟨o, ch, en, ms, nm, k, calm, rs, i, rfl, rfl, rfl, N, hi, .inr ⟨O1.same s1, _, same_seqT s1 hen, .inl ⟨rfl, fun H1 s2 => ?_⟩⟩⟩
    walk_at "rd"
    refine ⟨sz4, fun t ht => ?_⟩
    refine q _ _ (same_upd' (s1.trans s2) ht) ?_
    rw [upd_same]
    rfl
abbrev sp_beginning (K : PySem.W.Frag) (D : Adr) : Sp := Sp2 fun a b H Q => ∃ o ch cal ms nm k calm rs, a = .ref o ∧ b = .ref ch ∧ RingAt D H o cal ms nm k calm rs ∧
  ((cal = true ∧ ∃ xs v, SqL K H ch xs ∧ xs[0]? = some v ∧ ∀ H' t, Same H H' → H' t = some (.tup [.str (md ms 0), v, .non]) → Q (.ref t) H') ∨
   (cal = false ∧ ∀ H' t, Same H H' → H' t = some (.tup [.str (md ms 0), .non, .non]) → Q (.ref t) H'))
theorem sc_beginning : FnScope ["role", "choices"] ["role", "choices"] (defScope (top 42)) := ⟨rfl, rfl, rfl, by decide +kernel, rfl, by decide +kernel, by decide +kernel⟩
theorem ok_beginning (F : Df K mg "beginning" 42) (O : RoleC P w K mg base D.co) : Cal P w K mg base 3 "beginning" (sp_beginning K D) := by
  have sc := sc_beginning
  refine mk_cal F sc len2 (fun _ _ _ _ _ _ us hl => match us, hl with | [_, _], _ => rfl) (fun f cdv A outer s H vs Q E hr h => ?_)
  obtain ⟨a0, a1, rfl, h⟩ := h
  refine ⟨_, (pss_cons (ps_if (pt_cmpR op_eq (pe_side O (hr.mono (by decide)) (pv 0)) pe_str (nomark _)) (pss_one (ps_ret (pe_tup (pa_cons (pe_first O (hr.mono (by decide)) (pv 0)) (pa_cons (pe_ix ix_list (pv 1) pe_int (fun _ _ => rfl)) (pa_cons pe_non pa_nil)))))) pss_nil)
  (pss_one (ps_ret (pe_tup (pa_cons (pe_first O (hr.mono (by decide)) (pv 0)) (pa_cons pe_non (pa_cons pe_non pa_nil))))))), ?_⟩
  obtain ⟨o, ch, cal, ms, nm, k, calm, rs, rfl, rfl, O1, ⟨rfl, xs, v, hx, hv, q⟩ | ⟨rfl, q⟩⟩ := h
  · walk_at "rd"
    refine r_side O1.role ?_
    walk_at "rd"
    refine if_t (by decide +kernel) ?_
    walk_at "rd"
    refine r_first O1.role ?_
    walk_at "rd"
    refine r_ixL hx (at_of (j := 0) rfl hv) ?_
    walk_at "rd"
    refine ⟨sz3, fun t ht => ?_⟩
    exact q _ _ (same_upd ht) upd_same
  · walk_at "rd"
    refine r_side O1.role ?_
    walk_at "rd"
    refine if_f (by decide +kernel) ?_
    walk_at "rd"
    refine r_first O1.role ?_
    walk_at "rd"
    refine ⟨sz3, fun t ht => ?_⟩
    exact q _ _ (same_upd ht) upd_same
abbrev sp_are_parted (K : PySem.W.Frag) (D : Adr) : Sp := Sp5 fun a b c d e H Q => ∃ o1 o2 ch ms nm k1 calm1 rs1 k2 calm2 rs2, a = .ref o1 ∧ b = .ref o2 ∧ c = .ref ch ∧ Nms ms nm ∧ RingAt D H o1 false ms nm k1 calm1 rs1 ∧ RingAt D H o2 false ms nm k2 calm2 rs2 ∧
  ((d = .non ∧ e = .non ∧ Q (.bl false) H) ∨
   ∃ l r i1 i2, d = .ref l ∧ e = .ref r ∧ SqT K H l [.str (md ms i1), .non, .non] ∧ SqT K H r [.str (md ms i2), .non, .non] ∧ i1 < k1 ∧ i2 < k2 ∧ ∀ H', Same H H' → Q (.bl (decide (md ms i1 ∈ calm1) != decide (md ms i2 ∈ calm2))) H')
theorem ne_host (b1 b2 : Bool) : (!PyData.eqv (.tuple [.none, .bool b1, .none, .bool false]) (.tuple [.none, .bool b2, .none, .bool false])) = (b1 != b2) := by
  cases b1 <;> cases b2 <;> rfl
theorem sc_are_parted : FnScope ["one", "other", "choices", "left", "right"] ["one", "other", "choices", "left", "right"] (defScope (top 43)) := ⟨rfl, rfl, rfl, by decide +kernel, rfl, by decide +kernel, by decide +kernel⟩
theorem ok_are_parted (F : Df K mg "are_parted" 43) (cshown : Cal P w K mg base 6 "shown" (sp_shown K D)) : Cal P w K mg base 7 "are_parted" (sp_are_parted K D) := by
  have sc := sc_are_parted
  refine mk_cal F sc len5 (fun _ _ _ _ _ _ us hl => match us, hl with | [_, _, _, _, _], _ => rfl) (fun f cdv A outer s H vs Q E hr h => ?_)
  obtain ⟨a0, a1, a2, a3, a4, rfl, h⟩ := h
  refine ⟨_, (pss_cons (ps_if (PW.pt (pw_or (pt_cmpR op_is0 (pv 3) pe_non (nomark _)) (pw_or1 (pt_cmpR op_is0 (pv 4) pe_non (nomark _))))) (pss_one (ps_ret (pe_or (pe_cmpR op_is1 (pv 3) pe_non (nomark _)) (pe_one (pe_cmpR op_is1 (pv 4) pe_non (nomark _)))))) pss_nil)
  (pss_one (ps_ret (pe_cmpR (op_neD hr.units) (pe_c cshown hr (by decide) rfl (pa_cons (pv 0) (pa_cons (pv 2) (pa_cons (pv 3) pa_nil)))) (pe_c cshown hr (by decide) rfl (pa_cons (pv 1) (pa_cons (pv 2) (pa_cons (pv 4) pa_nil)))) (nomark _))))), ?_⟩
  obtain ⟨o1, o2, ch, ms, nm, k1, calm1, rs1, k2, calm2, rs2, rfl, rfl, rfl, N, O1, O2, ⟨rfl, rfl, q⟩ | ⟨l, r, i1, i2, rfl, rfl, hl, hr', h1, h2, q⟩⟩ := h
  · walk_at "rd"
    refine if_t rfl (if_t rfl ?_)
    walk_at "rd"
    refine if_f rfl ?_
    walk_at "rd"
    exact q
  · walk_at "rd"
    refine if_f rfl ?_
    walk_at "rd"
    refine if_f rfl ?_
    walk_at "rd"
    refine ⟨o1, ch, l, ms, nm, k1, calm1, rs1, i1, .non, rfl, rfl, rfl, N, h1, .inr ⟨O1, hl, fun H1 t1 s1 e1 => ?_⟩⟩
    walk_at "rd"
    refine ⟨o2, ch, r, ms, nm, k2, calm2, rs2, i2, .non, rfl, rfl, rfl, N, h2, .inr ⟨O2.same s1, same_seqT s1 hr', fun H2 t2 s2 e2 => ?_⟩⟩
    refine ⟨.tuple [.none, .bool _, .none, .bool false], .tuple [.none, .bool _, .none, .bool false], .tup (.of (s2 _ _ e1)) (.cons .non (.cons (.bl _) (.cons .non (.cons (.bl _) .nil)))), .tup (.of e2) (.cons .non (.cons (.bl _) (.cons .non (.cons (.bl _) .nil)))), rfl, rfl, ?_⟩
    rw [ne_host]
    exact q _ (s1.trans s2)
end
end K67
-- deps: Base
namespace K67
open PySem PySem.Spec PyProof.Rows L2
/-! ### dicts whose keys are tuples of texts, ints, truth values and None -/
/-- a flat value as a part of a key -/
def LfRel : V → Leaf → Prop
  | .non, .none => True
  | .bl b, .num j => (if b then 1 else 0) = j
  | .int i, .num j => i = j
  | .str x, .text y => x = y
  | _, _ => False
section
variable {P : Program} {w : World}
theorem lf_is {v : V} {k : Leaf} {u : Value} (l : LfRel v k) (r : RelV v u) : (leafKind P w).is k u = true := by
  cases v with
  | non =>
    cases k with
    | none =>
      obtain rfl : u = Value.none := r
      rfl
    | _ => exact False.elim l
  | bl b =>
    cases k with
    | num j =>
      obtain rfl : u = Value.bool b := r
      have l : (if b then (1 : Int) else 0) = j := l
      subst l
      cases b <;> rfl
    | _ => exact False.elim l
  | int i =>
    cases k with
    | num j =>
      obtain ⟨t, rfl⟩ := (show ∃ t, u = Value.int i t from r)
      obtain rfl : i = j := l
      exact decide_eq_true rfl
    | _ => exact False.elim l
  | str x =>
    cases k with
    | text y =>
      obtain ⟨t, rfl⟩ := (show ∃ t, u = Value.str x t from r)
      obtain rfl : x = y := l
      show (x == x) = true
      exact beq_self_eq_true x
    | _ => exact False.elim l
  | byt _ => cases k <;> exact False.elim l
  | flt _ => cases k <;> exact False.elim l
  | ref _ => cases k <;> exact False.elim l
  | ty _ => cases k <;> exact False.elim l
theorem lfs_is : ∀ {vs : List V} {ks : List Leaf} {us : List Value}, Paired LfRel vs ks → Vals vs us → ItemsAre (leafKind P w) ks us
  | _, _, _, .nil, .nil => .nil
  | _, _, _, .cons l ls, .cons r rs => .cons (lf_is l r) (lfs_is ls rs)
/-- at b stands a tuple that is the key ks -/
def KeyAt (H : Hp) (b : Addr) (ks : List Leaf) : Prop := ∃ vs, H b = some (.tup vs) ∧ Paired LfRel vs ks
theorem KeyAt.same {H H' : Hp} {b : Addr} {ks : List Leaf} (s : Same H H') (k : KeyAt H b ks) : KeyAt H' b ks := let ⟨vs, e, p⟩ := k; ⟨vs, s _ _ e, p⟩
theorem KeyAt.is {H : Hp} {h : Heap} {b : Addr} {ks : List Leaf} (ok : HOk P w H h) (k : KeyAt H b ks) : (tupleKind (leafKind P w)).is h ks b := by
  obtain ⟨vs, e, p⟩ := k
  obtain ⟨_, its, r, o, h1, h2, n, h3⟩ := (show ObjOk P w H h b (.tup vs) from ok b _ e)
  exact ⟨o, its.toArray, n, h1, h2, h3, by simpa using lfs_is p r⟩
/-- an entry: the key, where its tuple stands, the value -/
abbrev LEnt := List Leaf × Addr × V
abbrev EntR : LEnt → List Leaf × Addr × Value → Prop := fun p q => p.1 = q.1 ∧ p.2.1 = q.2.1 ∧ RelV p.2.2 q.2.2
def LfHeap (P : Program) (w : World) (d : Addr) (es : List LEnt) (h : Heap) : Prop := (d == sysModules) = false ∧ es.length ≤ 1000 ∧
  ∃ o ds ep ys, h.get? d = some o ∧ o.ExactDict ∧ o.data = .dict ds ep ∧ Paired EntR es ys ∧ ds.toList = ys.map (entryOfKey (tupleKind (leafKind P w))) ∧ (ys.map (·.1)).Nodup
def lfO (P : Program) (w : World) (d : Addr) (es : List LEnt) : HO := .ext (LfHeap P w d es)
def LfAt (P : Program) (w : World) (H : Hp) (d : Addr) (es : List LEnt) : Prop := H d = some (lfO P w d es) ∧ ∀ e ∈ es, KeyAt H e.2.1 e.1
theorem LfAt.same {H H' : Hp} {d : Addr} {es : List LEnt} (s : Same H H') (l : LfAt P w H d es) : LfAt P w H' d es := ⟨s _ _ l.1, fun e he => (l.2 e he).same s⟩
theorem lf_obj {H : Hp} {h : Heap} {d : Addr} {es : List LEnt} (l : LfHeap P w d es h) : ObjOk P w H h d (lfO P w d es) := by
  refine ⟨l, ?_, fun h1 h2 l1 k => ?_⟩
  · obtain ⟨_, _, o, ds, ep, ys, ho, _⟩ := l
    exact ⟨o, ho⟩
  · obtain ⟨a, z, o, ds, ep, ys, ho, r⟩ := l1
    exact ⟨a, z, o, ds, ep, ys, k _ ho, r⟩
theorem ent_keys {es : List LEnt} {ys : List (List Leaf × Addr × Value)} (r : Paired EntR es ys) : es.map (·.1) = ys.map (·.1) := by
  induction r with
  | nil => rfl
  | cons h _ ih => rw [List.map_cons, List.map_cons, ih, h.1]
theorem ent_none {es : List LEnt} {ys : List (List Leaf × Addr × Value)} {ks : List Leaf} (r : Paired EntR es ys) (n : ks ∉ es.map (·.1)) : atKey ys ks = none := by
  refine atKey_none_of_get fun j p e => n ?_
  rw [ent_keys r]
  exact List.mem_map.mpr ⟨_, List.mem_of_getElem? e, rfl⟩
theorem ent_get {es : List LEnt} {ys : List (List Leaf × Addr × Value)} (r : Paired EntR es ys) : ∀ {i : Nat} {e : LEnt}, es[i]? = some e → ∃ y, ys[i]? = some y ∧ EntR e y := by
  induction r with
  | nil => intro i e h; simp at h
  | cons h _ ih =>
    intro i e q
    cases i with
    | zero =>
      obtain rfl := Option.some.inj q
      exact ⟨_, rfl, h⟩
    | succ i => exact ih (i := i) q
theorem ent_some {es : List LEnt} {ys : List (List Leaf × Addr × Value)} {i : Nat} {ks : List Leaf} {b : Addr} {v : V} (r : Paired EntR es ys) (hn : (ys.map (·.1)).Nodup) (e : es[i]? = some (ks, b, v)) : ∃ u, atKey ys ks = some (b, u) ∧ RelV v u := by
  obtain ⟨⟨k', b', u⟩, hy, h1, h2, h3⟩ := ent_get r e
  obtain rfl : ks = k' := h1
  obtain rfl : b = b' := h2
  exact ⟨u, atKey_of_get hn hy, h3⟩
end
section
variable {X : Cx} {pins : List (Addr × Obj)} {σ : L2.St} {H : Hp} {s : Shared} {d b : Addr} {es : List LEnt} {ks : List Leaf} {v : V}
theorem lf_dict (I : Inv X pins σ H s) (l : LfAt X.prog X.w H d es) : (d == sysModules) = false ∧ es.length ≤ 1000 ∧ ∃ ys, Paired EntR es ys ∧ s.heap.DictOfH (tupleKind (leafKind X.prog X.w)) d ys := by
  obtain ⟨⟨a, z, o, ds, ep, ys, ho, hx, hd, r, he, hn⟩, _⟩ := (show ObjOk X.prog X.w H s.heap d (lfO X.prog X.w d es) from I.hok d _ l.1)
  refine ⟨a, z, ys, r, o, ds, ep, ho, hx, hd, he, fun y hy => ?_, hn⟩
  obtain ⟨i, hi⟩ := List.mem_iff_getElem?.mp hy
  have hl : i < es.length := by rw [Paired.length r]; exact (List.getElem?_eq_some_iff.mp hi).1
  obtain ⟨y', hy', h1, h2, _⟩ := ent_get r (List.getElem?_eq_getElem hl)
  rw [hi] at hy'
  obtain rfl := Option.some.inj hy'
  rw [← h1, ← h2]
  exact (l.2 _ (List.getElem_mem hl)).is I.hok
/-- k not in d -/
def rLfNin (P : Program) (w : World) : R2 := fun x y H Q => ∃ b d ks es, x = .ref b ∧ y = .ref d ∧ KeyAt H b ks ∧ LfAt P w H d es ∧ Q (.bl (decide (ks ∉ es.map (·.1)))) H
theorem op_lfnin (hu : X.A.units + 1 < cLine) : OpR X (compareOp .NotIn) (rLfNin X.prog X.w) := by
  intro pins s σ H x y v u Q I rx ry h
  obtain ⟨b, d, ks, es, rfl, rfl, k, l, q⟩ := h
  cases rx
  cases ry
  obtain ⟨a, _, ys, r, dd⟩ := lf_dict I l
  refine wpAny_notIn_heap (tupleKind_room_in1 hu) (k.is I.hok) a dd ?_
  have e : (!(atKey ys ks).isSome) = decide (ks ∉ es.map (·.1)) := by
    by_cases m : ks ∈ es.map (·.1)
    · obtain ⟨⟨k', b', v'⟩, hm, ek⟩ := List.mem_map.mp m
      obtain rfl : k' = ks := ek
      obtain ⟨i, hi⟩ := List.mem_iff_getElem?.mp hm
      obtain ⟨u, hu', _⟩ := ent_some r dd.nodup hi
      rw [hu', decide_eq_false (fun z => z m)]
      rfl
    · rw [ent_none r m, decide_eq_true m]
      rfl
  rw [e]
  exact ⟨.bl _, H, I.tok _, rfl, q⟩
/-- d[k], there -/
def tLfGet (P : Program) (w : World) (td tk : TE) : TE := fun σ H Q => td σ H fun x H1 => tk σ H1 fun y H2 => ∃ d b ks es, ∃ (i : Nat), ∃ b' v, x = .ref d ∧ y = .ref b ∧ KeyAt H2 b ks ∧ LfAt P w H2 d es ∧ es[i]? = some (ks, b', v) ∧ Q v H2
theorem pe_leafget {o i : Expr} {pos : Pos} {td tk : TE} (hu : X.A.units + 1 < cLine) (ho : PE X o td) (hi : PE X i tk) (hs : NoSl i) : PE X (.Subscript o i pos) (tLfGet X.prog X.w td tk) := by
  refine ⟨fun pins s σ H Q I h => ?_⟩
  refine subD_of PySem.F.slot_dict_getitem.lookup hs (thn (ho.run pins s σ H _ I h) fun u s1 ⟨x, H1, I1, rx, q1⟩ => thn (hi.run pins s1 σ H1 _ I1 q1) fun iv s2 ⟨y, H2, I2, ry, d, b, ks, es, j, b', v, ex, ey, k, l, e, q⟩ => ?_)
  subst ex ey
  obtain rfl : u = Value.ref d := rx
  obtain rfl : iv = Value.ref b := ry
  obtain ⟨a, _, ys, r, dd⟩ := lf_dict I2 l
  obtain ⟨w', hw, rw'⟩ := ent_some r dd.nodup e
  exact ⟨dd.typeIs, wpAny_getItem_heap (tupleKind_room_in1 hu) (k.is I2.hok) dd hw ⟨v, H2, I2.tok _, rw', q⟩⟩
/-- behind a store of a new key -/
theorem LfAt.put {P : Program} {w : World} (l : LfAt P w H d es) (k : KeyAt H b ks) : LfAt P w (upd H d (lfO P w d (es ++ [(ks, b, v)]))) d (es ++ [(ks, b, v)]) := by
  have keep : ∀ {b' ks'}, KeyAt H b' ks' → KeyAt (upd H d (lfO P w d (es ++ [(ks, b, v)]))) b' ks' := fun {b' ks'} q => by
    obtain ⟨vs, e, p⟩ := q
    refine ⟨vs, ?_, p⟩
    rw [upd_ne (ne_of e l.1 fun z => by cases z)]
    exact e
  refine ⟨upd_same, fun e he => ?_⟩
  rcases List.mem_append.mp he with m | m
  · exact keep (l.2 e m)
  · obtain rfl := List.mem_singleton.mp m
    exact keep k
theorem lf_store (I : Inv X pins σ H s) (l : LfAt X.prog X.w H d es) (n : ks ∉ es.map (·.1)) (z : es.length < 1000) {u : Value} {h' : Heap} {t' : Nat} {ys : List (List Leaf × Addr × Value)} (r : Paired EntR es ys) (ru : RelV v u)
    (dd : h'.DictOfH (tupleKind (leafKind X.prog X.w)) d (storedH ys ks b u)) (hs : Heap.SameBut d s.heap h') : Inv X pins σ (upd H d (lfO X.prog X.w d (es ++ [(ks, b, v)]))) { s with heap := h', toks := t' } := by
  obtain ⟨a, _, _⟩ := lf_dict I l
  rw [storedH_new (ent_none r n)] at dd
  obtain ⟨o, ds, ep, ho, hx, hd, he, _, hn⟩ := dd
  refine d_write I (by rw [l.1]; exact True.intro) hs ⟨o, ho⟩ (lf_obj ⟨a, ?_, o, ds, ep, _, ho, hx, hd, Paired.snoc r ⟨rfl, rfl, ru⟩, he, hn⟩)
  rw [List.length_append, List.length_singleton]
  exact z
def rLfSet (P : Program) (w : World) : TSet := fun o i v H Q => ∃ d b ks es, o = .ref d ∧ i = .ref b ∧ KeyAt H b ks ∧ LfAt P w H d es ∧ ks ∉ es.map (·.1) ∧ es.length < 1000 ∧ Q (upd H d (lfO P w d (es ++ [(ks, b, v)])))
theorem set_leaf (hu : X.A.units + 1 < cLine) : PSet X (rLfSet X.prog X.w) := by
  intro pins s σ H o i v ov iv u Q I ro ri ru h
  obtain ⟨d, b, ks, es, rfl, rfl, k, l, n, z, q⟩ := h
  cases ro
  cases ri
  obtain ⟨a, zl, ys, r, dd⟩ := lf_dict I l
  have hz : ys.length ≤ sizeLine := by rw [← Paired.length r]; exact szK zl
  exact wpAny_setItem_heap (hsz := hz) (tupleKind_room_in1 hu) (k.is I.hok) dd fun h' dd' hs => ⟨_, lf_store I l n z r ru dd' hs, q⟩
theorem lf_new {P : Program} {w : World} {H : Hp} (h : Heap) (hb : sysModules < h.objs.size) : ObjOk P w H (h.push { cls := .type "dict", data := .dict #[] }) h.objs.size (lfO P w h.objs.size []) :=
  lf_obj ⟨beq_eq_false_iff_ne.mpr (Ne.symm (Nat.ne_of_lt hb)), Nat.zero_le _, _, #[], 0, [], Heap.get?_push_size _ rfl, ⟨rfl, rfl, rfl⟩, rfl, .nil, rfl, List.nodup_nil⟩
/-- {k: v} -/
def tLfD (P : Program) (w : World) (tk tv : TE) : TE := fun σ H Q => ∀ p, H p = none → tk σ (upd H p (lfO P w p [])) fun x H1 => tv σ H1 fun y H2 => ∃ b ks, x = .ref b ∧ KeyAt H2 b ks ∧ H2 p = some (lfO P w p []) ∧ Q (.ref p) (upd H2 p (lfO P w p [(ks, b, y)]))
theorem pe_leafdisp {k e : Expr} {pos : Pos} {tk tv : TE} (hu : X.A.units + 1 < cLine) (hk : PE X k tk) (hv : PE X e tv) : PE X (.Dict [some k] [e] pos) (tLfD X.prog X.w tk tv) := by
  refine ⟨fun pins s σ H Q I h => ?_⟩
  have fresh := I.hok.fresh (Nat.le_refl s.heap.objs.size)
  have I1 := I.laid (a := s.heap.objs.size) (o := lfO X.prog X.w s.heap.objs.size []) (h' := s.heap.push { cls := .type "dict", data := .dict #[] }) (t' := s.toks) (fun _ _ q => Heap.get?_push_of_some _ q) (Nat.le_refl _) (lf_new s.heap I.big)
  refine wpAny_Dict_any rfl rfl (List.cons_ne_nil _ _) (show 1 ≤ 15 by decide) (pairTrees_cons_walk (thn (hk.run pins _ σ _ _ I1 (h _ fresh)) fun u s2 ⟨x, H2, I2, rx, q2⟩ =>
    thn (hv.run pins s2 σ H2 _ I2 q2) fun u2 s3 ⟨y, H3, I3, ry, b, ks, ex, ka, hp, q3⟩ => pairTrees_nil_walk ?_))
  subst ex
  obtain rfl : u = Value.ref b := rx
  have l : LfAt X.prog X.w H3 s.heap.objs.size [] := ⟨hp, fun _ z => nomatch z⟩
  obtain ⟨a, _, ys, r, dd⟩ := lf_dict I3 l
  cases r
  unfold storeAll
  rw [List.forIn_cons]
  refine wpAny_bind (wpAny_bind (wpAny_dictSet_heap (hsz := Nat.zero_le _) (knd := tupleKind (leafKind X.prog X.w)) (show X.A.units < cLine by omega) (ka.is I3.hok) dd fun h' dd' hs => wpAny_pure ?_))
  show wpAny _ _ (forIn ([] : List (Value × Value)) PUnit.unit _) _ _ _
  rw [List.forIn_nil]
  exact wpAny_pure ⟨.ref _, _, lf_store I3 l (List.not_mem_nil) (by decide) .nil ry dd' hs, rfl, q3⟩
end
end K67
-- deps: Leaf
namespace K67
open PySem PySem.Spec PyProof.Rows L2
section
variable {X : Cx}
/-- {k: v for target in iter}, the keys tuples: a new dict at D, each key new -/
def tLfC (P : Program) (w : World) (wi : TI) (g : TG) (tk tv : TE) (vs : List Nat) : TE := fun σ H Q => wi σ H fun J H1 => ∀ D, H1 D = none → ∃ W : Nat → Nat → Hp → Prop, (∃ m, W 0 m (upd H1 D (lfO P w D []))) ∧ ∀ i m H, W i m H →
  (J.stop i H ∧ Q (.ref D) H) ∨ (J.go i H ∧ ∃ Nx : Hp → Prop, (∀ H', Nx H' → ∃ m', m' < m ∧ W (i + 1) m' H') ∧ ∀ x H', J.yld i H x H' → g x (wipe σ vs) H' fun σ2 H2 => wipe σ2 vs = wipe σ vs ∧
    tk σ2 H2 fun y H4 => tv σ2 H4 fun z H5 => ∃ b ks es, y = .ref b ∧ KeyAt H5 b ks ∧ LfAt P w H5 D es ∧ ks ∉ es.map (·.1) ∧ es.length < 1000 ∧ Nx (upd H5 D (lfO P w D (es ++ [(ks, b, z)]))))
/-- the loop of its block, from a state in which the dict stands at D -/
theorem lfc_loop {kx vx tg iter : Expr} {scope : Scope} {own : List (Str × Nat)} {pos : Pos} {g : TG} {tk tv : TE} {σ : L2.St} {H3 : Hp} {s3 : Shared} {ce : Env} {fp : List Addr} {it D : Addr} {J : It} {tn : Nat → Heap → Prop} {R : Result → Shared → Prop} {Qd : Hp → Prop}
    (hc : X.calm = true) (hu : X.A.units + 1 < cLine) (T : Turn X.prog X.w X.K tg J fp it tn)
    (pg : PG (X.blk s3 H3 scope ce fp) tg g) (pk : PE (X.blk s3 H3 scope ce fp) kx tk) (pv : PE (X.blk s3 H3 scope ce fp) vx tv)
    (W : Nat → Nat → Hp → Prop)
    (turn : ∀ i m H, W i m H → (J.stop i H ∧ Qd H) ∨ (J.go i H ∧ ∃ Nx : Hp → Prop, (∀ H', Nx H' → ∃ m', m' < m ∧ W (i + 1) m' H') ∧ ∀ x H', J.yld i H x H' → g x (wipe σ (own.map (·.2))) H' fun σ2 H2 => wipe σ2 (own.map (·.2)) = wipe σ (own.map (·.2)) ∧
      tk σ2 H2 fun y H4 => tv σ2 H4 fun z H5 => ∃ b ks es, y = .ref b ∧ KeyAt H5 b ks ∧ LfAt X.prog X.w H5 D es ∧ ks ∉ es.map (·.1) ∧ es.length < 1000 ∧ Nx (upd H5 D (lfO X.prog X.w D (es ++ [(ks, b, z)])))))
    (hR : ∀ s' H', Inv (X.blk s3 H3 scope ce fp) [] (wipe σ (own.map (·.2))) H' s' → Qd H' → R (.ok .next) s')
    (m0 : Nat) {s4 : Shared} (I4 : Inv (X.blk s3 H3 scope ce fp) [] (wipe σ (own.map (·.2))) H3 s4) (st4 : tn 0 s4.heap) (nfp : ∀ b ∈ fp, H3 b = none) (w0 : W 0 m0 H3) :
    codeAny (model X.prog X.w) X.A (.compLoop (.DictComp kx vx [⟨tg, iter, [], 0⟩] scope pos) 0 (.ref it) (.ref D) ce) R s4 := by
  have calmAt : ∀ {σ' : L2.St} {Hx : Hp} {sx : Shared}, Inv (X.blk s3 H3 scope ce fp) [] σ' Hx sx → (∀ b ∈ fp, Hx b = none) → ∀ b ∈ fp, FpOk (X.blk s3 H3 scope ce fp) [] Hx b := by
    intro σ' Hx sx J' clear b hb
    have q := J'.ok.exf b hb
    exact ⟨clear b hb, q.1, J'.ok.exfs b hb, Or.inl hb, fun x c e => q.2 x c e, fun p hp => absurd (show p ∈ ([] : List (Addr × Obj)) ++ [] from hp) (by simp)⟩
  refine compLoop_anyD (fun left sx => ∃ n Hx, Inv (X.blk s3 H3 scope ce fp) [] (wipe σ (own.map (·.2))) Hx sx ∧ tn n sx.heap ∧ (∀ b ∈ fp, Hx b = none) ∧ W n left Hx) ?_ m0 ⟨0, H3, I4, st4, nfp, w0⟩
  rintro left sa ⟨n, Ha, Ia, ta, na, wa⟩
  rcases turn n left Ha wa with ⟨atEnd, qe⟩ | ⟨more, Nx, hNx, body⟩
  · refine thnF (T.done (X.blk s3 H3 scope ce fp) rfl rfl rfl hc n [] sa _ Ha (fun _ _ => False) Ia (calmAt Ia na) ta atEnd) fun r sb ⟨er, Ib⟩ => ?_
    rw [er]
    exact hR sb Ha Ib qe
  · refine thnF (T.item (X.blk s3 H3 scope ce fp) rfl rfl rfl hc n [] sa _ Ha (fun _ _ => False) Ia (calmAt Ia na) ta more) fun r sb ⟨uv, er, hb⟩ => ?_
    rw [er]
    refine thnF hb fun _ sc ⟨x, Hc, Ic, rx, yc, tc, nc⟩ => ?_
    have Ip := Ic.pinned (calmAt Ic nc) (T.obj _ _ tc)
    refine thnF (pg.run _ sc _ Hc x uv _ Ip rx (body x Hc yc)) fun _ sd ⟨σd, Hd, Id, ew, qd⟩ => ?_
    refine thnF ((pts_nil (X := X.blk s3 H3 scope ce fp)).run _ sd σd Hd (fun b Hb => b = true ∧ Hb = Hd) Id ⟨rfl, rfl⟩) fun b se ⟨Hb, Ie, eb, eH⟩ => ?_
    subst eb eH
    rw [if_pos rfl]
    refine thnF (pk.run _ se σd Hb _ Ie qd) fun uk sf ⟨yk, Hf, If, rk, qf⟩ => ?_
    refine thnF (pv.run _ sf σd Hf _ If qf) fun ux sg ⟨yv, Hg, Ig, rv, kb, ks, es, ek, ka, la, nw, few, nx⟩ => ?_
    subst ek
    obtain rfl : uk = Value.ref kb := rk
    obtain ⟨_, zl, ys, r, dd⟩ := lf_dict Ig la
    have hz : ys.length ≤ sizeLine := by rw [← Paired.length r]; exact szK zl
    refine wpAny_dictSet_heap (hsz := hz) (knd := tupleKind (leafKind X.prog X.w)) (show X.A.units < cLine by omega) (ka.is Ig.hok) dd fun h' dd' hs => ?_
    have Ih := lf_store (t' := sg.toks + (tupleKind (leafKind X.prog X.w)).draws ks) Ig la nw few r rv dd' hs
    obtain ⟨left', lt, wn⟩ := hNx _ nx
    have pinned : ∀ b ∈ fp, ∀ ob, sc.heap.get? b = some ob → h'.get? b = some ob ∧ (upd Hg D (lfO X.prog X.w D (es ++ [(ks, kb, yv)]))) b = none := by
      intro b hb ob e
      have z := Ih.pin (b, ob) (List.mem_append_right _ (List.mem_append_right _ (mem_pinsAt hb e)))
      exact ⟨z.1, z.2.1⟩
    have len : (wipe σ (own.map (·.2))).length = σd.length := by rw [← ew, wipe_length]
    refine ⟨left', lt, n + 1, _, (Ih.unpinned (pins := [])).weak len (fun j v e => ?_), T.keep _ _ _ tc fun b hb ob e => (pinned b hb ob e).1, fun b hb => ?_, wn⟩
    · rw [← ew] at e
      exact (wipe_some e).1
    · obtain ⟨ob, e, _⟩ := T.obj _ _ tc b hb
      exact (pinned b hb ob e).2
/-- name = {k: v for target in iter}, the name a local -/
theorem ps_setLfC {i : Nat} {y : Str} {py : Pos} {kx vx tg iter : Expr} {scope : Scope} {own : List (Str × Nat)} {pos spos : Pos} {wi : TI} {g : TG} {tk tv : TE} (hc : X.calm = true) (hu : X.A.units + 1 < cLine) (hN : X.N.Nodup) (hy : X.N[i]? = some y)
    (hyl : X.env.scope.names.lookup y = some .local) (hsw : swapsWith (.DictComp kx vx [⟨tg, iter, [], 0⟩] scope pos) (some (.Name y py)) spos.line X.env = pure true) (hi : PI X tg iter wi) (ok : BlkOk X.N X.env.scope scope own)
    (hg : ∀ (s : Shared) (H : Hp) (C : Addr) (cl : List (Str × Addr)) (fp : List Addr), PG (X.blk s H scope (compEnvC scope cl C X.env) fp) tg g)
    (hk : ∀ (s : Shared) (H : Hp) (C : Addr) (cl : List (Str × Addr)) (fp : List Addr), PE (X.blk s H scope (compEnvC scope cl C X.env) fp) kx tk)
    (hv : ∀ (s : Shared) (H : Hp) (C : Addr) (cl : List (Str × Addr)) (fp : List Addr), PE (X.blk s H scope (compEnvC scope cl C X.env) fp) vx tv) (hs : ∀ x, foldedSetIterable iter X.env x = pure x := by intro _; rfl) :
    PS X (.Assign [.Name y py] (.DictComp kx vx [⟨tg, iter, [], 0⟩] scope pos) spos) (tAsg (tLfC X.prog X.w wi g tk tv (own.map (·.2))) (gName i)) := by
  refine ⟨fun pins s σ H Dn I h => ?_⟩
  rw [exec_Assign_Name_used _ _ _ _ hsw]
  refine wpAny_bind (wpAny_standAt (wpAny_bind ?_))
  show wpAny _ X.A (do let _ ← comprehension (.DictComp kx vx [⟨tg, iter, [], 0⟩] scope pos) scope X.env (firstIterPos [⟨tg, iter, [], 0⟩] pos) newDict false (eval iter X.env) (some (assign (.Name y py) X.env))) _ _ s
  have h : tLfC X.prog X.w wi g tk tv (own.map (·.2)) σ H (fun x H1 => gName i x σ H1 Dn.nx) := h
  have freeC : ∀ z ∈ scope.names, z.2 = .free → ∃ c, X.env.cells.lookup z.1 = some c := by
    intro z hz e
    rcases ok.free z hz e with k | k
    · exact I.ok.has _ (.inl k)
    · exact I.ok.has _ (.inr k)
  refine wpAny_bind (thn (Q := fun _ s' => SP X pins Dn .next s') ?_ fun _ s' hq => wpAny_pure (wpAny_pure hq))
  refine wpAny_comprehension_free rfl hs (closure_ok freeC) ok.kind (fun z hz e => by rw [ok.uniq z hz, e]) (thn (hi.run pins s σ H _ I h) fun xv s1 hx => thn hx fun itv s2 came => ?_)
  obtain ⟨it, fp, tn, J, H2, ei, I2, T, st2, f2, q⟩ := came
  subst ei
  refine wpAny_newObj_type (newEnv_comp ?_)
  have freshD : H2 s2.heap.objs.size = none := I2.hok.fresh (Nat.le_refl _)
  obtain ⟨W, ⟨m0, w0⟩, turn⟩ := q s2.heap.objs.size freshD
  have I3 := I2.laid (a := s2.heap.objs.size) (o := lfO X.prog X.w s2.heap.objs.size []) (h' := s2.heap.push { cls := .type "dict", data := .dict #[] }) (t' := s2.toks) (fun _ _ e => Heap.get?_push_of_some _ e) (Nat.le_refl _) (lf_new s2.heap I2.big)
  generalize hD : s2.heap.objs.size = D at I3 w0 turn freshD ⊢
  generalize hs3 : ({ s2 with heap := s2.heap.push { cls := .type "dict", data := .dict #[] } } : Shared) = s3 at I3 ⊢
  have e3 : s3.heap = s2.heap.push { cls := .type "dict", data := .dict #[] } := by rw [← hs3]
  have f3 : ∀ b ∈ fp, FpOk X pins (upd H2 D (lfO X.prog X.w D [])) b ∧ b < s3.heap.objs.size := by
    intro b hb
    obtain ⟨ob, eo, _⟩ := T.obj _ _ st2 b hb
    have lt := Heap.lt_size eo
    refine ⟨⟨?_, (f2 b hb).2⟩, by rw [e3, Heap.size_push]; exact Nat.lt_succ_of_lt lt⟩
    rw [upd_ne (by rw [← hD]; exact Nat.ne_of_lt lt)]
    exact (f2 b hb).1
  have st3 : tn 0 s3.heap := T.keep _ _ _ st2 fun b _ ob e => by rw [e3]; exact Heap.get?_push_of_some _ e
  have I4 := block_start I3 ok hN f3
  have pgx := hg s3 (upd H2 D (lfO X.prog X.w D [])) s3.heap.objs.size (cellsFrom (s3.heap.objs.size + 1) scope.names (cloFrom X.env.cells scope.names [])) fp
  have pkx := hk s3 (upd H2 D (lfO X.prog X.w D [])) s3.heap.objs.size (cellsFrom (s3.heap.objs.size + 1) scope.names (cloFrom X.env.cells scope.names [])) fp
  have pvx := hv s3 (upd H2 D (lfO X.prog X.w D [])) s3.heap.objs.size (cellsFrom (s3.heap.objs.size + 1) scope.names (cloFrom X.env.cells scope.names [])) fp
  generalize hH3 : upd H2 D (lfO X.prog X.w D []) = H3 at I3 I4 pgx pkx pvx w0 f3
  generalize hce : compEnvC scope (cellsFrom (s3.heap.objs.size + 1) scope.names (cloFrom X.env.cells scope.names [])) s3.heap.objs.size X.env = ce at I4 pgx pkx pvx
  have cl : ce.locals = s3.heap.objs.size := by rw [← hce]; rfl
  have st4 : tn 0 (pushCells (s3.heap.push { cls := .type "dict", data := .dict #[] }) scope.names) := T.keep _ _ _ st3 fun b _ ob e => pushCells_keeps _ _ _ _ (Heap.get?_push_of_some _ e)
  have loop := lfc_loop (R := compPost (model X.prog X.w) X.A X.xe (some (assign (.Name y py) X.env)) (fun _ s' => SP X pins Dn .next s') (.ref D) s3.heap.objs.size) (kx := kx) (vx := vx) (iter := iter) (pos := pos) hc hu T pgx pkx pvx W turn (fun s' H' I' qd => ?_) m0 I4 st4 (fun b hb => (f3 b hb).1.1) w0
  · show codeAny _ _ (.compStart (.DictComp kx vx [⟨tg, iter, [], 0⟩] scope pos) 0 (.ref it) (.ref D) (compEnvC scope (cellsFrom (s3.heap.objs.size + 1) scope.names (cloFrom X.env.cells scope.names [])) s3.heap.objs.size X.env)) _ { s3 with heap := pushCells (s3.heap.push { cls := .type "dict", data := .dict #[] }) scope.names }
    rw [hce]
    exact codeAny_compStart_dict loop (T.self X.A 0 _ _ _ st4 loop)
  · have Ic : Inv X pins σ H' s' := I3.call' (ch := fp) I'.os I'.base I'.hok I'.bare fun b hb => ⟨(f3 b hb).1.2.2.2.1, (f3 b hb).1.2.1, (f3 b hb).1.2.2.2.2.1, (f3 b hb).1.2.2.2.2.2⟩
    have nC : H' s3.heap.objs.size = none := by
      have z : H' ce.locals = none := I'.free
      rw [cl] at z
      exact z
    obtain ⟨mC, hn, _⟩ := I'.loc
    have hn : s'.heap.Ns ce.locals mC := hn
    rw [cl] at hn
    obtain ⟨_, f1, _, fo, fc, fpn⟩ := I3.fpOk (Nat.le_refl _) nC
    show wpAny _ _ (assign (.Name y py) X.env (.ref D)) _ _ _
    refine wpAny_assign_Name (store_ok2 (v := V.ref D) Ic hN hy (.inl hyl) rfl (fun sn In ⟨a, sb, ha⟩ => ?_) (.inr hyl))
    have away : s3.heap.objs.size ≠ a := by
      rcases ha with z | z
      · rw [z]
        exact f1
      · exact fun e => fc y a z e.symm
    exact ⟨mC, hn.sameBut sb away, fun h3 sb3 => ⟨_, H', In.turned (t' := sn.toks) (fun b ob hb e => (sb3.2 b hb).trans e) nC f1 fo fc fpn, qd⟩⟩
end
end K67
-- deps: LeafComp
namespace K67
open PySem PySem.Spec PyProof.Rows L2
section
variable {X : Cx}
/-- name = {k: v for target in iter if ..} with keys ints or texts, the name a local -/
theorem ps_setDc {i : Nat} {y : Str} {py : Pos} {kx vx tg iter : Expr} {ifs : List Expr} {scope : Scope} {own : List (Str × Nat)} {pos spos : Pos} {wi : TI} {g : TG} {tt : TT} {tk tv : TE} (hc : X.calm = true) (hN : X.N.Nodup) (hy : X.N[i]? = some y)
    (hyl : X.env.scope.names.lookup y = some .local) (hsw : swapsWith (.DictComp kx vx [⟨tg, iter, ifs, 0⟩] scope pos) (some (.Name y py)) spos.line X.env = pure true) (hi : PI X tg iter wi) (ok : BlkOk X.N X.env.scope scope own)
    (hg : ∀ (s : Shared) (H : Hp) (C : Addr) (cl : List (Str × Addr)) (fp : List Addr), PG (X.blk s H scope (compEnvC scope cl C X.env) fp) tg g)
    (ht : ∀ (s : Shared) (H : Hp) (C : Addr) (cl : List (Str × Addr)) (fp : List Addr), PTs (X.blk s H scope (compEnvC scope cl C X.env) fp) ifs tt)
    (hk : ∀ (s : Shared) (H : Hp) (C : Addr) (cl : List (Str × Addr)) (fp : List Addr), PE (X.blk s H scope (compEnvC scope cl C X.env) fp) kx tk)
    (hv : ∀ (s : Shared) (H : Hp) (C : Addr) (cl : List (Str × Addr)) (fp : List Addr), PE (X.blk s H scope (compEnvC scope cl C X.env) fp) vx tv) (hs : ∀ x, foldedSetIterable iter X.env x = pure x := by intro _; rfl) :
    PS X (.Assign [.Name y py] (.DictComp kx vx [⟨tg, iter, ifs, 0⟩] scope pos) spos) (tAsg (tDc wi g tt tk tv (own.map (·.2))) (gName i)) := by
  refine ⟨fun pins s σ H Dn I h => ?_⟩
  rw [exec_Assign_Name_used _ _ _ _ hsw]
  refine wpAny_bind (wpAny_standAt (wpAny_bind ?_))
  show wpAny _ X.A (do let _ ← comprehension (.DictComp kx vx [⟨tg, iter, ifs, 0⟩] scope pos) scope X.env (firstIterPos [⟨tg, iter, ifs, 0⟩] pos) newDict false (eval iter X.env) (some (assign (.Name y py) X.env))) _ _ s
  have h : tDc wi g tt tk tv (own.map (·.2)) σ H (fun x H1 => gName i x σ H1 Dn.nx) := h
  refine wpAny_bind (thn (dc_core (Qf := fun _ s' => SP X pins Dn .next s') hc hN I hi ok hg ht hk hv hs h fun Dd C sx mC H' Ic qd hn fpC => ?_) fun _ s' hq => wpAny_pure (wpAny_pure hq))
  obtain ⟨nC, f1, _, fo, fc, fpn⟩ := fpC
  show wpAny _ _ (assign (.Name y py) X.env (.ref Dd)) _ _ _
  refine wpAny_assign_Name (store_ok2 (v := V.ref Dd) Ic hN hy (.inl hyl) rfl (fun sn In ⟨a, sb, ha⟩ => ?_) (.inr hyl))
  have away : C ≠ a := by
    rcases ha with z | z
    · rw [z]
      exact f1
    · exact fun e => fc y a z e.symm
  exact ⟨mC, hn.sameBut sb away, fun h3 sb3 => ⟨_, H', In.turned (t' := sn.toks) (fun b ob hb e => (sb3.2 b hb).trans e) nC f1 fo fc fpn, qd⟩⟩
/-- on one line, the target no name of the comprehension's own -/
theorem swd_true {kx vx : Expr} {gs : List Comprehension} {scope : Scope} {pos py : Pos} {y : Str} {l : Nat} {env : Env} (hk : env.scope.kind = .function) (hy : env.scope.names.lookup y = some .local) (hl : (py.line == pos.line) = true)
    (ha : (scope.names.any fun (n, k) => n == y && (k == .local || k == .cell)) = false) : swapsWith (.DictComp kx vx gs scope pos) (some (.Name y py)) l env = pure true := by
  have k1 : env.kindOf y = some .local := hy
  have k2 : env.blockKind = .function := by
    unfold Env.blockKind
    rw [hk]
    rfl
  unfold swapsWith
  simp only [k2, k1, ha, Expr.pos, hl]
  rfl
/-- such a comprehension over anything that walks -/
theorem dc_it {J : It} {n : Nat} {G : Hp → Prop} {Y : Nat → Hp → V → Hp → Prop} (wk : Walk J n G Y) {g : TG} {tt : TT} {tk tv : TE} {vs : List Nat} {σ : L2.St} {H1 : Hp} {Dd : Addr} {Qd : Hp → Prop} (Pv : Nat → Hp → Prop) (h0 : Pv 0 (upd H1 Dd (.dK []))) (hG : ∀ i H, i ≤ n → Pv i H → G H)
    (hs : ∀ i x H H', i < n → Pv i H → Y i H x H' → g x (wipe σ vs) H' fun σ2 H2 => wipe σ2 vs = wipe σ vs ∧ tt σ2 H2 fun b H3 =>
      if b = true then tk σ2 H3 fun y H4 => tv σ2 H4 fun z H5 => ∃ kvs k, y = kV k ∧ H5 Dd = some (.dK kvs) ∧ kvs.length < sizeLine ∧ Pv (i + 1) (upd H5 Dd (.dK (putK kvs k z))) else Pv (i + 1) H3) (hd : ∀ H, Pv n H → Qd H) :
    ∃ W : Nat → Nat → Hp → Prop, (∃ m, W 0 m (upd H1 Dd (.dK []))) ∧ ∀ i m H, W i m H →
      (J.stop i H ∧ Qd H) ∨ (J.go i H ∧ ∃ Nx : Hp → Prop, (∀ H', Nx H' → ∃ m', m' < m ∧ W (i + 1) m' H') ∧ ∀ x H', J.yld i H x H' → g x (wipe σ vs) H' fun σ2 H2 => wipe σ2 vs = wipe σ vs ∧ tt σ2 H2 fun b H3 =>
        if b = true then tk σ2 H3 fun y H4 => tv σ2 H4 fun z H5 => ∃ kvs k, y = kV k ∧ H5 Dd = some (.dK kvs) ∧ kvs.length < sizeLine ∧ Nx (upd H5 Dd (.dK (putK kvs k z))) else Nx H3) := by
  refine ⟨fun i m H => m = n - i ∧ i ≤ n ∧ Pv i H, ⟨n, rfl, Nat.zero_le _, h0⟩, ?_⟩
  rintro i m H ⟨rfl, hi, p⟩
  rcases Nat.lt_or_ge i n with lt | ge
  · exact .inr ⟨wk.goes i H lt (hG i H hi p), Pv (i + 1), fun H' p' => ⟨n - (i + 1), by omega, rfl, lt, p'⟩, fun x H' y => hs i x H H' lt p (wk.yields i H x H' lt (hG i H hi p) y)⟩
  · obtain rfl : i = n := by omega
    exact .inl ⟨wk.stops H (hG i H hi p), hd H p⟩
theorem lfc_it {P : Program} {w : World} {J : It} {n : Nat} {G : Hp → Prop} {Y : Nat → Hp → V → Hp → Prop} (wk : Walk J n G Y) {g : TG} {tk tv : TE} {vs : List Nat} {σ : L2.St} {H1 : Hp} {Dd : Addr} {Qd : Hp → Prop} (Pv : Nat → Hp → Prop) (h0 : Pv 0 (upd H1 Dd (lfO P w Dd []))) (hG : ∀ i H, i ≤ n → Pv i H → G H)
    (hs : ∀ i x H H', i < n → Pv i H → Y i H x H' → g x (wipe σ vs) H' fun σ2 H2 => wipe σ2 vs = wipe σ vs ∧
      tk σ2 H2 fun y H4 => tv σ2 H4 fun z H5 => ∃ b ks es, y = .ref b ∧ KeyAt H5 b ks ∧ LfAt P w H5 Dd es ∧ ks ∉ es.map (·.1) ∧ es.length < 1000 ∧ Pv (i + 1) (upd H5 Dd (lfO P w Dd (es ++ [(ks, b, z)])))) (hd : ∀ H, Pv n H → Qd H) :
    ∃ W : Nat → Nat → Hp → Prop, (∃ m, W 0 m (upd H1 Dd (lfO P w Dd []))) ∧ ∀ i m H, W i m H →
      (J.stop i H ∧ Qd H) ∨ (J.go i H ∧ ∃ Nx : Hp → Prop, (∀ H', Nx H' → ∃ m', m' < m ∧ W (i + 1) m' H') ∧ ∀ x H', J.yld i H x H' → g x (wipe σ vs) H' fun σ2 H2 => wipe σ2 vs = wipe σ vs ∧
        tk σ2 H2 fun y H4 => tv σ2 H4 fun z H5 => ∃ b ks es, y = .ref b ∧ KeyAt H5 b ks ∧ LfAt P w H5 Dd es ∧ ks ∉ es.map (·.1) ∧ es.length < 1000 ∧ Nx (upd H5 Dd (lfO P w Dd (es ++ [(ks, b, z)])))) := by
  refine ⟨fun i m H => m = n - i ∧ i ≤ n ∧ Pv i H, ⟨n, rfl, Nat.zero_le _, h0⟩, ?_⟩
  rintro i m H ⟨rfl, hi, p⟩
  rcases Nat.lt_or_ge i n with lt | ge
  · exact .inr ⟨wk.goes i H lt (hG i H hi p), Pv (i + 1), fun H' p' => ⟨n - (i + 1), by omega, rfl, lt, p'⟩, fun x H' y => hs i x H H' lt p (wk.yields i H x H' lt (hG i H hi p) y)⟩
  · obtain rfl : i = n := by omega
    exact .inl ⟨wk.stops H (hG i H hi p), hd H p⟩
/-- a dict given back from under a lock -/
theorem same_unlock {H H' : Hp} {d : Addr} {od : Obj} {u : HO} (hd : H d = some u) (s : Same (upd H d (.frz od u)) H') : Same H (upd H' d u) := fun b o e => by
  by_cases q : b = d
  · subst q
    rw [upd_same]
    exact hd.symm.trans e
  · rw [upd_ne q]
    exact s b o (by rw [upd_ne q]; exact e)
theorem r_setDc {wi : TI} {g : TG} {tt : TT} {tk tv : TE} {vs : List Nat} {σ : L2.St} {H : Hp} {Q : VK} (q : wi σ H fun J H1 => ∀ D, H1 D = none → ∃ W : Nat → Nat → Hp → Prop, (∃ m, W 0 m (upd H1 D (.dK []))) ∧ ∀ i m H, W i m H →
  (J.stop i H ∧ Q (.ref D) H) ∨ (J.go i H ∧ ∃ Nx : Hp → Prop, (∀ H', Nx H' → ∃ m', m' < m ∧ W (i + 1) m' H') ∧ ∀ x H', J.yld i H x H' → g x (wipe σ vs) H' fun σ2 H2 => wipe σ2 vs = wipe σ vs ∧ tt σ2 H2 fun b H3 =>
    if b = true then tk σ2 H3 fun y H4 => tv σ2 H4 fun z H5 => ∃ kvs k, y = kV k ∧ H5 D = some (.dK kvs) ∧ kvs.length < sizeLine ∧ Nx (upd H5 D (.dK (putK kvs k z))) else Nx H3)) : tDc wi g tt tk tv vs σ H Q := q
theorem r_cat {H : Hp} {Q : VK} {l b : Addr} {xs zs : List V} (h1 : H l = some (.lst xs)) (h2 : H b = some (.lst zs)) (z : xs.length + zs.length ≤ sizeLine) (q : ∀ p, H p = none → Q (.ref p) (upd H p (.lst (xs ++ zs)))) : rCat (.ref l) (.ref b) H Q := ⟨l, b, xs, zs, rfl, rfl, h1, h2, z, q⟩
end
end K67
-- deps: DictSet Shown
namespace K67
open PySem PySem.Spec PyProof.Rows L2
section
variable {P : Program} {w : World} {K : PySem.W.Frag} {mg : Str → Option Value} {base : Heap} {D : Adr}
/-- what each rule of a ring hears -/
def hdS (cal : Bool) (nm : Str) : Str := bif cal then "timeout" else nm
theorem RingAt.hears {H : Hp} {o : Addr} {cal : Bool} {ms : List Str} {nm : Str} {k : Nat} {calm : List Str} {rs : List Addr} (O1 : RingAt D H o cal ms nm k calm rs) {r : Addr} (h : r ∈ rs) : ∃ row, RuleAt D.cr H r row ∧ row[1]? = some (.str (hdS cal nm)) := by
  obtain ⟨i, hi⟩ := List.mem_iff_getElem?.mp h
  refine ⟨_, O1.rules i r hi, ?_⟩
  cases cal <;> rfl
/-- the names that are heard, but timeouts -/
def heard (cal : Bool) (nm : Str) : List Str := bif cal then [] else [nm]
abbrev sp_names_of (K : PySem.W.Frag) (D : Adr) : Sp := Sp2 fun a b H Q => ∃ o1 o2 cal ms nm k1 calm1 rs1 k2 calm2 rs2, a = .ref o1 ∧ b = .ref o2 ∧ Nms ms nm ∧ RingAt D H o1 cal ms nm k1 calm1 rs1 ∧ RingAt D H o2 cal ms nm k2 calm2 rs2 ∧
  ∀ H' p (ex : Str), Same H H' → H' p = some (.lst ((heard cal nm ++ [ex]).map V.str)) → ex ≠ "timeout" → ex ≠ hdS cal nm → Q (.ref p) H'
def knownD (hd : Str) (i : Nat) : List (Key × V) := if i = 0 then [] else [(.inr hd, .bl true)]
theorem knownD_put (hd : Str) (i : Nat) : putK (knownD hd i) (.inr hd) (.bl true) = knownD hd (i + 1) := by
  unfold knownD
  by_cases e : i = 0
  · rw [if_pos e, if_neg (Nat.succ_ne_zero i)]
    rfl
  · rw [if_neg e, if_neg (Nat.succ_ne_zero i)]
    unfold putK
    rw [if_pos (by simp)]
    simp
theorem knownD_len (hd : Str) (i : Nat) : (knownD hd i).length < sizeLine := by
  refine Nat.lt_of_le_of_lt (m := 1) ?_ (by decide)
  unfold knownD
  split
  · exact Nat.zero_le _
  · exact Nat.le_refl _
theorem known_get (hd z : Str) : valV [((.inr hd : Key), V.bl true)] (.inr z) = if hd = z then some (.bl true) else none := by
  by_cases e : hd = z
  · rw [if_pos e]
    exact valV_pos (p := ((.inr hd : Key), V.bl true)) (by rw [e])
  · rw [if_neg e]
    exact valV_neg (p := ((.inr hd : Key), V.bl true)) fun q => e (Sum.inr.inj q)
theorem perm_small {ys : List Str} {cal : Bool} {nm : Str} (h : ys.Perm (heard cal nm)) : ys = heard cal nm := by
  cases cal
  · exact List.perm_singleton.mp h
  · exact List.perm_nil.mp h
theorem r_dnot {td ty : TE} {σ : L2.St} {H : Hp} {Q : VK} (q : ty σ H fun y H1 => td σ H1 fun x H2 => ∃ a o, x = .ref a ∧ DGet H2 a y o ∧ Q (.bl (!o.isSome)) H2) : tDNotIn ty td σ H Q := q
theorem r_keys {td : TE} {σ : L2.St} {H : Hp} {R : It → Hp → Prop} (q : td σ H fun x H1 => ∃ d o, x = .ref d ∧ ((∃ kvs, H1 d = some (.frz o (.dK kvs)) ∧ R (Itk d o kvs) H1) ∨ ∃ kvs, H1 d = some (.frz o (.dT kvs)) ∧ R (Itkt d o kvs) H1)) : iKeys td σ H R := q
theorem r_sortedS {H : Hp} {Q : VK} {a : Addr} {xs : List Str} (h : H a = some (.lst (xs.map V.str))) (l : xs.length < 64) (q : ∀ (ys : List Str) (p : Addr), ys.Perm xs → sortedS ys = true → H p = none → Q (.ref p) (upd H p (.lst (ys.map V.str)))) : rSortedS K [.ref a] H Q := ⟨a, xs, rfl, .of h, l, q⟩
theorem sc_names_of : FnScope ["one", "other", "known", "names", "first", "second", "rule", "name"] ["one", "other"] (defScope (top 44)) := ⟨rfl, rfl, rfl, by decide +kernel, rfl, by decide +kernel, by decide +kernel⟩
theorem ok_names_of (F : Df K mg "names_of" 44) (B : Bl mg) (T : Txt mg D) (R : RuleC P w K mg base D.cr) (O : RoleC P w K mg base D.co) : Cal P w K mg base 3 "names_of" (sp_names_of K D) := by
  have sc := sc_names_of
  refine mk_cal F sc len2 (fun _ _ _ _ _ _ us hl => match us, hl with | [_, _], _ => rfl) (fun f cdv A outer s H vs Q E hr h => ?_)
  obtain ⟨a0, a1, rfl, h⟩ := h
  refine ⟨_, (pss_cons (ps_setDc (i := 2) (own := [("rule", 6)]) (g := gName 6) rfl sc.nd rfl rfl (swd_true rfl rfl rfl (by decide +kernel)) (pi_list (pe_op op_cat (pe_rules O (hr.mono (by decide)) (pv 0)) (pe_rules O (hr.mono (by decide)) (pv 1)))) (blkOk_by (own := [("rule", 6)]) (N := ["one", "other", "known", "names", "first", "second", "rule", "name"]) (sc := defScope (top 44)) (by decide +kernel)) (fun _ _ _ _ _ => pg_name (i := 6) sc.nd rfl (Or.inl rfl)) (fun _ _ _ _ _ => pts_one (pt_cmpR op_is1 (pe_R1 R (hr.mono (by decide)) (pv 6)) pe_non (nomark _))) (fun _ _ _ _ _ => (pe_R1 R (hr.mono (by decide)) (pv 6))) (fun _ _ _ _ _ => pe_bl))
  (pss_cons (ps_set (i := 3) sc.nd rfl (.inl rfl) (pe_callB cr_sortedS rfl B.sorted_ (by decide +kernel) (pa_cons (pe_lock (pe_lc (own := [("name", 7)]) (g := gName 7) rfl sc.nd (pi_keys (pv 2)) (blkOk_by (own := [("name", 7)]) (N := ["one", "other", "known", "names", "first", "second", "rule", "name"]) (sc := defScope (top 44)) (by decide +kernel)) (fun _ _ _ _ _ => pg_name (i := 7) sc.nd rfl (Or.inl rfl)) (fun _ _ _ _ _ => pts_one (pt_cmpR op_ne (pv 7) (pe_gc rfl T.TIMEOUT) (nomark _))) (fun _ _ _ _ _ => (pe_callTy call_strS rfl B.str_ (by decide +kernel) (pa_cons (pv 7) pa_nil))))) pa_nil)))
  (pss_cons (ps_for PassesOwn.never rfl (pi_str (pe_gc rfl T.LETTERS)) (pg_name (i := 4) sc.nd rfl (.inl rfl)) (pss_one (ps_for PassesOwn.never rfl (pi_str (pe_gc rfl T.LETTERS)) (pg_name (i := 5) sc.nd rfl (.inl rfl)) (pss_one (ps_if (pt_cmp (pc_dnotin (hu_of hr) (pe_op op_addT (pv 4) (pv 5)) (pv 2))) (pss_one (ps_ret (pe_op op_cat (pv 3) (pe_lst (pa_cons (pe_op op_addT (pv 4) (pv 5)) pa_nil))))) pss_nil)))))
  (pss_one (ps_ret (pv 3)))))), ?_⟩
  obtain ⟨o1, o2, cal, ms, nm, k1, calm1, rs1, k2, calm2, rs2, rfl, rfl, N, O1, O2, q⟩ := h
  have z1 : rs1.length ≤ 6 := by rw [O1.len]; exact O1.k6
  have z2 : rs2.length ≤ 6 := by rw [O2.len]; exact O2.k6
  walk_at "rd"
  refine r_setDc ?_
  walk_at "rd"
  refine r_rules O1.role (by omega) fun p1 hp1 => ?_
  walk_at "rd"
  have s1 := same_upd (o := .lst (rs1.map V.ref)) hp1
  refine r_rules (O2.role.same s1) (by omega) fun p2 hp2 => ?_
  have s2 := same_upd' (o := .lst (rs2.map V.ref)) s1 hp2
  refine r_cat (by rw [upd_ne (ne_of_none upd_same hp2)]; exact upd_same) upd_same (by rw [List.length_map, List.length_map]; exact szK (by omega)) fun p3 hp3 => ?_
  have s3 := same_upd' (o := .lst (rs1.map V.ref ++ rs2.map V.ref)) s2 hp3
  refine ⟨p3, rfl, ⟨_, .of upd_same⟩, fun dk hdk => ?_⟩
  refine dc_it (walk_list (xs := rs1.map V.ref ++ rs2.map V.ref)) (fun i H' => Same H H' ∧ H' p3 = some (.lst (rs1.map V.ref ++ rs2.map V.ref)) ∧ H' dk = some (.dK (knownD (hdS cal nm) i))) ⟨same_upd' s3 hdk, by rw [upd_ne (ne_of_none upd_same hdk)]; exact upd_same, upd_same⟩ (fun _ _ _ h => .of h.2.1) ?_ ?_
  · rintro i x H1 H2 hi ⟨g1, g2, g3⟩ ⟨rfl, hx⟩
    have hm : ∃ r, x = .ref r ∧ ∃ row, RuleAt D.cr H r row ∧ row[1]? = some (.str (hdS cal nm)) := by
      rw [← List.map_append] at hx
      obtain ⟨r, hr1, rfl⟩ := map_ref hx
      refine ⟨r, rfl, ?_⟩
      rcases List.mem_append.mp (List.mem_of_getElem? hr1) with m | m
      · exact O1.hears m
      · exact O2.hears m
    obtain ⟨r, rfl, row, hR, hrow⟩ := hm
    walk_at "rd"
    refine ⟨rfl, ?_⟩
    walk_at "rd"
    refine r_R (hR.same g1) hrow ?_
    walk_at "rd"
    refine if_t rfl ?_
    walk_at "rd"
    refine r_R (hR.same g1) hrow ?_
    walk_at "rd"
    have hn : H dk = none := none_of s3 hdk
    have n3 : dk ≠ p3 := fun e => by rw [e, upd_same] at hdk; cases hdk
    exact ⟨_, .inr (hdS cal nm), rfl, g3, knownD_len _ _, same_set g1 hn, by rw [upd_ne n3.symm]; exact g2, by rw [knownD_put]; exact upd_same⟩
  · rintro H1 ⟨g1, g2, g3⟩
    have hl : (rs1.map V.ref ++ rs2.map V.ref).length ≠ 0 := by
      rw [List.length_append, List.length_map, O1.len]
      have := O1.k1
      omega
    rw [show knownD (hdS cal nm) (rs1.map V.ref ++ rs2.map V.ref).length = [(.inr (hdS cal nm), .bl true)] from if_neg hl] at g3
    walk_at "rd"
    refine ⟨dk, _, g3, trivial, fun od => ?_⟩
    walk_at "rd"
    refine r_keys ?_
    walk_at "rd"
    refine ⟨dk, od, rfl, .inl ⟨_, upd_same, fun pl hpl => ?_⟩⟩
    refine lc_it walk_keys (fun i H' => Same (upd H1 dk (.frz od (.dK [(.inr (hdS cal nm), .bl true)]))) H' ∧ H' pl = some (.lst ((if i = 0 then [] else heard cal nm).map V.str))) ⟨same_upd hpl, upd_same⟩ (fun _ _ _ h => h.1 _ _ upd_same) ?_ ?_
    · rintro i x H2 H3 hi ⟨e1, e2⟩ ⟨rfl, ke, va, hk, rfl⟩
      obtain rfl : i = 0 := by simpa using hi
      obtain ⟨rfl, rfl⟩ : ke = .inr (hdS cal nm) ∧ va = .bl true := by
        have := Option.some.inj hk
        exact ⟨(Prod.mk.inj this).1.symm, (Prod.mk.inj this).2.symm⟩
      have sk : ∀ {u : HO}, Same (upd H1 dk (.frz od (.dK [(.inr (hdS cal nm), .bl true)]))) (upd H3 pl u) := fun {u} => same_set e1 (none_of (Same.refl _) hpl)
      walk_at "rd"
      refine ⟨rfl, ?_⟩
      walk_at "rd"
      cases cal with
      | true =>
        refine if_f (show (!decide (V.str "timeout" = V.str "timeout")) = false by decide +kernel) ?_
        exact ⟨e1, e2⟩
      | false =>
        refine if_t (show (!decide (V.str nm = V.str "timeout")) = true by rw [dec_str, decide_eq_false N.gn.ne]; rfl) ?_
        walk_at "rd"
        exact ⟨nm, rfl, [], e2, (by decide : 0 < sizeLine), sk, upd_same⟩
    · rintro H2 ⟨e1, e2⟩
      have e2 : H2 pl = some (.lst ((heard cal nm).map V.str)) := e2
      have nl : pl ≠ dk := fun e => by rw [e, upd_same] at hpl; cases hpl
      have e3 : (upd H2 dk (.dK [(.inr (hdS cal nm), .bl true)])) pl = some (.lst ((heard cal nm).map V.str)) := by rw [upd_ne nl]; exact e2
      have s4 : Same H (upd H2 dk (.dK [(.inr (hdS cal nm), .bl true)])) := g1.trans (same_unlock g3 e1)
      have kd : (upd H2 dk (.dK [(.inr (hdS cal nm), .bl true)])) dk = some (.dK [(.inr (hdS cal nm), .bl true)]) := upd_same
      generalize upd H2 dk (.dK [(.inr (hdS cal nm), .bl true)]) = H4 at e3 s4 kd
      refine ⟨e1 _ _ upd_same, ?_⟩
      walk_at "rd"
      refine r_sortedS e3 (by cases cal <;> simp [heard]) fun ys p hP _ hp => ?_
      obtain rfl := perm_small hP
      have s5 := same_upd' (o := .lst ((heard cal nm).map V.str)) s4 hp
      have kd5 : (upd H4 p (.lst ((heard cal nm).map V.str))) dk = some (.dK [(.inr (hdS cal nm), .bl true)]) := by rw [upd_ne (ne_of_none kd hp)]; exact kd
      have p5 : (upd H4 p (.lst ((heard cal nm).map V.str))) p = some (.lst ((heard cal nm).map V.str)) := upd_same
      generalize upd H4 p (.lst ((heard cal nm).map V.str)) = H5 at s5 kd5 p5
      walk_at "rd"
      have fin : ∀ {H6 : Hp} {ex : Str} {pe : Addr} {o : HO}, Same H5 H6 → H6 pe = some (.lst [.str ex]) → ex ≠ "timeout" → ex ≠ hdS cal nm → ∀ pf, H6 pf = none → Q (.ref pf) (upd H6 pf (.lst ((heard cal nm).map V.str ++ [.str ex]))) := fun {H6} {ex} {pe} {o} e6 e7 n1 n2 pf hpf => q _ pf ex (s5.trans (same_upd' e6 hpf)) (by rw [upd_same, List.map_append]; rfl) n1 n2
      refine ⟨_, rfl, ?_⟩
      refine for_it walk_str (fun i σ H' => i = 0 ∧ H' = H5 ∧ ∃ v4 v5, σ = [some (.ref o1), some (.ref o2), some (.ref dk), some (.ref p), v4, v5, none, none]) ⟨rfl, rfl, none, none, rfl⟩ (fun _ _ _ _ _ => trivial) ?_ ?_
      · rintro i x σ H6 H7 hi ⟨rfl, rfl, v4, v5, rfl⟩ ⟨rfl, c, hc, rfl⟩
        obtain rfl : c = 97 := by
          have : (some 97 : Option Nat) = some c := hc
          exact (Option.some.inj this).symm
        walk_at "rd"
        refine ⟨_, rfl, ?_⟩
        refine for_it walk_str (fun i σ H' => (i = 0 ∨ (i = 1 ∧ hdS cal nm = "aa")) ∧ H' = H7 ∧ ∃ v5, σ = [some (.ref o1), some (.ref o2), some (.ref dk), some (.ref p), some (.str "a"), v5, none, none]) ⟨.inl rfl, rfl, v5, rfl⟩ (fun _ _ _ _ _ => trivial) ?_ ?_
        · rintro i x σ H7 H8 hi ⟨hi2, rfl, v5, rfl⟩ ⟨rfl, c, hc, rfl⟩
          have hz : ∃ z : Str, ("a" : Str) ++ (⟨#[c]⟩ : Str) = z ∧ z ≠ "timeout" ∧ (z = hdS cal nm → i = 0 ∧ hdS cal nm = "aa") := by
            rcases hi2 with rfl | ⟨rfl, e⟩
            · obtain rfl : 97 = c := Option.some.inj (show (some 97 : Option Nat) = some c from hc)
              exact ⟨"aa", by decide +kernel, by decide +kernel, fun e => ⟨rfl, e.symm⟩⟩
            · obtain rfl : 98 = c := Option.some.inj (show (some 98 : Option Nat) = some c from hc)
              refine ⟨"ab", by decide +kernel, by decide +kernel, fun q => ?_⟩
              rw [e] at q
              exact absurd q (by decide +kernel)
          obtain ⟨z, ez, nz, hz⟩ := hz
          have lz : ("a" : Str).length + (⟨#[c]⟩ : Str).length ≤ sizeLine := show 1 + 1 ≤ sizeLine by decide
          walk_at "rd"
          refine r_dnot ?_
          walk_at "rd"
          refine r_addT lz ?_
          rw [ez]
          walk_at "rd"
          refine ⟨dk, _, rfl, DGet.k (k := .inr z) kd5, ?_⟩
          walk_at "rd"
          rw [known_get]
          by_cases e : hdS cal nm = z
          · refine if_f (by rw [if_pos e]; rfl) ?_
            obtain ⟨e1, e2⟩ := hz e.symm
            exact ⟨.inr ⟨by omega, e2⟩, rfl, _, rfl⟩
          · refine if_t (by rw [if_neg e]; rfl) ?_
            walk_at "rd"
            refine r_addT lz ?_
            rw [ez]
            walk_at "rd"
            refine ⟨sz1, fun pe hpe => ?_⟩
            refine r_cat (by rw [upd_ne (ne_of_none p5 hpe)]; exact p5) upd_same (by rw [List.length_map]; cases cal <;> exact szK (by simp [heard])) fun pf hpf => ?_
            exact fin (o := .lst []) (same_upd hpe) upd_same nz (fun q => e q.symm) pf hpf
        · rintro σ H7 ⟨h7, _⟩
          rcases h7 with h7 | ⟨h7, _⟩
          · exact absurd h7 (by decide)
          · exact absurd h7 (by decide)
      · rintro σ H6 ⟨h6, _⟩
        exact absurd h6 (by decide)
end
end K67
-- deps: Names
namespace K67
open PySem PySem.Spec PyProof.Rows L2
section
variable {P : Program} {w : World} {K : PySem.W.Frag} {mg : Str → Option Value} {base : Heap} {D : Adr}
/-- a message with one of these names -/
def MsgAt (H : Hp) (xs : List Str) (v : V) : Prop := ∃ t n c l, v = .ref t ∧ H t = some (.tup [.str n, .int c, .ref l]) ∧ n ∈ xs
/-- (n, 1, [1]) -/
def OneAt (H : Hp) (n : Str) (v : V) : Prop := ∃ t l, v = .ref t ∧ H t = some (.tup [.str n, .int 1, .ref l]) ∧ H l = some (.lst [.int 1])
def OneB (pf : Addr) (H : Hp) (n : Str) (v : V) : Prop := ∃ t l, v = .ref t ∧ H t = some (.tup [.str n, .int 1, .ref l]) ∧ H l = some (.lst [.int 1]) ∧ l ≠ pf
theorem MsgAt.same {H H' : Hp} {xs : List Str} {v : V} (s : Same H H') (h : MsgAt H xs v) : MsgAt H' xs v := let ⟨t, n, c, l, e, h1, h2⟩ := h; ⟨t, n, c, l, e, s _ _ h1, h2⟩
theorem OneAt.same {H H' : Hp} {n : Str} {v : V} (s : Same H H') (h : OneAt H n v) : OneAt H' n v := let ⟨t, l, e, h1, h2⟩ := h; ⟨t, l, e, s _ _ h1, s _ _ h2⟩
theorem OneB.one {pf : Addr} {H : Hp} {n : Str} {v : V} (h : OneB pf H n v) : OneAt H n v := let ⟨t, l, e, h1, h2, _⟩ := h; ⟨t, l, e, h1, h2⟩
/-- the list that is being made -/
def Fd (H : Hp) (pf : Addr) (xs : List Str) (n0 : Str) (b : Nat) (pr : Prop) : Prop := ∃ vs, H pf = some (.lst vs) ∧ (∀ v ∈ vs, MsgAt H xs v) ∧ vs.length ≤ b ∧ ((pr ∧ vs = []) ∨ ∃ v, vs[0]? = some v ∧ OneB pf H n0 v)
theorem Fd.mono {H : Hp} {pf : Addr} {xs : List Str} {n0 : Str} {b b' : Nat} {pr pr' : Prop} (h : Fd H pf xs n0 b pr) (hb : b ≤ b') (hp : pr → pr') : Fd H pf xs n0 b' pr' :=
  let ⟨vs, h1, h2, h3, h4⟩ := h; ⟨vs, h1, h2, Nat.le_trans h3 hb, h4.imp (fun q => ⟨hp q.1, q.2⟩) id⟩
theorem Fd.push {H H' : Hp} {pf t l : Addr} {xs : List Str} {n0 n : Str} {c : Int} {b : Nat} {pr : Prop} (h : Fd H pf xs n0 b pr) (s : Same H H') (ht : H' t = some (.tup [.str n, .int c, .ref l])) (hn : n ∈ xs)
    (hf : pr → n = n0 ∧ c = 1 ∧ H' l = some (.lst [.int 1]) ∧ l ≠ pf) : ∃ vs, H' pf = some (.lst vs) ∧ vs.length ≤ b ∧ Fd (upd H' pf (.lst (vs ++ [.ref t]))) pf xs n0 (b + 1) False := by
  obtain ⟨vs, h1, h2, h3, h4⟩ := h
  have hp := s _ _ h1
  have off : ∀ {a : Addr} {xs' : List V} {u : HO}, H' a = some (.tup xs') → (upd H' pf u) a = some (.tup xs') := fun {a} {xs'} {u} e => by
    rw [upd_ne (ne_of e hp fun z => by cases z)]
    exact e
  refine ⟨vs, hp, h3, vs ++ [.ref t], upd_same, fun v hv => ?_, by rw [List.length_append]; exact Nat.add_le_add_right h3 1, .inr ?_⟩
  · rcases List.mem_append.mp hv with m | m
    · obtain ⟨t', n', c', l', e, g1, g2⟩ := h2 v m
      exact ⟨t', n', c', l', e, off (s _ _ g1), g2⟩
    · obtain rfl := List.mem_singleton.mp m
      exact ⟨t, n, c, l, rfl, off ht, hn⟩
  · rcases h4 with ⟨p, rfl⟩ | ⟨v, hv, t', l', e, g1, g2, g3⟩
    · obtain ⟨rfl, rfl, hl, ne⟩ := hf p
      exact ⟨.ref t, rfl, t, l, rfl, off ht, by rw [upd_ne ne]; exact hl, ne⟩
    · refine ⟨v, ?_, t', l', e, off (s _ _ g1), by rw [upd_ne g3]; exact s _ _ g2, g3⟩
      rw [List.getElem?_append_left (List.getElem?_eq_some_iff.mp hv).1]
      exact hv
abbrev sp_host_messages (K : PySem.W.Frag) (D : Adr) : Sp := Sp1 fun a H Q => ∃ l n0 xs, a = .ref l ∧ H l = some (.lst ((n0 :: xs).map V.str)) ∧ xs.length ≤ 5 ∧
  ∀ H' p vs, Same H H' → H' p = some (.lst vs) → vs.length ≤ 200 → (∀ v ∈ vs, MsgAt H' (n0 :: xs) v) → (∃ v, vs[0]? = some v ∧ OneAt H' n0 v) → Q (.ref p) H'
theorem sc_host_messages : FnScope ["names", "found", "name", "choice", "common"] ["names"] (defScope (top 45)) := ⟨rfl, rfl, rfl, by decide +kernel, rfl, by decide +kernel, by decide +kernel⟩
theorem ok_host_messages (F : Df K mg "host_messages" 45) (B : Bl mg) : Cal P w K mg base 1 "host_messages" (sp_host_messages K D) := by
  have sc := sc_host_messages
  refine mk_cal F sc len1 (fun _ _ _ _ _ _ us hl => match us, hl with | [_], _ => rfl) (fun f cdv A outer s H vs Q E hr h => ?_)
  obtain ⟨a0, rfl, h⟩ := h
  refine ⟨_, (pss_cons (ps_set (i := 1) sc.nd rfl (.inl rfl) (pe_lst pa_nil))
  (pss_cons (ps_for PassesOwn.never rfl (pi_list (pv 0)) (pg_name (i := 2) sc.nd rfl (.inl rfl)) (pss_one (ps_for PassesOwn.never rfl (pi_range2 rfl B.range_ (pa_cons pe_int (pa_cons pe_int pa_nil))) (pg_name (i := 3) sc.nd rfl (.inl rfl)) (pss_cons (ps_expr (pe_bm PySem.F.plainAttrs_list PySem.F.slot_list_append PySem.F.type_list_append mt_append (pv 1) (pa_cons (pe_tup (pa_cons (pv 2) (pa_cons (pv 3) (pa_cons (pe_lst (pa_cons (pv 3) pa_nil)) pa_nil)))) pa_nil)))
  (pss_one (ps_for PassesOwn.never rfl (pi_tup (pe_tup (pa_cons pe_int (pa_cons pe_int (pa_cons pe_int pa_nil))))) (pg_name (i := 4) sc.nd rfl (.inl rfl)) (pss_one (ps_if (pt_cmpR op_lt (pv 4) (pv 3) (nomark _)) (pss_one (ps_expr (pe_bm PySem.F.plainAttrs_list PySem.F.slot_list_append PySem.F.type_list_append mt_append (pv 1) (pa_cons (pe_tup (pa_cons (pv 2) (pa_cons (pv 3) (pa_cons (pe_lst (pa_cons (pv 3) (pa_cons (pv 4) pa_nil))) pa_nil)))) pa_nil)))) pss_nil))))))))
  (pss_one (ps_ret (pv 1))))), ?_⟩
  obtain ⟨l, n0, xs, rfl, hl, hx5, q⟩ := h
  walk_at "rd"
  refine ⟨sz0, fun pf hpf => ?_⟩
  walk_at "rd"
  refine ⟨l, rfl, ⟨_, .of (by rw [upd_ne (ne_of_none hl hpf)]; exact hl)⟩, ?_⟩
  refine for_it (walk_list (xs := (n0 :: xs).map V.str)) (fun i σ H' => Same H H' ∧ Fd H' pf (n0 :: xs) n0 (i * 28) (i = 0) ∧ ∃ v2 v3 v4, σ = [some (.ref l), some (.ref pf), v2, v3, v4]) ⟨same_upd hpf, ⟨[], upd_same, fun _ z => absurd z List.not_mem_nil, Nat.zero_le _, Or.inl ⟨rfl, rfl⟩⟩, none, none, none, rfl⟩ (fun _ _ _ _ h => .of (h.1 _ _ hl)) ?_ ?_
  · rintro i x σ H1 H2 hi ⟨s1, f1, v2, v3, v4, rfl⟩ ⟨rfl, hx⟩
    obtain ⟨n, hn, rfl⟩ : ∃ n, (n0 :: xs)[i]? = some n ∧ x = V.str n := by
      rw [List.getElem?_map] at hx
      cases e : (n0 :: xs)[i]? with
      | none => rw [e] at hx; cases hx
      | some r => rw [e] at hx; exact ⟨r, rfl, (Option.some.inj hx).symm⟩
    have hm : n ∈ n0 :: xs := List.mem_of_getElem? hn
    have h0 : i = 0 → n = n0 := fun e => by rw [e] at hn; exact (Option.some.inj hn).symm
    walk_at "rd"
    refine ⟨_, _, rfl, by decide, ?_⟩
    refine for_range (lo := 1) (fun j σ H' => Same H H' ∧ Fd H' pf (n0 :: xs) n0 (i * 28 + j * 4) (i = 0 ∧ j = 0) ∧ ∃ v3 v4, σ = [some (.ref l), some (.ref pf), some (.str n), v3, v4]) ⟨s1, f1.mono (Nat.le_add_right _ _) fun e => ⟨e, rfl⟩, v3, v4, rfl⟩ ?_ ?_
    · rintro j σ H3 hj ⟨s3, f3, v3, v4, rfl⟩
      have hi6 : i * 28 + j * 4 ≤ 200 := by
        rw [List.length_map, List.length_cons] at hi
        have : j < 7 := hj
        omega
      have hpf3 : ∃ vs, H3 pf = some (.lst vs) := let ⟨vs, g, _⟩ := f3; ⟨vs, g⟩
      obtain ⟨vs0, hpf3⟩ := hpf3
      have npf : ∀ {H4 : Hp} {pl : Addr}, Same H3 H4 → H4 pl = none → pl ≠ pf := fun s4 h e => by
        rw [e, s4 _ _ hpf3] at h
        cases h
      walk_at "rd"
      refine ⟨ty_list (.of hpf3), ?_⟩
      walk_at "rd"
      refine ⟨sz1, fun pl hpl => ?_⟩
      walk_at "rd"
      refine ⟨sz3, fun pt hpt => ?_⟩
      walk_at "rd"
      have s5 := (same_upd (o := .lst [.int (1 + (j : Int))]) hpl).trans (same_upd (o := .tup [.str n, .int (1 + (j : Int)), .ref pl]) hpt)
      obtain ⟨vs, e1, e2, f4⟩ := f3.push s5 upd_same hm (fun z => ⟨h0 z.1, by omega, by
        rw [upd_ne (ne_of_none upd_same hpt), upd_same, z.2]
        rfl, npf (Same.refl _) hpl⟩)
      refine r_append e1 (small1000 (Nat.le_trans e2 (by omega))) ?_
      have s6 : Same H (upd (upd (upd H3 pl (.lst [.int (1 + (j : Int))])) pt (.tup [.str n, .int (1 + (j : Int)), .ref pl])) pf (.lst (vs ++ [.ref pt]))) := same_set (s3.trans s5) hpf
      generalize (upd (upd (upd H3 pl (.lst [.int (1 + (j : Int))])) pt (.tup [.str n, .int (1 + (j : Int)), .ref pl])) pf (.lst (vs ++ [.ref pt]))) = H5 at s6 f4
      walk_at "rd"
      refine ⟨sz3, fun pc hpc => ?_⟩
      refine ⟨pc, rfl, ⟨_, SqT.of upd_same⟩, ?_⟩
      refine for_it (walk_tup (xs := [.int 6, .int 4, .int 2])) (fun m σ H' => Same H H' ∧ H' pc = some (.tup [.int 6, .int 4, .int 2]) ∧ Fd H' pf (n0 :: xs) n0 (i * 28 + j * 4 + 1 + m) False ∧ ∃ v4, σ = [some (.ref l), some (.ref pf), some (.str n), some (.int (1 + (j : Int))), v4]) ⟨same_upd' s6 hpc, upd_same, ?_, v4, rfl⟩ (fun _ _ _ _ h => .of h.2.1) ?_ ?_
      · obtain ⟨ws, g1, g2, g3, g4⟩ := f4
        have sp := same_upd (o := .tup [.int 6, .int 4, .int 2]) hpc
        refine ⟨ws, sp _ _ g1, fun v hv => (g2 v hv).same sp, g3, g4.imp id fun ⟨v, hv, t, l', e, a1, a2, a3⟩ => ⟨v, hv, t, l', e, sp _ _ a1, sp _ _ a2, a3⟩⟩
      · rintro m x σ H6 H7 hm3 ⟨s7, hpc7, f7, v4, rfl⟩ ⟨rfl, hx⟩
        obtain ⟨c, rfl⟩ : ∃ c : Int, x = .int c := by
          have : x ∈ [V.int 6, .int 4, .int 2] := List.mem_of_getElem? hx
          simp only [List.mem_cons, List.not_mem_nil, or_false] at this
          rcases this with e | e | e
          · exact ⟨_, e⟩
          · exact ⟨_, e⟩
          · exact ⟨_, e⟩
        obtain ⟨vs7, hpf7⟩ : ∃ vs, H7 pf = some (.lst vs) := let ⟨vs, g, _⟩ := f7; ⟨vs, g⟩
        walk_at "rd"
        by_cases hc : c < 1 + (j : Int)
        · refine if_t (decide_eq_true hc) ?_
          walk_at "rd"
          refine ⟨ty_list (.of hpf7), ?_⟩
          walk_at "rd"
          refine ⟨sz2, fun pl2 hpl2 => ?_⟩
          walk_at "rd"
          refine ⟨sz3, fun pt2 hpt2 => ?_⟩
          walk_at "rd"
          have s8 := (same_upd (o := .lst [.int (1 + (j : Int)), .int c]) hpl2).trans (same_upd (o := .tup [.str n, .int (1 + (j : Int)), .ref pl2]) hpt2)
          obtain ⟨vs8, a1, a2, f8⟩ := f7.push s8 upd_same hm (fun z => z.elim)
          have hm3 : m < 3 := hm3
          refine r_append a1 (small1000 (Nat.le_trans a2 (by omega))) ?_
          have n9 : pc ≠ pf := fun e => by rw [e, hpf7] at hpc7; cases hpc7
          exact ⟨same_set (s7.trans s8) hpf, by rw [upd_ne n9]; exact s8 _ _ hpc7, f8.mono (by omega) id, _, rfl⟩
        · refine if_f (decide_eq_false hc) ?_
          exact ⟨s7, hpc7, f7.mono (by omega) id, _, rfl⟩
      · rintro σ H6 ⟨s7, hpc7, f7, v4, rfl⟩
        exact ⟨s7, f7.mono (by show _ + 3 ≤ _; omega) fun z => z.elim, _, _, rfl⟩
    · rintro σ H1 ⟨s3, f3, v3, v4, rfl⟩
      exact ⟨s3, f3.mono (by rw [show ((8 : Int) - 1).toNat = 7 from rfl]; omega) fun e => absurd e.2 (by decide), _, _, _, rfl⟩
  · rintro σ H1 ⟨s1, f1, v2, v3, v4, rfl⟩
    obtain ⟨vs, h1, h2, h3, h4⟩ := f1
    walk_at "rd"
    refine q _ pf vs s1 h1 (Nat.le_trans h3 (by rw [List.length_map, List.length_cons]; omega)) h2 ?_
    rcases h4 with ⟨z, _⟩ | ⟨v, hv, o⟩
    · exact absurd z (by simp)
    · exact ⟨v, hv, o.one⟩
theorem OneAt.put {H : Hp} {pf : Addr} {n : Str} {v : V} {vs : List V} {u : HO} (h : OneB pf H n v) (hp : H pf = some (.lst vs)) : OneB pf (upd H pf u) n v := by
  obtain ⟨t, l, e, h1, h2, h3⟩ := h
  exact ⟨t, l, e, by rw [upd_ne (ne_of h1 hp fun z => by cases z)]; exact h1, by rw [upd_ne h3]; exact h2, h3⟩
theorem OneB.same {pf : Addr} {H H' : Hp} {n : Str} {v : V} (s : Same H H') (h : OneB pf H n v) : OneB pf H' n v := let ⟨t, l, e, h1, h2, h3⟩ := h; ⟨t, l, e, s _ _ h1, s _ _ h2, h3⟩
abbrev sp_copied (K : PySem.W.Frag) (D : Adr) : Sp := Sp1 fun a H Q => ∃ l vs n, a = .ref l ∧ H l = some (.lst vs) ∧ vs.length ≤ 1000 ∧ (∀ v ∈ vs, OneAt H n v) ∧
  ∀ H' p ws, Same H H' → H' p = some (.lst ws) → ws.length = vs.length → (∀ v ∈ ws, OneAt H' n v) → Q (.ref p) H'
theorem sc_copied : FnScope ["stimuli", "found", "stimulus"] ["stimuli"] (defScope (top 46)) := ⟨rfl, rfl, rfl, by decide +kernel, rfl, by decide +kernel, by decide +kernel⟩
theorem ok_copied (F : Df K mg "copied" 46) (B : Bl mg) (T : Txt mg D) : Cal P w K mg base 1 "copied" (sp_copied K D) := by
  have sc := sc_copied
  refine mk_cal F sc len1 (fun _ _ _ _ _ _ us hl => match us, hl with | [_], _ => rfl) (fun f cdv A outer s H vs Q E hr h => ?_)
  obtain ⟨a0, rfl, h⟩ := h
  refine ⟨_, (pss_cons (ps_set (i := 1) sc.nd rfl (.inl rfl) (pe_lst pa_nil))
  (pss_cons (ps_for PassesOwn.never rfl (pi_list (pv 0)) (pg_name (i := 2) sc.nd rfl (.inl rfl)) (pss_one (ps_if (pt_cmpR (op_eqTS hr.units0) (pv 2) (pe_gc rfl T.TIMEOUT) (nomark _)) (pss_one (ps_expr (pe_bm PySem.F.plainAttrs_list PySem.F.slot_list_append PySem.F.type_list_append mt_append (pv 1) (pa_cons (pe_gc rfl T.TIMEOUT) pa_nil)))) (pss_one (ps_expr (pe_bm PySem.F.plainAttrs_list PySem.F.slot_list_append PySem.F.type_list_append mt_append (pv 1) (pa_cons (pe_tup (pa_cons (pe_ix ix_tup (pv 2) pe_int (fun _ _ => rfl)) (pa_cons (pe_ix ix_tup (pv 2) pe_int (fun _ _ => rfl)) (pa_cons (pe_callTy call_lst rfl B.list_ (by decide +kernel) (pa_cons (pe_ix ix_tup (pv 2) pe_int (fun _ _ => rfl)) pa_nil)) pa_nil)))) pa_nil)))))))
  (pss_one (ps_ret (pv 1))))), ?_⟩
  obtain ⟨l, vs, n, rfl, hl, hz, hv, q⟩ := h
  walk_at "rd"
  refine ⟨sz0, fun pf hpf => ?_⟩
  walk_at "rd"
  refine ⟨l, rfl, ⟨_, .of (by rw [upd_ne (ne_of_none hl hpf)]; exact hl)⟩, ?_⟩
  refine for_it (walk_list (xs := vs)) (fun i σ H' => Same H H' ∧ (∃ ws, H' pf = some (.lst ws) ∧ ws.length = i ∧ ∀ v ∈ ws, OneB pf H' n v) ∧ ∃ v2, σ = [some (.ref l), some (.ref pf), v2]) ⟨same_upd hpf, ⟨[], upd_same, rfl, fun _ z => absurd z List.not_mem_nil⟩, none, rfl⟩ (fun _ _ _ _ h => .of (h.1 _ _ hl)) ?_ ?_
  · rintro i x σ H1 H2 hi ⟨s1, ⟨ws, g1, g2, g3⟩, v2, rfl⟩ ⟨rfl, hx⟩
    obtain ⟨t, u, rfl, ht, hu'⟩ := (hv x (List.mem_of_getElem? hx)).same s1
    walk_at "rd"
    refine r_eqT (.of ht) ?_
    walk_at "rd"
    refine if_f rfl ?_
    walk_at "rd"
    refine ⟨ty_list (.of g1), ?_⟩
    walk_at "rd"
    refine r_ixT (.of ht) (at_of (j := 0) rfl rfl) ?_
    walk_at "rd"
    refine r_ixT (.of ht) (at_of (j := 1) rfl rfl) ?_
    walk_at "rd"
    refine r_ixT (.of ht) (at_of (j := 2) rfl rfl) ?_
    walk_at "rd"
    refine r_lstL (.of hu') fun pl hpl => ?_
    walk_at "rd"
    refine ⟨sz3, fun pt hpt => ?_⟩
    walk_at "rd"
    have s2 := (same_upd (o := .lst [.int 1]) hpl).trans (same_upd (o := .tup [.str n, .int 1, .ref pl]) hpt)
    refine r_append (s2 _ _ g1) (small1000 (by omega)) ?_
    have npl : pl ≠ pf := fun e => by rw [e, g1] at hpl; cases hpl
    refine ⟨same_set (s1.trans s2) hpf, ⟨_, upd_same, by rw [List.length_append, g2]; rfl, fun v hv => ?_⟩, _, rfl⟩
    rcases List.mem_append.mp hv with m | m
    · exact OneAt.put ((g3 v m).same s2) (s2 _ _ g1)
    · obtain rfl := List.mem_singleton.mp m
      exact OneAt.put ⟨pt, pl, rfl, upd_same, by rw [upd_ne (ne_of_none upd_same hpt)]; exact upd_same, npl⟩ (s2 _ _ g1)
  · rintro σ H1 ⟨s1, ⟨ws, g1, g2, g3⟩, v2, rfl⟩
    walk_at "rd"
    exact q _ pf ws s1 g1 g2 fun v hv => (g3 v hv).one
end
end K67
-- deps: Msgs
namespace K67
open PySem PySem.Spec PyProof.Rows L2
/-- the tuples stay, and the lists but the one at po -/
structure Keep (po : Addr) (H H' : Hp) : Prop where
  tup : ∀ a xs, H a = some (.tup xs) → H' a = some (.tup xs)
  lst : ∀ a xs, a ≠ po → H a = some (.lst xs) → H' a = some (.lst xs)
section
variable {P : Program} {w : World} {po pd : Addr} {H H' H'' : Hp}
theorem Keep.same (s : Same H H') : Keep po H H' := ⟨fun a xs e => s a _ e, fun a xs _ e => s a _ e⟩
theorem Keep.trans (k : Keep po H H') (k' : Keep po H' H'') : Keep po H H'' := ⟨fun a xs e => k'.tup a xs (k.tup a xs e), fun a xs n e => k'.lst a xs n (k.lst a xs n e)⟩
theorem Keep.putO {xs : List V} {u : HO} (h : H po = some (.lst xs)) : Keep po H (upd H po u) :=
  ⟨fun a ys e => by rw [upd_ne (ne_of e h fun z => by cases z)]; exact e, fun a ys n e => by rw [upd_ne n]; exact e⟩
theorem Keep.putD {es : List LEnt} {u : HO} (h : H pd = some (lfO P w pd es)) : Keep po H (upd H pd u) :=
  ⟨fun a ys e => by rw [upd_ne (ne_of e h fun z => by cases z)]; exact e, fun a ys n e => by rw [upd_ne (ne_of e h fun z => by cases z)]; exact e⟩
theorem OneB.keep {n : Str} {v : V} (k : Keep po H H') (h : OneB po H n v) : OneB po H' n v := let ⟨t, l, e, h1, h2, h3⟩ := h; ⟨t, l, e, k.tup _ _ h1, k.lst _ _ h3 h2, h3⟩
theorem KeyAt.keep {b : Addr} {ks : List Leaf} (k : Keep po H H') (h : KeyAt H b ks) : KeyAt H' b ks := let ⟨vs, e, p⟩ := h; ⟨vs, k.tup _ _ e, p⟩
theorem LfAt.keep {d : Addr} {es : List LEnt} (k : Keep po H H') (hd : H' d = H d) (l : LfAt P w H d es) : LfAt P w H' d es := ⟨hd.trans l.1, fun e he => (l.2 e he).keep k⟩
/-- a search's list of states at po and its dict of paths at pd: n states so far -/
structure Srch (P : Program) (w : World) (po pd : Addr) (PO : Hp → Nat → List V → Prop) (stv : Nat → List V) (key : Nat → List Leaf) (H : Hp) (n : Nat) (os : List V) (es : List LEnt) : Prop where
  o : H po = some (.lst os)
  ol : os.length = n
  d : LfAt P w H pd es
  dl : es.length = n
  at_ : ∀ j < n, ∃ t b pl vs, os[j]? = some (.ref t) ∧ H t = some (.tup (stv j)) ∧ es[j]? = some (key j, b, .ref pl) ∧ pl ≠ po ∧ H pl = some (.lst vs) ∧ PO H j vs
variable {PO : Hp → Nat → List V → Prop} {stv : Nat → List V} {key : Nat → List Leaf} {n : Nat} {os : List V} {es : List LEnt}
theorem Srch.keep (S : Srch P w po pd PO stv key H n os es) (hP : ∀ {H H' : Hp} {j : Nat} {vs : List V}, Keep po H H' → PO H j vs → PO H' j vs) (k : Keep po H H') (ho : H' po = H po) (hd : H' pd = H pd) : Srch P w po pd PO stv key H' n os es :=
  ⟨ho.trans S.o, S.ol, S.d.keep k hd, S.dl, fun j hj => let ⟨t, b, pl, vs, h1, h2, h3, h4, h5, h6⟩ := S.at_ j hj; ⟨t, b, pl, vs, h1, k.tup _ _ h2, h3, h4, k.lst _ _ h4 h5, hP k h6⟩⟩
theorem Srch.same (S : Srch P w po pd PO stv key H n os es) (hP : ∀ {H H' : Hp} {j : Nat} {vs : List V}, Keep po H H' → PO H j vs → PO H' j vs) (s : Same H H') : Srch P w po pd PO stv key H' n os es :=
  S.keep hP (.same s) ((s _ _ S.o).trans S.o.symm) ((s _ _ S.d.1).trans S.d.1.symm)
theorem Srch.keys (S : Srch P w po pd PO stv key H n os es) : es.map (·.1) = (List.range n).map key := by
  apply List.ext_getElem?
  intro j
  rw [List.getElem?_map, List.getElem?_map]
  by_cases hj : j < n
  · obtain ⟨t, b, pl, vs, h1, h2, h3, _⟩ := S.at_ j hj
    rw [h3, List.getElem?_range hj]
    rfl
  · rw [List.getElem?_eq_none (by rw [S.dl]; omega), List.getElem?_eq_none (by rw [List.length_range]; omega)]
    rfl
theorem Srch.push (S : Srch P w po pd PO stv key H n os es) (hP : ∀ {H H' : Hp} {j : Nat} {vs : List V}, Keep po H H' → PO H j vs → PO H' j vs) {b pl t : Addr} {vs : List V} (kb : KeyAt H b (key n)) (hp : H pl = some (.lst vs)) (np : pl ≠ po) (hv : PO H n vs)
    {H2 : Hp} (s2 : Same (upd H pd (lfO P w pd (es ++ [(key n, b, .ref pl)]))) H2) (ht : H2 t = some (.tup (stv n))) : Srch P w po pd PO stv key (upd H2 po (.lst (os ++ [.ref t]))) (n + 1) (os ++ [.ref t]) (es ++ [(key n, b, .ref pl)]) := by
  have nd : pd ≠ po := ne_of S.d.1 S.o fun z => by cases z
  have k1 : Keep po H (upd H pd (lfO P w pd (es ++ [(key n, b, .ref pl)]))) := .putD S.d.1
  have k2 : Keep po _ H2 := .same s2
  have o2 : H2 po = some (.lst os) := s2 _ _ (by rw [upd_ne nd.symm]; exact S.o)
  have k3 : Keep po H2 (upd H2 po (.lst (os ++ [.ref t]))) := .putO o2
  have k := (k1.trans k2).trans k3
  have l1 : LfAt P w (upd H pd (lfO P w pd (es ++ [(key n, b, .ref pl)]))) pd (es ++ [(key n, b, .ref pl)]) := S.d.put kb
  refine ⟨upd_same, by rw [List.length_append, S.ol]; rfl, (l1.same s2).keep k3 (by rw [upd_ne nd]), by rw [List.length_append, S.dl]; rfl, fun j hj => ?_⟩
  by_cases e : j = n
  · subst e
    refine ⟨t, b, pl, vs, ?_, k3.tup _ _ ht, ?_, np, k.lst _ _ np hp, hP k hv⟩
    · rw [List.getElem?_append_right (by rw [S.ol]; exact Nat.le_refl _), S.ol, Nat.sub_self]
      rfl
    · rw [List.getElem?_append_right (by rw [S.dl]; exact Nat.le_refl _), S.dl, Nat.sub_self]
      rfl
  · obtain ⟨t', b', pl', vs', h1, h2, h3, h4, h5, h6⟩ := S.at_ j (by omega)
    refine ⟨t', b', pl', vs', ?_, k.tup _ _ h2, ?_, h4, k.lst _ _ h4 h5, hP k h6⟩
    · rw [List.getElem?_append_left (by rw [S.ol]; omega)]
      exact h1
    · rw [List.getElem?_append_left (by rw [S.dl]; omega)]
      exact h3
end
section
variable {σ : L2.St} {H : Hp} {Q : VK} {P : Program} {w : World}
theorem r_lfget {td tk : TE} (q : td σ H fun x H1 => tk σ H1 fun y H2 => ∃ d b ks es, ∃ (i : Nat), ∃ b' v, x = .ref d ∧ y = .ref b ∧ KeyAt H2 b ks ∧ LfAt P w H2 d es ∧ es[i]? = some (ks, b', v) ∧ Q v H2) : tLfGet P w td tk σ H Q := q
theorem r_lfnin {b d : Addr} {ks : List Leaf} {es : List LEnt} (k : KeyAt H b ks) (l : LfAt P w H d es) (q : Q (.bl (decide (ks ∉ es.map (·.1)))) H) : rLfNin P w (.ref b) (.ref d) H Q := ⟨b, d, ks, es, rfl, rfl, k, l, q⟩
theorem r_lfd {tk tv : TE} (q : ∀ p, H p = none → tk σ (upd H p (lfO P w p [])) fun x H1 => tv σ H1 fun y H2 => ∃ b ks, x = .ref b ∧ KeyAt H2 b ks ∧ H2 p = some (lfO P w p []) ∧ Q (.ref p) (upd H2 p (lfO P w p [(ks, b, y)]))) : tLfD P w tk tv σ H Q := q
end
end K67
-- deps: Srch
namespace K67
open PySem PySem.Spec PyProof.Rows L2
section
variable {P : Program} {w : World} {K : PySem.W.Frag} {mg : Str → Option Value} {base : Heap} {D : Adr}
/-- a role's calm modes, by number -/
def cm (ms calm : List Str) (i : Nat) : Bool := decide (md ms i ∈ calm)
/-- what two rings go through: L states, all different, nothing shows before the last -/
structure Going (k1 k2 : Nat) (c1 c2 : Nat → Bool) (L : Nat) : Prop where
  lo : 1 ≤ L
  hi : L ≤ 50
  eq : ∀ j, 0 < j → j < L → c1 (j % k1) = c2 (j % k2)
  new : ∀ a b, b < a → a < L → ¬ (b % k1 = a % k1 ∧ b % k2 = a % k2)
def stH (ms : List Str) (k1 k2 j : Nat) : List V := [.str (md ms (j % k1)), .str (md ms (j % k2)), .non]
def keyH (ms : List Str) (k1 k2 j : Nat) : List Leaf := [.text (md ms (j % k1)), .text (md ms (j % k2)), .none]
theorem pairH (ms : List Str) (k1 k2 j : Nat) : Paired LfRel (stH ms k1 k2 j) (keyH ms k1 k2 j) := .cons rfl (.cons rfl (.cons trivial .nil))
theorem keyH_inj {ms : List Str} {nm : Str} (N : Nms ms nm) {k1 k2 i j : Nat} (a1 : 1 ≤ k1) (a2 : k1 ≤ 6) (b1 : 1 ≤ k2) (b2 : k2 ≤ 6) (e : keyH ms k1 k2 i = keyH ms k1 k2 j) : i % k1 = j % k1 ∧ i % k2 = j % k2 := by
  have l1 : ∀ x, x % k1 < 6 := fun x => Nat.lt_of_lt_of_le (Nat.mod_lt _ a1) a2
  have l2 : ∀ x, x % k2 < 6 := fun x => Nat.lt_of_lt_of_le (Nat.mod_lt _ b1) b2
  unfold keyH at e
  injection e with e1 e2
  injection e2 with e2 _
  exact ⟨N.inj (l1 i) (l1 j) (Leaf.text.inj e1), N.inj (l2 i) (l2 j) (Leaf.text.inj e2)⟩
def POh (po : Addr) (nm : Str) (H : Hp) (j : Nat) (vs : List V) : Prop := vs.length = j ∧ ∀ v ∈ vs, OneB po H nm v
theorem POh_keep {po : Addr} {nm : Str} {H H' : Hp} {j : Nat} {vs : List V} (k : Keep po H H') (h : POh po nm H j vs) : POh po nm H' j vs := ⟨h.1, fun v hv => (h.2 v hv).keep k⟩
abbrev sp_part_hosts (K : PySem.W.Frag) (D : Adr) : Sp := Sp2 fun a b H Q => ∃ o1 o2 ms nm k1 calm1 rs1 k2 calm2 rs2 L, a = .ref o1 ∧ b = .ref o2 ∧ Nms ms nm ∧ RingAt D H o1 false ms nm k1 calm1 rs1 ∧ RingAt D H o2 false ms nm k2 calm2 rs2 ∧
  Going k1 k2 (cm ms calm1) (cm ms calm2) L ∧
  ((cm ms calm1 (L % k1) ≠ cm ms calm2 (L % k2) ∧ ∀ H' p c l ws, Same H H' → H' p = some (.tup [.ref c, .ref l]) → H' c = some (.lst [.int 6, .int 4, .int 2]) → H' l = some (.lst ws) → ws.length = L → (∀ v ∈ ws, OneAt H' nm v) → Q (.ref p) H') ∨
   (cm ms calm1 (L % k1) = cm ms calm2 (L % k2) ∧ (∃ b, b < L ∧ b % k1 = L % k1 ∧ b % k2 = L % k2) ∧ ∀ H', Same H H' → Q .non H'))
theorem r_sub {to ti : TE} {t : TSet} {v : V} {σ : L2.St} {H : Hp} {R : L2.St → Hp → Prop} (q : to σ H fun o H1 => ti σ H1 fun i H2 => t o i v H2 fun H3 => R σ H3) : gSub to ti t v σ H R := q
theorem sc_part_hosts : FnScope ["one", "other", "choices", "stimuli", "order", "paths", "at", "first", "second", "held", "stimulus", "left", "right", "path"] ["one", "other"] (defScope (top 47)) := ⟨rfl, rfl, rfl, by decide +kernel, rfl, by decide +kernel, by decide +kernel⟩
theorem ok_part_hosts (F : Df K mg "part_hosts" 47) (B : Bl mg) (T : Txt mg D) (O : RoleC P w K mg base D.co) (chost_messages : Cal P w K mg base 1 "host_messages" (sp_host_messages K D)) (cnames_of : Cal P w K mg base 3 "names_of" (sp_names_of K D)) (cacted : Cal P w K mg base 5 "acted" (sp_acted K D)) (care_parted : Cal P w K mg base 7 "are_parted" (sp_are_parted K D)) (ccopied : Cal P w K mg base 1 "copied" (sp_copied K D)) : Cal P w K mg base 8 "part_hosts" (sp_part_hosts K D) := by
  have sc := sc_part_hosts
  refine mk_cal F sc len2 (fun _ _ _ _ _ _ us hl => match us, hl with | [_, _], _ => rfl) (fun f cdv A outer s H vs Q E hr h => ?_)
  obtain ⟨a0, a1, rfl, h⟩ := h
  refine ⟨_, (pss_cons (ps_set (i := 2) sc.nd rfl (.inl rfl) (pe_lst (pa_cons pe_int (pa_cons pe_int (pa_cons pe_int pa_nil)))))
  (pss_cons (ps_set (i := 3) sc.nd rfl (.inl rfl) (pe_op op_cat (pe_lst (pa_cons (pe_gc rfl T.TIMEOUT) pa_nil)) (pe_c chost_messages hr (by decide) rfl (pa_cons (pe_c cnames_of hr (by decide) rfl (pa_cons (pv 0) (pa_cons (pv 1) pa_nil))) pa_nil))))
  (pss_cons (ps_set (i := 4) sc.nd rfl (.inl rfl) (pe_lst (pa_cons (pe_tup (pa_cons (pe_first O (hr.mono (by decide)) (pv 0)) (pa_cons (pe_first O (hr.mono (by decide)) (pv 1)) (pa_cons pe_non pa_nil)))) pa_nil)))
  (pss_cons (ps_set (i := 5) sc.nd rfl (.inl rfl) (pe_leafdisp (hu_of hr) (pe_ix ix_list (pv 4) pe_int (fun _ _ => rfl)) (pe_lst pa_nil)))
  (pss_cons (ps_set (i := 6) sc.nd rfl (.inl rfl) pe_int)
  (pss_cons (ps_while PassesOwn.never (pt_cmpR op_lt (pv 6) (pe_callB call_lenS rfl B.len_ (by decide +kernel) (pa_cons (pv 4) pa_nil)) (nomark _)) (pss_cons (ps_asg (pe_ix ix_list (pv 4) (pv 6) (fun _ _ => rfl)) (pg_tup rfl (pgs_cons (pg_name (i := 7) sc.nd rfl (.inl rfl)) (pgs_cons (pg_name (i := 8) sc.nd rfl (.inl rfl)) (pgs_cons (pg_name (i := 9) sc.nd rfl (.inl rfl)) pgs_nil)))))
  (pss_cons (ps_for PassesOwn.never rfl (pi_list (pv 3)) (pg_name (i := 10) sc.nd rfl (.inl rfl)) (pss_cons (ps_set (i := 11) sc.nd rfl (.inl rfl) (pe_c cacted hr (by decide) rfl (pa_cons (pv 0) (pa_cons (pv 2) (pa_cons (pe_tup (pa_cons (pv 7) (pa_cons (pv 9) pa_nil))) (pa_cons (pv 10) pa_nil))))))
  (pss_cons (ps_set (i := 12) sc.nd rfl (.inl rfl) (pe_c cacted hr (by decide) rfl (pa_cons (pv 1) (pa_cons (pv 2) (pa_cons (pe_tup (pa_cons (pv 8) (pa_cons (pv 9) pa_nil))) (pa_cons (pv 10) pa_nil))))))
  (pss_cons (ps_set (i := 13) sc.nd rfl (.inl rfl) (pe_op op_cat (pe_leafget (hu_of hr) (pv 5) (pe_ix ix_list (pv 4) (pv 6) (fun _ _ => rfl)) (fun _ _ => rfl)) (pe_lst (pa_cons (pv 10) pa_nil))))
  (pss_cons (ps_if (pt_val (pe_c care_parted hr (by decide) rfl (pa_cons (pv 0) (pa_cons (pv 1) (pa_cons (pv 2) (pa_cons (pv 11) (pa_cons (pv 12) pa_nil))))))) (pss_one (ps_ret (pe_tup (pa_cons (pv 2) (pa_cons (pe_c ccopied hr (by decide) rfl (pa_cons (pv 13) pa_nil)) pa_nil))))) pss_nil)
  (pss_one (ps_if (PW.pt (pw_and (pt_cmpR op_is1 (pv 11) pe_non (nomark _)) (pw_and1 (pt_cmpR (op_lfnin (hu_of hr)) (pe_tup (pa_cons (pe_ix ix_tup (pv 11) pe_int (fun _ _ => rfl)) (pa_cons (pe_ix ix_tup (pv 12) pe_int (fun _ _ => rfl)) (pa_cons (pe_ix ix_tup (pv 11) pe_int (fun _ _ => rfl)) pa_nil)))) (pv 5) rfl)))) (pss_cons (ps_asg (pv 13) (pg_sub (pv 5) (pe_tup (pa_cons (pe_ix ix_tup (pv 11) pe_int (fun _ _ => rfl)) (pa_cons (pe_ix ix_tup (pv 12) pe_int (fun _ _ => rfl)) (pa_cons (pe_ix ix_tup (pv 11) pe_int (fun _ _ => rfl)) pa_nil)))) (set_leaf (hu_of hr))))
  (pss_one (ps_expr (pe_bm PySem.F.plainAttrs_list PySem.F.slot_list_append PySem.F.type_list_append mt_append (pv 4) (pa_cons (pe_tup (pa_cons (pe_ix ix_tup (pv 11) pe_int (fun _ _ => rfl)) (pa_cons (pe_ix ix_tup (pv 12) pe_int (fun _ _ => rfl)) (pa_cons (pe_ix ix_tup (pv 11) pe_int (fun _ _ => rfl)) pa_nil)))) pa_nil))))) pss_nil)))))))
  (pss_one (ps_aug (i := 6) sc.nd rfl (.inl rfl) pe_int ip_add)))))
  (pss_one (ps_ret pe_non)))))))), ?_⟩
  dsimp only [cxOf, Cx.nox]
  obtain ⟨o1, o2, ms, nm, k1, calm1, rs1, k2, calm2, rs2, L, rfl, rfl, N, O1, O2, G, q⟩ := h
  walk_at "rd"
  refine ⟨sz3, fun pc hpc => ?_⟩
  have s1 := same_upd (o := .lst [.int 6, .int 4, .int 2]) hpc
  have gc : (upd H pc (.lst [.int 6, .int 4, .int 2])) pc = some (.lst [.int 6, .int 4, .int 2]) := upd_same
  generalize upd H pc (.lst [.int 6, .int 4, .int 2]) = H1 at s1 gc
  walk_at "rd"
  refine ⟨sz1, fun p0 hp0 => ?_⟩
  have s2 := same_upd' (o := .lst [.str "timeout"]) s1 hp0
  have g0 : (upd H1 p0 (.lst [.str "timeout"])) p0 = some (.lst [.str "timeout"]) := upd_same
  replace gc := same_upd (o := .lst [.str "timeout"]) hp0 _ _ gc
  generalize upd H1 p0 (.lst [.str "timeout"]) = H2 at s2 gc g0
  walk_at "rd"
  refine ⟨o1, o2, false, ms, nm, k1, calm1, rs1, k2, calm2, rs2, rfl, rfl, N, O1.same s2, O2.same s2, fun H3 pn ex s3 gn n1 n2 => ?_⟩
  walk_at "rd"
  refine ⟨pn, nm, [ex], rfl, gn, Nat.le_of_ble_eq_true rfl, fun H4 pm mv s4 gm lm am fm => ?_⟩
  have s34 := s3.trans s4
  refine r_cat (s34 _ _ g0) gm (szK (by rw [List.length_singleton]; omega)) fun pst hpst => ?_
  have s5 := same_upd' (o := .lst ([.str "timeout"] ++ mv)) ((s2.trans s34)) hpst
  have gst : (upd H4 pst (.lst ([.str "timeout"] ++ mv))) pst = some (.lst ([.str "timeout"] ++ mv)) := upd_same
  have s45 := same_upd (o := .lst ([.str "timeout"] ++ mv)) hpst
  replace gc := s45 _ _ (s34 _ _ gc)
  have am : ∀ v ∈ mv, MsgAt (upd H4 pst (.lst ([.str "timeout"] ++ mv))) (nm :: [ex]) v := fun v hv => (am v hv).same s45
  have fm : ∃ v, mv[0]? = some v ∧ OneAt (upd H4 pst (.lst ([.str "timeout"] ++ mv))) nm v := let ⟨v, e, o⟩ := fm; ⟨v, e, o.same s45⟩
  generalize upd H4 pst (.lst ([.str "timeout"] ++ mv)) = H5 at s5 gst gc am fm
  clear gm g0 gn
  walk_at "rd"
  refine r_first (O1.role.same s5) ?_
  walk_at "rd"
  refine r_first (O2.role.same s5) ?_
  walk_at "rd"
  refine ⟨sz3, fun pt0 hpt0 => ?_⟩
  have s56 := same_upd (o := .tup [.str (md ms 0), .str (md ms 0), .non]) hpt0
  have gt0 : (upd H5 pt0 (.tup [.str (md ms 0), .str (md ms 0), .non])) pt0 = some (.tup [.str (md ms 0), .str (md ms 0), .non]) := upd_same
  replace gc := s56 _ _ gc
  replace gst := s56 _ _ gst
  replace s5 := s5.trans s56
  replace am : ∀ v ∈ mv, MsgAt _ (nm :: [ex]) v := fun v hv => (am v hv).same s56
  replace fm : ∃ v, mv[0]? = some v ∧ OneAt _ nm v := let ⟨v, e, o⟩ := fm; ⟨v, e, o.same s56⟩
  generalize upd H5 pt0 (.tup [.str (md ms 0), .str (md ms 0), .non]) = H6 at s5 gst gc am fm gt0
  walk_at "rd"
  refine ⟨sz1, fun po hpo => ?_⟩
  have fmB : ∃ v, mv[0]? = some v ∧ ∀ {H'}, Same H6 H' → OneB po H' nm v := by
    obtain ⟨v, e, t, l, e1, e2, e3⟩ := fm
    exact ⟨v, e, fun s => ⟨t, l, e1, s _ _ e2, s _ _ e3, ne_of_none e3 hpo⟩⟩
  have npc : ∀ {a : Addr} {u : HO}, H6 a = some u → a ≠ po := fun e => ne_of_none e hpo
  have s67 := same_upd (o := .lst [.ref pt0]) hpo
  have go : (upd H6 po (.lst [.ref pt0])) po = some (.lst [.ref pt0]) := upd_same
  generalize upd H6 po (.lst [.ref pt0]) = H7 at s67 go
  walk_at "rd"
  refine r_lfd fun pd hpd => ?_
  have hpd6 : H6 pd = none := none_of s67 hpd
  have nod : po ≠ pd := ne_of_none go hpd
  walk_at "rd"
  refine r_ixL (.of (same_upd hpd _ _ go)) (at_of (j := 0) rfl rfl) ?_
  walk_at "rd"
  refine ⟨sz0, fun pl0 hpl0 => ?_⟩
  have s89 := same_upd (o := .lst []) hpl0
  have s78 := same_upd (o := lfO P w pd []) hpd
  have S : Srch P w po pd (POh po nm) (stH ms k1 k2) (keyH ms k1 k2) (upd (upd (upd H7 pd (lfO P w pd [])) pl0 (.lst [])) pd (lfO P w pd [(keyH ms k1 k2 0, pt0, .ref pl0)])) 1 [.ref pt0] [(keyH ms k1 k2 0, pt0, .ref pl0)] := by
    have npl : pl0 ≠ pd := fun e => by rw [e, upd_same] at hpl0; cases hpl0
    have e0 : ∀ k : Nat, 0 % k = 0 := fun k => Nat.zero_mod k
    have ht : (upd (upd (upd H7 pd (lfO P w pd [])) pl0 (.lst [])) pd (lfO P w pd [(keyH ms k1 k2 0, pt0, .ref pl0)])) pt0 = some (.tup (stH ms k1 k2 0)) := by
      have h7 := s67 _ _ gt0
      have h9 := s89 _ _ (s78 _ _ h7)
      rw [upd_ne (ne_of_none h7 hpd), h9]
      unfold stH
      rw [e0, e0]
    refine ⟨?_, rfl, ⟨upd_same, fun e he => ?_⟩, rfl, fun j hj => ?_⟩
    · rw [upd_ne nod]
      exact s89 _ _ (s78 _ _ go)
    · obtain rfl := List.mem_singleton.mp he
      exact ⟨_, ht, pairH ms k1 k2 0⟩
    · obtain rfl : j = 0 := by omega
      refine ⟨pt0, pt0, pl0, [], rfl, ht, rfl, fun e => ?_, by rw [upd_ne npl]; exact upd_same, rfl, fun _ z => absurd z List.not_mem_nil⟩
      rw [e, s78 _ _ go] at hpl0
      cases hpl0
  have s6 : Same H6 (upd (upd (upd H7 pd (lfO P w pd [])) pl0 (.lst [])) pd (lfO P w pd [(keyH ms k1 k2 0, pt0, .ref pl0)])) := same_set ((s67.trans s78).trans s89) hpd6
  refine ⟨pt0, keyH ms k1 k2 0, rfl, ⟨_, (s78.trans s89) _ _ (s67 _ _ gt0), ?_⟩, s89 _ _ upd_same, ?_⟩
  · have := pairH ms k1 k2 0
    unfold stH at this
    rw [Nat.zero_mod, Nat.zero_mod] at this
    exact this
  generalize upd (upd (upd H7 pd (lfO P w pd [])) pl0 (.lst [])) pd (lfO P w pd [(keyH ms k1 k2 0, pt0, .ref pl0)]) = H8 at S s6
  clear s67 s78 s89 go hpd hpl0
  walk_at "rd"
  refine ⟨fun m σ H' => ∃ a os es v7 v8 v9 v10 v11 v12 v13, m = L - a ∧ a ≤ L ∧ Same H6 H' ∧ Srch P w po pd (POh po nm) (stH ms k1 k2) (keyH ms k1 k2) H' (min (a + 1) L) os es ∧ (a = L → cm ms calm1 (L % k1) = cm ms calm2 (L % k2)) ∧
    σ = [some (.ref o1), some (.ref o2), some (.ref pc), some (.ref pst), some (.ref po), some (.ref pd), some (.int (a : Nat)), v7, v8, v9, v10, v11, v12, v13], ⟨L, 0, _, _, none, none, none, none, none, none, none, rfl, Nat.zero_le _, s6, by rw [Nat.min_eq_left G.lo]; exact S, fun e => absurd e (by have := G.lo; omega), rfl⟩, ?_⟩
  clear S s6 H8
  rintro m σ H8 ⟨a, os, es, v7, v8, v9, v10, v11, v12, v13, rfl, ha, s6, S, hT, rfl⟩
  walk_at "rd"
  refine r_lenL (.of S.o) ?_
  walk_at "rd"
  by_cases hge : L ≤ a
  · obtain rfl : a = L := by omega
    refine if_f (decide_eq_false (by rw [S.ol]; omega)) ?_
    walk_at "rd"
    rcases q with ⟨n, _⟩ | ⟨_, _, q⟩
    · exact absurd (hT rfl) n
    · exact q _ (s5.trans s6)
  have hlt : a < L := by omega
  rw [Nat.min_eq_left hlt] at S
  refine if_t (decide_eq_true (by rw [S.ol]; omega)) ?_
  refine ⟨fun σ' H' => ∃ os es v7 v8 v9 v10 v11 v12 v13, Same H6 H' ∧ Srch P w po pd (POh po nm) (stH ms k1 k2) (keyH ms k1 k2) H' (min (a + 1 + 1) L) os es ∧ (a + 1 = L → cm ms calm1 (L % k1) = cm ms calm2 (L % k2)) ∧
    σ' = [some (.ref o1), some (.ref o2), some (.ref pc), some (.ref pst), some (.ref po), some (.ref pd), some (.int ((a + 1 : Nat) : Int)), v7, v8, v9, v10, v11, v12, v13], ?_, ?_⟩
  · rintro σ' H' ⟨os', es', w7, w8, w9, w10, w11, w12, w13, h1, h2, h3, rfl⟩
    exact ⟨L - (a + 1), by omega, a + 1, os', es', w7, w8, w9, w10, w11, w12, w13, rfl, hlt, h1, h2, h3, rfl⟩
  obtain ⟨ta, ba, pla, vsa, ka1, ka2, ka3, ka4, ka5, ka6⟩ := S.at_ a (by omega)
  walk_at "rd"
  refine r_ixL (.of S.o) (at_of (j := a) rfl ka1) ?_
  refine r_gtup (.of ka2) rfl ?_
  unfold stH
  walk_at "rd"
  refine ⟨pst, rfl, ⟨_, .of (s6 _ _ gst)⟩, ?_⟩
  obtain ⟨mv0, hm0, oneB⟩ := fmB
  have lmv : 1 ≤ mv.length := (List.getElem?_eq_some_iff.mp hm0).1
  have sub1 : (a % k1 + 1) % k1 = (a + 1) % k1 := Nat.mod_add_mod a k1 1
  have sub2 : (a % k2 + 1) % k2 = (a + 1) % k2 := Nat.mod_add_mod a k2 1
  have lt1 : ∀ x, x % k1 < k1 := fun x => Nat.mod_lt x O1.k1
  have lt2 : ∀ x, x % k2 < k2 := fun x => Nat.mod_lt x O2.k1
  refine for_it (walk_list (xs := [.str "timeout"] ++ mv)) (fun m σ H' => ∃ os es v10 v11 v12 v13, Same H6 H' ∧ Srch P w po pd (POh po nm) (stH ms k1 k2) (keyH ms k1 k2) H' (if m ≤ 1 then a + 1 else min (a + 1 + 1) L) os es ∧ (2 ≤ m → cm ms calm1 ((a + 1) % k1) = cm ms calm2 ((a + 1) % k2)) ∧
    σ = [some (.ref o1), some (.ref o2), some (.ref pc), some (.ref pst), some (.ref po), some (.ref pd), some (.int (a : Nat)), some (.str (md ms (a % k1))), some (.str (md ms (a % k2))), some .non, v10, v11, v12, v13]) ⟨os, es, v10, v11, v12, v13, s6, S, fun z => absurd z (by decide), rfl⟩ (fun _ _ H' _ h => by
      obtain ⟨_, _, _, _, _, _, h, _⟩ := h
      exact .of (h _ _ gst)) ?_ ?_
  · clear S os es v7 v8 v9 v10 v11 v12 v13 s6 ka1 ka2 ka3 ka4 ka5 ka6 ta ba pla vsa
    rintro m x σ H8' H9 hm ⟨os, es, v10, v11, v12, v13, s6, S, hE, rfl⟩ ⟨rfl, hx⟩
    obtain ⟨n, hn, hna⟩ : ∃ n, (if m ≤ 1 then a + 1 else min (a + 1 + 1) L) = n ∧ a < n := ⟨_, rfl, by split <;> omega⟩
    rw [hn] at S
    obtain ⟨ta, ba, pla, vsa, ka1, ka2, ka3, ka4, ka5, ka6⟩ := S.at_ a hna
    have hx' : (∀ {H' : Hp} {k i : Nat} {Q' : VK}, Same H6 H' → NoneQ H' Q' → actH K H' x ms nm k i Q') ∧ m ≠ 1 ∨ ∃ t c l, x = .ref t ∧ H6 t = some (.tup [.str nm, .int c, .ref l]) ∧ 1 ≤ m ∧ (m = 1 → ∀ {H'}, Same H6 H' → OneB po H' nm x) := by
      cases m with
      | zero =>
        obtain rfl : V.str "timeout" = x := Option.some.inj hx
        exact .inl ⟨fun _ h => .inl ⟨rfl, h⟩, by decide⟩
      | succ m =>
        have hx : mv[m]? = some x := hx
        obtain ⟨t, n', c, l, rfl, g1, g2⟩ := am x (List.mem_of_getElem? hx)
        by_cases e : n' = nm
        · subst e
          refine .inr ⟨t, c, l, rfl, g1, by omega, fun e => ?_⟩
          obtain rfl : m = 0 := by omega
          rw [hm0] at hx
          rw [← Option.some.inj hx]
          exact oneB
        · refine .inl ⟨fun s h => .inr ⟨t, n', _, _, rfl, .of (s _ _ g1), ?_, fun _ => h, fun z => absurd z e⟩, fun z => ?_⟩
          · rcases List.mem_cons.mp g2 with z | z
            · exact absurd z e
            · rw [List.mem_singleton.mp z]
              exact n1
          · obtain rfl : m = 0 := by omega
            rw [hm0] at hx
            obtain rfl := Option.some.inj hx
            obtain ⟨t', l', e1, e2, _⟩ := oneB (Same.refl _)
            obtain rfl := V.ref.inj e1
            rw [g1] at e2
            injection e2 with e2
            injection e2 with e2
            injection e2 with e2 _
            exact e (V.str.inj e2)
    walk_at "rd"
    refine ⟨sz2, fun p1 hp1 => ?_⟩
    have z1 := same_upd (o := .tup [.str (md ms (a % k1)), .non]) hp1
    have y1 : SqT K (upd H9 p1 (.tup [.str (md ms (a % k1)), .non])) p1 [.str (md ms (a % k1)), .non] := .of upd_same
    generalize upd H9 p1 (.tup [.str (md ms (a % k1)), .non]) = Ha at z1 y1
    walk_at "rd"
    rcases hx' with ⟨dead, m1⟩ | ⟨t, c, l, rfl, g1, m1, gB⟩
    · refine ⟨o1, pc, p1, ms, nm, k1, calm1, rs1, a % k1, rfl, rfl, rfl, N, lt1 a, .inr ⟨O1.same (s5.trans (s6.trans z1)), [], y1, dead (s6.trans z1) fun Hb z2 => ?_⟩⟩
      walk_at "rd"
      refine ⟨sz2, fun p2 hp2 => ?_⟩
      have z3 := same_upd (o := .tup [.str (md ms (a % k2)), .non]) hp2
      have y2 : SqT K (upd Hb p2 (.tup [.str (md ms (a % k2)), .non])) p2 [.str (md ms (a % k2)), .non] := .of upd_same
      generalize upd Hb p2 (.tup [.str (md ms (a % k2)), .non]) = Hc at z3 y2
      have zc := (z1.trans z2).trans z3
      walk_at "rd"
      refine ⟨o2, pc, p2, ms, nm, k2, calm2, rs2, a % k2, rfl, rfl, rfl, N, lt2 a, .inr ⟨O2.same (s5.trans (s6.trans zc)), [], y2, dead (s6.trans zc) fun Hd z4 => ?_⟩⟩
      have zd := zc.trans z4
      have Sd := S.same POh_keep zd
      walk_at "rd"
      refine r_lfget ?_
      walk_at "rd"
      refine r_ixL (.of Sd.o) (at_of (j := a) rfl ka1) ?_
      refine ⟨pd, ta, _, es, a, ba, .ref pla, rfl, rfl, ⟨_, zd _ _ ka2, pairH ms k1 k2 a⟩, Sd.d, ka3, ?_⟩
      walk_at "rd"
      refine ⟨sz1, fun p3 hp3 => ?_⟩
      refine r_cat (same_upd hp3 _ _ (zd _ _ ka5)) upd_same (szK (by rw [ka6.1]; have := G.hi; simp only [List.length_singleton]; omega)) fun p4 hp4 => ?_
      have ze := (same_upd (o := .lst [x]) hp3).trans (same_upd (o := .lst (vsa ++ [x])) hp4)
      have Se := Sd.same POh_keep ze
      have z6 := (s6.trans zd).trans ze
      generalize upd (upd Hd p3 (.lst [x])) p4 (.lst (vsa ++ [x])) = He at ze Se z6
      walk_at "rd"
      refine ⟨o1, o2, pc, ms, nm, k1, calm1, rs1, k2, calm2, rs2, rfl, rfl, rfl, N, O1.same (s5.trans z6), O2.same (s5.trans z6), .inl ⟨rfl, rfl, ?_⟩⟩
      walk_at "rd"
      refine if_f rfl ?_
      walk_at "rd"
      refine if_f rfl ?_
      refine ⟨os, es, _, _, _, _, z6, ?_, fun z => hE (by omega), rfl⟩
      rw [show (if m + 1 ≤ 1 then a + 1 else min (a + 1 + 1) L) = n by rw [← hn]; split <;> split <;> omega]
      exact Se
    · refine ⟨o1, pc, p1, ms, nm, k1, calm1, rs1, a % k1, rfl, rfl, rfl, N, lt1 a, .inr ⟨O1.same (s5.trans (s6.trans z1)), [], y1, .inr ⟨t, nm, _, _, rfl, .of ((s6.trans z1) _ _ g1), N.gn.ne, fun z => absurd rfl z, fun _ Hb t1 z2 et1 => ?_⟩⟩⟩
      rw [sub1] at et1
      walk_at "rd"
      refine ⟨sz2, fun p2 hp2 => ?_⟩
      have z3 := same_upd (o := .tup [.str (md ms (a % k2)), .non]) hp2
      have y2 : SqT K (upd Hb p2 (.tup [.str (md ms (a % k2)), .non])) p2 [.str (md ms (a % k2)), .non] := .of upd_same
      generalize upd Hb p2 (.tup [.str (md ms (a % k2)), .non]) = Hc at z3 y2
      have zc := (z1.trans z2).trans z3
      walk_at "rd"
      refine ⟨o2, pc, p2, ms, nm, k2, calm2, rs2, a % k2, rfl, rfl, rfl, N, lt2 a, .inr ⟨O2.same (s5.trans (s6.trans zc)), [], y2, .inr ⟨t, nm, _, _, rfl, .of ((s6.trans zc) _ _ g1), N.gn.ne, fun z => absurd rfl z, fun _ Hd t2 z4 et2 => ?_⟩⟩⟩
      rw [sub2] at et2
      have et1 := z4 _ _ (z3 _ _ et1)
      have zd := zc.trans z4
      have Sd := S.same POh_keep zd
      walk_at "rd"
      refine r_lfget ?_
      walk_at "rd"
      refine r_ixL (.of Sd.o) (at_of (j := a) rfl ka1) ?_
      refine ⟨pd, ta, _, es, a, ba, .ref pla, rfl, rfl, ⟨_, zd _ _ ka2, pairH ms k1 k2 a⟩, Sd.d, ka3, ?_⟩
      walk_at "rd"
      refine ⟨sz1, fun p3 hp3 => ?_⟩
      refine r_cat (same_upd hp3 _ _ (zd _ _ ka5)) upd_same (szK (by rw [ka6.1]; have := G.hi; simp only [List.length_singleton]; omega)) fun p4 hp4 => ?_
      have ze := (same_upd (o := .lst [.ref t]) hp3).trans (same_upd (o := .lst (vsa ++ [.ref t])) hp4)
      have Se := Sd.same POh_keep ze
      have z6 := (s6.trans zd).trans ze
      have e4 : (upd (upd Hd p3 (.lst [.ref t])) p4 (.lst (vsa ++ [.ref t]))) p4 = some (.lst (vsa ++ [.ref t])) := upd_same
      have n4 : p4 ≠ po := fun e => by
        rw [e, same_upd hp3 _ _ Sd.o] at hp4
        cases hp4
      have et1 := ze _ _ et1
      have et2 := ze _ _ et2
      generalize upd (upd Hd p3 (.lst [.ref t])) p4 (.lst (vsa ++ [.ref t])) = He at ze Se z6 e4 et1 et2
      have pv : ∀ {H' : Hp}, Same He H' → ∀ v ∈ vsa, OneB po H' nm v := fun s v hv => ((ka6.2 v hv).same (zd.trans ze)).same s
      walk_at "rd"
      refine ⟨o1, o2, pc, ms, nm, k1, calm1, rs1, k2, calm2, rs2, rfl, rfl, rfl, N, O1.same (s5.trans z6), O2.same (s5.trans z6), .inr ⟨t1, t2, (a + 1) % k1, (a + 1) % k2, rfl, rfl, .of et1, .of et2, lt1 _, lt2 _, fun Hf z7 => ?_⟩⟩
      have z8 := z6.trans z7
      walk_at "rd"
      by_cases e : cm ms calm1 ((a + 1) % k1) = cm ms calm2 ((a + 1) % k2)
      · refine if_f (show (cm ms calm1 ((a + 1) % k1) != cm ms calm2 ((a + 1) % k2)) = false by rw [e]; exact bne_self_eq_false' _) ?_
        walk_at "rd"
        refine if_t rfl ?_
        walk_at "rd"
        refine r_ixT (.of (z7 _ _ et1)) (at_of (j := 0) rfl rfl) ?_
        walk_at "rd"
        refine r_ixT (.of (z7 _ _ et2)) (at_of (j := 0) rfl rfl) ?_
        walk_at "rd"
        refine r_ixT (.of (z7 _ _ et1)) (at_of (j := 1) rfl rfl) ?_
        walk_at "rd"
        refine ⟨sz3, fun p5 hp5 => ?_⟩
        have z9 := same_upd (o := .tup (stH ms k1 k2 (a + 1))) hp5
        have Sg := (Se.same POh_keep z7).same POh_keep z9
        have k5 : KeyAt (upd Hf p5 (.tup (stH ms k1 k2 (a + 1)))) p5 (keyH ms k1 k2 (a + 1)) := ⟨_, upd_same, pairH ms k1 k2 (a + 1)⟩
        have z10 := z8.trans z9
        have z79 := z7.trans z9
        show (tVar 5) _ (upd Hf p5 (.tup (stH ms k1 k2 (a + 1)))) _
        generalize upd Hf p5 (.tup (stH ms k1 k2 (a + 1))) = Hg at z9 Sg k5 z10 z79
        walk_at "rd"
        refine r_lfnin k5 Sg.d ?_
        rw [Sg.keys]
        walk_at "rd"
        by_cases hin : keyH ms k1 k2 (a + 1) ∈ (List.range n).map (keyH ms k1 k2)
        · refine if_f (decide_eq_false fun z => z hin) ?_
          have en : (if m + 1 ≤ 1 then a + 1 else min (a + 1 + 1) L) = n := by
            rw [if_neg (by omega), ← hn]
            by_cases hm1 : m ≤ 1
            · rw [if_pos hm1]
              by_cases hL : a + 1 = L
              · omega
              · exfalso
                rw [← hn, if_pos hm1] at hin
                obtain ⟨j, hj, ej⟩ := List.mem_map.mp hin
                exact G.new (a + 1) j (List.mem_range.mp hj) (by omega) (keyH_inj N O1.k1 O1.k6 O2.k1 O2.k6 ej)
            · rw [if_neg hm1]
          refine ⟨os, es, _, _, _, _, z10, ?_, fun _ => e, rfl⟩
          rw [en]
          exact Sg
        · have hL : a + 1 < L ∧ m ≤ 1 := by
            by_cases hL : a + 1 < L
            · refine ⟨hL, ?_⟩
              by_cases hm1 : m ≤ 1
              · exact hm1
              · rw [if_neg hm1] at hn
                exact absurd (List.mem_map.mpr ⟨a + 1, List.mem_range.mpr (by omega), rfl⟩) hin
            · obtain rfl : L = a + 1 := by omega
              rcases q with ⟨q, _⟩ | ⟨_, ⟨b, hb, e1, e2⟩, _⟩
              · exact absurd e q
              · have ek : keyH ms k1 k2 b = keyH ms k1 k2 (a + 1) := by
                  unfold keyH
                  rw [e1, e2]
                have : n = a + 1 := by rw [← hn]; split <;> omega
                exact absurd (List.mem_map.mpr ⟨b, List.mem_range.mpr (by omega), ek⟩) hin
          obtain ⟨hL, hm1⟩ := hL
          obtain rfl : n = a + 1 := by rw [← hn, if_pos hm1]
          refine if_t (decide_eq_true hin) ?_
          walk_at "rd"
          refine r_sub ?_
          walk_at "rd"
          refine r_ixT (.of (z79 _ _ et1)) (at_of (j := 0) rfl rfl) ?_
          walk_at "rd"
          refine r_ixT (.of (z79 _ _ et2)) (at_of (j := 0) rfl rfl) ?_
          walk_at "rd"
          refine r_ixT (.of (z79 _ _ et1)) (at_of (j := 1) rfl rfl) ?_
          walk_at "rd"
          refine ⟨sz3, fun p6 hp6 => ?_⟩
          have z11 := same_upd (o := .tup (stH ms k1 k2 (a + 1))) hp6
          have Sh := Sg.same POh_keep z11
          have k6 : KeyAt (upd Hg p6 (.tup (stH ms k1 k2 (a + 1)))) p6 (keyH ms k1 k2 (a + 1)) := ⟨_, upd_same, pairH ms k1 k2 (a + 1)⟩
          have z12 := z10.trans z11
          have z7b := z79.trans z11
          show rLfSet P w (.ref pd) (.ref p6) (.ref p4) (upd Hg p6 (.tup (stH ms k1 k2 (a + 1)))) _
          generalize upd Hg p6 (.tup (stH ms k1 k2 (a + 1))) = Hh at Sh k6 z12 z7b
          refine ⟨pd, p6, _, es, rfl, rfl, k6, Sh.d, by rw [Sh.keys]; exact hin, by rw [Sh.dl]; have := G.hi; omega, ?_⟩
          have nd : ∀ {b : Addr} {xs : List V}, Hh b = some (.tup xs) → (upd Hh pd (lfO P w pd (es ++ [(keyH ms k1 k2 (a + 1), p6, .ref p4)]))) b = some (.tup xs) := fun {b} {xs} z => by
            rw [upd_ne (ne_of z Sh.d.1 fun y => by cases y)]
            exact z
          have npd : po ≠ pd := ne_of Sh.o Sh.d.1 fun y => by cases y
          have o13 : (upd Hh pd (lfO P w pd (es ++ [(keyH ms k1 k2 (a + 1), p6, .ref p4)]))) po = some (.lst os) := by
            rw [upd_ne npd]
            exact Sh.o
          walk_at "rd"
          refine ⟨ty_list (.of o13), ?_⟩
          walk_at "rd"
          refine r_ixT (.of (nd (z7b _ _ et1))) (at_of (j := 0) rfl rfl) ?_
          walk_at "rd"
          refine r_ixT (.of (nd (z7b _ _ et2))) (at_of (j := 0) rfl rfl) ?_
          walk_at "rd"
          refine r_ixT (.of (nd (z7b _ _ et1))) (at_of (j := 1) rfl rfl) ?_
          walk_at "rd"
          refine ⟨sz3, fun p7 hp7 => ?_⟩
          have z13 := same_upd (o := .tup (stH ms k1 k2 (a + 1))) hp7
          walk_at "rd"
          refine r_append (z13 _ _ o13) (small1000 (by rw [Sh.ol]; have := G.hi; omega)) ?_
          have hB : ∀ {H' : Hp}, Same H6 H' → OneB po H' nm (.ref t) := gB (by omega)
          have Sz := Sh.push POh_keep k6 (z7b _ _ e4) n4 ⟨by rw [List.length_append, ka6.1]; rfl, fun v hv => by
            rcases List.mem_append.mp hv with y | y
            · exact pv z7b v y
            · rw [List.mem_singleton.mp y]
              exact hB z12⟩ z13 upd_same
          refine ⟨os ++ [.ref p7], es ++ [(keyH ms k1 k2 (a + 1), p6, .ref p4)], _, _, _, _, same_set ((same_set z12 hpd6).trans z13) hpo, ?_, fun _ => e, rfl⟩
          rw [if_neg (by omega), show min (a + 1 + 1) L = a + 1 + 1 by omega]
          exact Sz
      · refine if_t (show (cm ms calm1 ((a + 1) % k1) != cm ms calm2 ((a + 1) % k2)) = true from bne_iff_ne.mpr e) ?_
        have hm1 : m = 1 := by
          by_cases z : 2 ≤ m
          · exact absurd (hE z) e
          · omega
        have hL : a + 1 = L := by
          by_cases z : a + 1 < L
          · exact absurd (G.eq _ (by omega) z) e
          · omega
        subst hL
        rcases q with ⟨_, q⟩ | ⟨z, _⟩
        · walk_at "rd"
          refine ⟨p4, _, nm, rfl, z7 _ _ e4, by rw [List.length_append, ka6.1]; have := G.hi; simp only [List.length_singleton]; omega, fun v hv => ?_, fun Hg pr ws z9 er lr ar => ?_⟩
          · rcases List.mem_append.mp hv with y | y
            · exact (pv z7 v y).one
            · rw [List.mem_singleton.mp y]
              exact (gB hm1 z8).one
          · walk_at "rd"
            refine ⟨sz2, fun pz hpz => ?_⟩
            have z11 := same_upd (o := .tup [.ref pc, .ref pr]) hpz
            exact q _ pz pc pr ws (s5.trans ((z8.trans z9).trans z11)) upd_same ((z8.trans z9).trans z11 _ _ gc) (z11 _ _ er) (by rw [lr, List.length_append, ka6.1]; rfl) fun v hv => (ar v hv).same z11
        · exact absurd z e
  · rintro σ H9 ⟨os, es, v10, v11, v12, v13, s6, S, hE, rfl⟩
    have l2 : 2 ≤ ([V.str "timeout"] ++ mv).length := by rw [List.length_append, List.length_singleton]; omega
    rw [if_neg (by omega)] at S
    walk_at "rd"
    refine ⟨_, _, rfl, rfl, ?_⟩
    refine ⟨os, es, some (.str (md ms (a % k1))), some (.str (md ms (a % k2))), some .non, v10, v11, v12, v13, s6, S, fun z => ?_, ?_⟩
    · rw [← z]
      exact hE l2
    · rfl
end
end K67
-- deps: PartHosts
namespace K67
open PySem PySem.Spec PyProof.Rows L2
section
variable {P : Program} {w : World} {K : PySem.W.Frag} {mg : Str → Option Value} {base : Heap} {D : Adr}
def uI (u : Bool) : Nat := if u then 1 else 0
theorem uI0 (u : Bool) : ((uI u : Nat) : Int) - ((uI u : Nat) : Int) = 0 := by omega
/-- the window's choices -/
def winL (u : Bool) (low : Nat) : List V := (desc (uI u : Nat) (low + 1 + uI u)).map V.int
abbrev sp_window (K : PySem.W.Frag) (D : Adr) : Sp := Sp2 fun a b H Q => ∃ (u : Bool) (low : Nat), a = .bl u ∧ b = .int low ∧ low ≤ 2 ∧ ∀ H' p, Same H H' → H' p = some (.lst (winL u low)) → Q (.ref p) H'
theorem range_succ_map {f : Nat → V} (n : Nat) : (List.range (n + 1)).map f = (List.range n).map f ++ [f n] := by rw [List.range_succ, List.map_append]; rfl
theorem sc_window : FnScope ["is_under", "low", "choices", "at"] ["is_under", "low"] (defScope (top 48)) := ⟨rfl, rfl, rfl, by decide +kernel, rfl, by decide +kernel, by decide +kernel⟩
theorem ok_window (F : Df K mg "window" 48) (B : Bl mg) : Cal P w K mg base 1 "window" (sp_window K D) := by
  have sc := sc_window
  refine mk_cal F sc len2 (fun _ _ _ _ _ _ us hl => match us, hl with | [_, _], _ => rfl) (fun f cdv A outer s H vs Q E hr h => ?_)
  obtain ⟨a0, a1, rfl, h⟩ := h
  refine ⟨_, (pss_cons (ps_setLc (i := 2) (own := [("at", 3)]) (g := gName 3) (tt := tYes) rfl sc.nd rfl rfl (sw_true rfl rfl rfl (by decide +kernel)) (pi_range1 rfl B.range_ (pa_cons (pe_op op_add (pv 1) pe_int) pa_nil)) (blkOk_by (own := [("at", 3)]) (N := ["is_under", "low", "choices", "at"]) (sc := defScope (top 48)) (by decide +kernel)) (fun _ _ _ _ _ => pg_name (i := 3) sc.nd rfl (Or.inl rfl)) (fun _ _ _ _ _ => pts_nil) (fun _ _ _ _ _ => (pe_op op_sub pe_int (pv 3))))
  (pss_cons (ps_if (pt_val (pv 0)) (pss_one (ps_ret (pe_op op_cat (pe_lst (pa_cons pe_int pa_nil)) (pv 2)))) pss_nil)
  (pss_one (ps_ret (pv 2))))), ?_⟩
  obtain ⟨u, low, rfl, rfl, hlow, q⟩ := h
  walk_at "rd"
  refine ⟨_, rfl, by omega, by omega, fun pl hpl => ?_⟩
  refine lc_range (fun i H' => Same H H' ∧ H' pl = some (.lst ((List.range i).map fun j => .int (0 - (j : Nat))))) ⟨same_upd hpl, upd_same⟩ ?_ ?_
  · rintro i H1 hi ⟨s1, e1⟩
    have hi : i < 3 := by omega
    walk_at "rd"
    refine ⟨rfl, ?_⟩
    walk_at "rd"
    refine if_t rfl ?_
    walk_at "rd"
    refine ⟨_, e1, small1000 (by rw [List.length_map, List.length_range]; omega), same_set s1 hpl, ?_⟩
    rw [upd_same, range_succ_map]
    congr 5
    omega
  · rintro H1 ⟨s1, e1⟩
    walk_at "rd"
    have e : ((low : Int) + 1).toNat = low + 1 := by omega
    rw [e] at e1
    cases u with
    | true =>
      refine if_t rfl ?_
      walk_at "rd"
      refine ⟨sz1, fun p1 hp1 => ?_⟩
      walk_at "rd"
      refine r_cat (xs := [.int 1]) upd_same (same_upd hp1 _ _ e1) (szK (by rw [List.length_map, List.length_range, List.length_singleton]; omega)) fun p2 hp2 => ?_
      refine q _ p2 ((s1.trans (same_upd hp1)).trans (same_upd hp2)) ?_
      rw [upd_same]
      rcases low with _ | _ | _ | low
      · rfl
      · rfl
      · rfl
      · omega
    | false =>
      refine if_f rfl ?_
      walk_at "rd"
      refine q _ pl s1 ?_
      rw [e1]
      rcases low with _ | _ | _ | low
      · rfl
      · rfl
      · rfl
      · omega
theorem winL_len (u : Bool) {low : Nat} (h : low ≤ 2) : (winL u low).length ≤ 4 := by
  unfold winL
  rw [List.length_map, desc_len]
  cases u <;> simp [uI] <;> omega
theorem winL_int {u : Bool} {low : Nat} {v : V} (h : v ∈ winL u low) : ∃ i : Int, v = .int i := by
  obtain ⟨i, _, e⟩ := List.mem_map.mp h
  exact ⟨i, e.symm⟩
/-- a message of this name -/
def SaidAt (H : Hp) (ex : Str) (v : V) : Prop := ∃ t c, v = .ref t ∧ H t = some (.tup [.str ex, c])
theorem SaidAt.same {H H' : Hp} {ex : Str} {v : V} (s : Same H H') (h : SaidAt H ex v) : SaidAt H' ex v := let ⟨t, c, e, h⟩ := h; ⟨t, c, e, s _ _ h⟩
abbrev sp_caller_stimuli (K : PySem.W.Frag) (D : Adr) : Sp := Sp3 fun a b c H Q => ∃ l ex, ∃ (u : Bool) (low : Nat), a = .ref l ∧ b = .bl u ∧ c = .int low ∧ H l = some (.lst [.str ex]) ∧ low ≤ 2 ∧
  ∀ H' p vs, Same H H' → H' p = some (.lst (.str "timeout" :: vs)) → (∀ v ∈ vs, SaidAt H' ex v) → Q (.ref p) H'
theorem sc_caller_stimuli : FnScope ["names", "is_under", "low", "found", "name", "choice"] ["names", "is_under", "low"] (defScope (top 49)) := ⟨rfl, rfl, rfl, by decide +kernel, rfl, by decide +kernel, by decide +kernel⟩
theorem ok_caller_stimuli (F : Df K mg "caller_stimuli" 49) (T : Txt mg D) (cwindow : Cal P w K mg base 1 "window" (sp_window K D)) : Cal P w K mg base 2 "caller_stimuli" (sp_caller_stimuli K D) := by
  have sc := sc_caller_stimuli
  refine mk_cal F sc len3 (fun _ _ _ _ _ _ us hl => match us, hl with | [_, _, _], _ => rfl) (fun f cdv A outer s H vs Q E hr h => ?_)
  obtain ⟨a0, a1, a2, rfl, h⟩ := h
  refine ⟨_, (pss_cons (ps_set (i := 3) sc.nd rfl (.inl rfl) (pe_lst (pa_cons (pe_gc rfl T.TIMEOUT) pa_nil)))
  (pss_cons (ps_for PassesOwn.never rfl (pi_list (pv 0)) (pg_name (i := 4) sc.nd rfl (.inl rfl)) (pss_one (ps_for PassesOwn.never rfl (pi_list (pe_c cwindow hr (by decide) rfl (pa_cons (pv 1) (pa_cons (pv 2) pa_nil)))) (pg_name (i := 5) sc.nd rfl (.inl rfl)) (pss_one (ps_expr (pe_bm PySem.F.plainAttrs_list PySem.F.slot_list_append PySem.F.type_list_append mt_append (pv 3) (pa_cons (pe_tup (pa_cons (pv 4) (pa_cons (pv 5) pa_nil))) pa_nil)))))))
  (pss_one (ps_ret (pv 3))))), ?_⟩
  obtain ⟨l, ex, u, low, rfl, rfl, rfl, hl, hlow, q⟩ := h
  walk_at "rd"
  refine ⟨sz1, fun pf hpf => ?_⟩
  have s0 := same_upd (o := .lst [.str "timeout"]) hpf
  walk_at "rd"
  refine ⟨l, rfl, ⟨_, .of (s0 _ _ hl)⟩, ?_⟩
  refine for_it (walk_list (xs := [.str ex])) (fun i σ H' => Same H H' ∧ (∃ vs, H' pf = some (.lst (.str "timeout" :: vs)) ∧ vs.length ≤ i * 4 ∧ ∀ v ∈ vs, SaidAt H' ex v) ∧ ∃ v4 v5, σ = [some (.ref l), some (.bl u), some (.int low), some (.ref pf), v4, v5]) ⟨s0, ⟨[], upd_same, Nat.zero_le _, fun _ z => absurd z List.not_mem_nil⟩, none, none, rfl⟩ (fun _ _ _ _ h => .of (h.1 _ _ hl)) ?_ ?_
  · rintro i x σ H8 H1 hi ⟨s1, ⟨vs, e1, e2, e3⟩, v4, v5, rfl⟩ ⟨rfl, hx⟩
    obtain rfl : i = 0 := by
      have : i < 1 := hi
      omega
    obtain rfl : V.str ex = x := Option.some.inj hx
    walk_at "rd"
    refine ⟨u, low, rfl, rfl, hlow, fun H2 pw s2 ew => ?_⟩
    have wl := winL_len u hlow
    have e1 := s2 _ _ e1
    have e3 : ∀ v ∈ vs, SaidAt H2 ex v := fun v hv => (e3 v hv).same s2
    have s2 := s1.trans s2
    refine ⟨pw, rfl, ⟨_, .of ew⟩, ?_⟩
    have nw : pw ≠ pf := fun e => by
      rw [e, e1] at ew
      injection ew with ew
      injection ew with ew
      obtain ⟨i, z⟩ := winL_int (u := u) (low := low) (v := .str "timeout") (by rw [← ew]; exact List.mem_cons_self ..)
      cases z
    refine for_it (walk_list (xs := winL u low)) (fun j σ H' => Same H H' ∧ H' pw = some (.lst (winL u low)) ∧ (∃ vs, H' pf = some (.lst (.str "timeout" :: vs)) ∧ vs.length ≤ j ∧ ∀ v ∈ vs, SaidAt H' ex v) ∧ ∃ v5, σ = [some (.ref l), some (.bl u), some (.int low), some (.ref pf), some (.str ex), v5]) ⟨s2, ew, ⟨vs, e1, by omega, e3⟩, v5, rfl⟩ (fun _ _ _ _ h => .of h.2.1) ?_ ?_
    · rintro j x σ H8 H3 hj ⟨s3, ew, ⟨vs, e1, e2, e3⟩, v5, rfl⟩ ⟨rfl, hx⟩
      walk_at "rd"
      refine ⟨ty_list (.of e1), ?_⟩
      walk_at "rd"
      refine ⟨sz2, fun pt hpt => ?_⟩
      have s4 := same_upd (o := .tup [.str ex, x]) hpt
      have e5 : (upd H3 pt (.tup [.str ex, x])) pt = some (.tup [.str ex, x]) := upd_same
      generalize upd H3 pt (.tup [.str ex, x]) = H4 at s4 e5
      have e6 := s4 _ _ e1
      walk_at "rd"
      refine r_append e6 (small1000 (by rw [List.length_cons]; omega)) ?_
      have keep : ∀ {b : Addr} {xs : List V} {o : HO}, H4 b = some (.tup xs) → (upd H4 pf o) b = some (.tup xs) := fun {b} {xs} {o} z => by
        rw [upd_ne (ne_of z e6 fun y => by cases y)]
        exact z
      refine ⟨same_set (s3.trans s4) hpf, by rw [upd_ne nw]; exact s4 _ _ ew, ⟨vs ++ [.ref pt], upd_same, by rw [List.length_append]; exact Nat.add_le_add_right e2 1, fun v hv => ?_⟩, _, rfl⟩
      rcases List.mem_append.mp hv with m | m
      · obtain ⟨t, c, rfl, h⟩ := e3 v m
        exact ⟨t, c, rfl, keep (s4 _ _ h)⟩
      · rw [List.mem_singleton.mp m]
        exact ⟨pt, x, rfl, keep e5⟩
    · rintro σ H3 ⟨s3, ew, ⟨vs, e1, e2, e3⟩, v5, rfl⟩
      exact ⟨s3, ⟨vs, e1, by omega, e3⟩, _, _, rfl⟩
  · rintro σ H1 ⟨s1, ⟨vs, e1, e2, e3⟩, v4, v5, rfl⟩
    walk_at "rd"
    exact q _ pf vs s1 e1 e3
abbrev sp_lows_after (K : PySem.W.Frag) (D : Adr) : Sp := Sp2 fun a b H Q => ∃ l : Nat, (l = 1 ∨ l = 2) ∧ a = .int l ∧ b = .int 1 ∧ ∀ H' p, Same H H' → H' p = some (.lst ((List.range l).map fun j => .int ((l - 1 + j : Nat) : Int))) → Q (.ref p) H'
theorem sc_lows_after : FnScope ["low", "fall", "left"] ["low", "fall"] (defScope (top 50)) := ⟨rfl, rfl, rfl, by decide +kernel, rfl, by decide +kernel, by decide +kernel⟩
theorem ok_lows_after (F : Df K mg "lows_after" 50) (B : Bl mg) : Cal P w K mg base 1 "lows_after" (sp_lows_after K D) := by
  have sc := sc_lows_after
  refine mk_cal F sc len2 (fun _ _ _ _ _ _ us hl => match us, hl with | [_, _], _ => rfl) (fun f cdv A outer s H vs Q E hr h => ?_)
  obtain ⟨a0, a1, rfl, h⟩ := h
  refine ⟨_, (pss_cons (ps_if (pt_cmpR op_lt (pv 0) pe_int (nomark _)) (pss_one (ps_ret (pe_lst (pa_cons (pe_op op_sub (pv 0) (pv 1)) pa_nil)))) pss_nil)
  (pss_one (ps_ret (pe_lc (own := [("left", 2)]) (g := gName 2) (tt := tYes) rfl sc.nd (pi_range2 rfl B.range_ (pa_cons (pe_op op_sub pe_int (pv 1)) (pa_cons pe_int pa_nil))) (blkOk_by (own := [("left", 2)]) (N := ["low", "fall", "left"]) (sc := defScope (top 50)) (by decide +kernel)) (fun _ _ _ _ _ => pg_name (i := 2) sc.nd rfl (Or.inl rfl)) (fun _ _ _ _ _ => pts_nil) (fun _ _ _ _ _ => (pv 2)))))), ?_⟩
  obtain ⟨l, hl, rfl, rfl, q⟩ := h
  walk_at "rd"
  rcases hl with rfl | rfl
  · refine if_t (by decide) ?_
    walk_at "rd"
    refine ⟨sz1, fun p hp => ?_⟩
    exact q _ p (same_upd hp) upd_same
  · refine if_f (by decide) ?_
    walk_at "rd"
    refine ⟨_, _, rfl, by decide, fun p hp => ?_⟩
    refine lc_range (fun i H' => Same H H' ∧ H' p = some (.lst ((List.range i).map fun j => .int ((2 - 1 + j : Nat) : Int)))) ⟨same_upd hp, upd_same⟩ ?_ ?_
    · rintro i H1 hi ⟨s1, e1⟩
      have hi : i < 2 := hi
      walk_at "rd"
      refine ⟨rfl, ?_⟩
      walk_at "rd"
      refine if_t rfl ?_
      walk_at "rd"
      refine ⟨_, e1, small1000 (by rw [List.length_map, List.length_range]; omega), same_set s1 hp, ?_⟩
      rw [upd_same, range_succ_map]
      congr 5
    · rintro H1 ⟨s1, e1⟩
      walk_at "rd"
      exact q _ p s1 e1
abbrev sp_step_of (K : PySem.W.Frag) (D : Adr) : Sp := Sp2 fun a b H Q => a = .str "timeout" ∧ ∀ H' p, Same H H' → H' p = some (.tup [.str "timeout", .int 0, b]) → Q (.ref p) H'
theorem sc_step_of : FnScope ["stimulus", "fall"] ["stimulus", "fall"] (defScope (top 53)) := ⟨rfl, rfl, rfl, by decide +kernel, rfl, by decide +kernel, by decide +kernel⟩
theorem ok_step_of (F : Df K mg "step_of" 53) (T : Txt mg D) : Cal P w K mg base 1 "step_of" (sp_step_of K D) := by
  have sc := sc_step_of
  refine mk_cal F sc len2 (fun _ _ _ _ _ _ us hl => match us, hl with | [_, _], _ => rfl) (fun f cdv A outer s H vs Q E hr h => ?_)
  obtain ⟨a0, a1, rfl, h⟩ := h
  refine ⟨_, (pss_cons (ps_if (pt_cmpR (op_eqTS hr.units0) (pv 0) (pe_gc rfl T.TIMEOUT) (nomark _)) (pss_one (ps_ret (pe_tup (pa_cons (pe_gc rfl T.TIMEOUT) (pa_cons pe_int (pa_cons (pv 1) pa_nil)))))) pss_nil)
  (pss_one (ps_ret (pe_tup (pa_cons (pe_ix ix_tup (pv 0) pe_int (fun _ _ => rfl)) (pa_cons (pe_ix ix_tup (pv 0) pe_int (fun _ _ => rfl)) (pa_cons (pv 1) pa_nil))))))), ?_⟩
  obtain ⟨rfl, q⟩ := h
  walk_at "rd"
  refine r_eqS ?_
  walk_at "rd"
  refine if_t (decide_eq_true rfl) ?_
  walk_at "rd"
  refine ⟨sz3, fun p hp => ?_⟩
  exact q _ p (same_upd hp) upd_same
/-- what a step down by a timeout hands back -/
abbrev sp_step_callers (K : PySem.W.Frag) (D : Adr) : Sp := Sp4 fun a b c d H Q => ∃ o1 o2 st ms nm k1 calm1 rs1 k2 calm2 rs2 i1 i2, ∃ (u : Bool) (low : Nat), a = .ref o1 ∧ b = .ref o2 ∧ c = .ref st ∧ Nms ms nm ∧ RingAt D H o1 true ms nm k1 calm1 rs1 ∧ RingAt D H o2 true ms nm k2 calm2 rs2 ∧
  i1 < k1 ∧ i2 < k2 ∧ low ≤ 2 ∧ SqT K H st [.str (md ms i1), .str (md ms i2), .bl u, .int low] ∧
  ((((d = .str "timeout" ∧ low = 0) ∨ ∃ ex : Str, ex ≠ "timeout" ∧ SaidAt H ex d) ∧ ∀ H' p, Same H H' → H' p = some (.tup [.non, .non, .int 0]) → Q (.ref p) H') ∨
   (d = .str "timeout" ∧ 1 ≤ low ∧ ∀ H' p t1 t2, Same H H' → H' p = some (.tup [.ref t1, .ref t2, .int 1]) → CalRes H' t1 (md ms ((i1 + 1) % k1)) (-1) nm → CalRes H' t2 (md ms ((i2 + 1) % k2)) (-1) nm → Q (.ref p) H'))
theorem CalRes.same {H H' : Hp} {t : Addr} {m nm : Str} {c : Int} (s : Same H H') (h : CalRes H t m c nm) : CalRes H' t m c nm := let ⟨u, h1, h2⟩ := h; ⟨u, s _ _ h1, s _ _ h2⟩
theorem sc_step_callers : FnScope ["one", "other", "state", "stimulus", "first", "second", "is_under", "low", "choices", "left", "right"] ["one", "other", "state", "stimulus"] (defScope (top 52)) := ⟨rfl, rfl, rfl, by decide +kernel, rfl, by decide +kernel, by decide +kernel⟩
theorem ok_step_callers (F : Df K mg "step_callers" 52) (cwindow : Cal P w K mg base 1 "window" (sp_window K D)) (cacted : Cal P w K mg base 5 "acted" (sp_acted K D)) : Cal P w K mg base 6 "step_callers" (sp_step_callers K D) := by
  have sc := sc_step_callers
  refine mk_cal F sc len4 (fun _ _ _ _ _ _ us hl => match us, hl with | [_, _, _, _], _ => rfl) (fun f cdv A outer s H vs Q E hr h => ?_)
  obtain ⟨a0, a1, a2, a3, rfl, h⟩ := h
  refine ⟨_, (pss_cons (ps_asg (pv 2) (pg_tup rfl (pgs_cons (pg_name (i := 4) sc.nd rfl (.inl rfl)) (pgs_cons (pg_name (i := 5) sc.nd rfl (.inl rfl)) (pgs_cons (pg_name (i := 6) sc.nd rfl (.inl rfl)) (pgs_cons (pg_name (i := 7) sc.nd rfl (.inl rfl)) pgs_nil))))))
  (pss_cons (ps_set (i := 8) sc.nd rfl (.inl rfl) (pe_c cwindow hr (by decide) rfl (pa_cons (pv 6) (pa_cons (pv 7) pa_nil))))
  (pss_cons (ps_set (i := 9) sc.nd rfl (.inl rfl) (pe_c cacted hr (by decide) rfl (pa_cons (pv 0) (pa_cons (pv 8) (pa_cons (pe_tup (pa_cons (pv 4) (pa_cons pe_int pa_nil))) (pa_cons (pv 3) pa_nil))))))
  (pss_cons (ps_set (i := 10) sc.nd rfl (.inl rfl) (pe_c cacted hr (by decide) rfl (pa_cons (pv 1) (pa_cons (pv 8) (pa_cons (pe_tup (pa_cons (pv 5) (pa_cons pe_int pa_nil))) (pa_cons (pv 3) pa_nil))))))
  (pss_cons (ps_if (pt_cmpR op_is0 (pv 9) pe_non (nomark _)) (pss_one (ps_ret (pe_tup (pa_cons (pv 9) (pa_cons (pv 10) (pa_cons pe_int pa_nil)))))) pss_nil)
  (pss_one (ps_ret (pe_tup (pa_cons (pv 9) (pa_cons (pv 10) (pa_cons (pe_op op_sub pe_int (pe_ix ix_tup (pv 9) pe_int (fun _ _ => rfl))) pa_nil))))))))))), ?_⟩
  obtain ⟨o1, o2, st, ms, nm, k1, calm1, rs1, k2, calm2, rs2, i1, i2, u, low, rfl, rfl, rfl, N, O1, O2, hi1, hi2, hlow, hst, q⟩ := h
  walk_at "rd"
  refine r_gtup hst rfl ?_
  walk_at "rd"
  refine ⟨u, low, rfl, rfl, hlow, fun H1 pw s1 ew => ?_⟩
  have num : low + 1 + uI u ≤ 1000 := by cases u <;> simp [uI] <;> omega
  have z0 : ((uI u : Nat) : Int) - ((uI u : Nat) : Int) = 0 := uI0 u
  walk_at "rd"
  refine ⟨sz2, fun p1 hp1 => ?_⟩
  have s2 := same_upd (o := .tup [.str (md ms i1), .int 0]) hp1
  have y1 : SqT K (upd H1 p1 (.tup [.str (md ms i1), .int 0])) p1 [.str (md ms i1), .int (((uI u : Nat) : Int) - ((uI u : Nat) : Int))] := by rw [z0]; exact .of upd_same
  generalize upd H1 p1 (.tup [.str (md ms i1), .int 0]) = H2 at s2 y1
  have s12 := s1.trans s2
  walk_at "rd"
  rcases q with ⟨hd, q⟩ | ⟨rfl, hlo, q⟩
  · have act : ∀ {H' : Hp} {k i : Nat} {Q' : VK}, Same H H' → NoneQ H' Q' → actC K H' a3 ms nm k i (uI u : Nat) (low + 1 + uI u) (uI u) Q' := fun s z => by
      rcases hd with ⟨rfl, e⟩ | ⟨ex, ne, t, c, rfl, ht⟩
      · exact .inl ⟨rfl, fun _ => z, fun y => by omega⟩
      · exact .inr ⟨t, ex, c, rfl, .of (s _ _ ht), ne, z⟩
    refine ⟨o1, pw, p1, ms, nm, k1, calm1, rs1, i1, rfl, rfl, rfl, N, hi1, .inl ⟨O1.same s12, (uI u : Nat), low + 1 + uI u, uI u, [], .of (s2 _ _ ew), y1, by omega, num, act s12 fun H3 s3 => ?_⟩⟩
    walk_at "rd"
    refine ⟨sz2, fun p2 hp2 => ?_⟩
    have s4 := same_upd (o := .tup [.str (md ms i2), .int 0]) hp2
    have y2 : SqT K (upd H3 p2 (.tup [.str (md ms i2), .int 0])) p2 [.str (md ms i2), .int (((uI u : Nat) : Int) - ((uI u : Nat) : Int))] := by rw [z0]; exact .of upd_same
    generalize upd H3 p2 (.tup [.str (md ms i2), .int 0]) = H4 at s4 y2
    have s14 := (s12.trans s3).trans s4
    walk_at "rd"
    refine ⟨o2, pw, p2, ms, nm, k2, calm2, rs2, i2, rfl, rfl, rfl, N, hi2, .inl ⟨O2.same s14, (uI u : Nat), low + 1 + uI u, uI u, [], .of (s4 _ _ (s3 _ _ (s2 _ _ ew))), y2, by omega, num, act s14 fun H5 s5 => ?_⟩⟩
    walk_at "rd"
    refine if_t rfl ?_
    walk_at "rd"
    refine ⟨sz3, fun p hp => ?_⟩
    exact q _ p (same_upd' (s14.trans s5) hp) upd_same
  · refine ⟨o1, pw, p1, ms, nm, k1, calm1, rs1, i1, rfl, rfl, rfl, N, hi1, .inl ⟨O1.same s12, (uI u : Nat), low + 1 + uI u, uI u, [], .of (s2 _ _ ew), y1, by omega, num, .inl ⟨rfl, fun y => by omega, fun _ H3 t1 s3 r1 => ?_⟩⟩⟩
    walk_at "rd"
    refine ⟨sz2, fun p2 hp2 => ?_⟩
    have s4 := same_upd (o := .tup [.str (md ms i2), .int 0]) hp2
    have y2 : SqT K (upd H3 p2 (.tup [.str (md ms i2), .int 0])) p2 [.str (md ms i2), .int (((uI u : Nat) : Int) - ((uI u : Nat) : Int))] := by rw [z0]; exact .of upd_same
    generalize upd H3 p2 (.tup [.str (md ms i2), .int 0]) = H4 at s4 y2
    have s14 := (s12.trans s3).trans s4
    walk_at "rd"
    refine ⟨o2, pw, p2, ms, nm, k2, calm2, rs2, i2, rfl, rfl, rfl, N, hi2, .inl ⟨O2.same s14, (uI u : Nat), low + 1 + uI u, uI u, [], .of (s4 _ _ (s3 _ _ (s2 _ _ ew))), y2, by omega, num, .inl ⟨rfl, fun y => by omega, fun _ H5 t2 s5 r2 => ?_⟩⟩⟩
    rw [show ((uI u : Nat) : Int) - ((uI u : Nat) : Int) - 1 = -1 by omega] at r1 r2
    have r1 := r1.same (s4.trans s5)
    walk_at "rd"
    refine if_f rfl ?_
    obtain ⟨u1, g1, _⟩ := id r1
    walk_at "rd"
    refine r_ixT (.of g1) (at_of (j := 1) rfl rfl) ?_
    walk_at "rd"
    refine ⟨sz3, fun p hp => ?_⟩
    have s6 := same_upd (o := .tup [.ref t1, .ref t2, .int 1]) hp
    exact q _ p t1 t2 ((s14.trans s5).trans s6) upd_same (r1.same s6) (r2.same s6)
abbrev sp_differ_at (K : PySem.W.Frag) (D : Adr) : Sp := Sp5 fun a b c d e H Q => ∃ o1 o2 mo ms nm k1 calm1 rs1 k2 calm2 rs2 i1 i2, ∃ (u : Bool) (low : Nat), a = .ref o1 ∧ b = .ref o2 ∧ c = .bl u ∧ d = .int low ∧ e = .ref mo ∧ Nms ms nm ∧ RingAt D H o1 true ms nm k1 calm1 rs1 ∧ RingAt D H o2 true ms nm k2 calm2 rs2 ∧
  i1 < k1 ∧ i2 < k2 ∧ low ≤ 2 ∧ SqT K H mo [.str (md ms i1), .str (md ms i2)] ∧ ∀ H', Same H H' → Q (.bl (cm ms calm1 i1 != cm ms calm2 i2)) H'
theorem ne_caller (b1 b2 c : Bool) (i : Int) : (!PyData.eqv (.tuple [.none, .bool b1, .int i, .bool c]) (.tuple [.none, .bool b2, .int i, .bool c])) = (b1 != b2) := by
  cases b1 <;> cases b2 <;> cases c <;> simp [PyData.eqv, PyData.eqvAll]
theorem sc_differ_at : FnScope ["one", "other", "is_under", "low", "modes", "choices"] ["one", "other", "is_under", "low", "modes"] (defScope (top 54)) := ⟨rfl, rfl, rfl, by decide +kernel, rfl, by decide +kernel, by decide +kernel⟩
theorem ok_differ_at (F : Df K mg "differ_at" 54) (cwindow : Cal P w K mg base 1 "window" (sp_window K D)) (cshown : Cal P w K mg base 6 "shown" (sp_shown K D)) : Cal P w K mg base 7 "differ_at" (sp_differ_at K D) := by
  have sc := sc_differ_at
  refine mk_cal F sc len5 (fun _ _ _ _ _ _ us hl => match us, hl with | [_, _, _, _, _], _ => rfl) (fun f cdv A outer s H vs Q E hr h => ?_)
  obtain ⟨a0, a1, a2, a3, a4, rfl, h⟩ := h
  refine ⟨_, (pss_cons (ps_set (i := 5) sc.nd rfl (.inl rfl) (pe_c cwindow hr (by decide) rfl (pa_cons (pv 2) (pa_cons (pv 3) pa_nil))))
  (pss_one (ps_ret (pe_cmpR (op_neD hr.units) (pe_c cshown hr (by decide) rfl (pa_cons (pv 0) (pa_cons (pv 5) (pa_cons (pe_tup (pa_cons (pe_ix ix_tup (pv 4) pe_int (fun _ _ => rfl)) (pa_cons pe_int (pa_cons pe_non pa_nil)))) pa_nil)))) (pe_c cshown hr (by decide) rfl (pa_cons (pv 1) (pa_cons (pv 5) (pa_cons (pe_tup (pa_cons (pe_ix ix_tup (pv 4) pe_int (fun _ _ => rfl)) (pa_cons pe_int (pa_cons pe_non pa_nil)))) pa_nil)))) (nomark _))))), ?_⟩
  obtain ⟨o1, o2, mo, ms, nm, k1, calm1, rs1, k2, calm2, rs2, i1, i2, u, low, rfl, rfl, rfl, rfl, rfl, N, O1, O2, hi1, hi2, hlow, hmo, q⟩ := h
  walk_at "rd"
  refine ⟨u, low, rfl, rfl, hlow, fun H1 pw s1 ew => ?_⟩
  have num : low + 1 + uI u ≤ 1000 := by cases u <;> simp [uI] <;> omega
  have z0 : ((uI u : Nat) : Int) - ((uI u : Nat) : Int) = 0 := uI0 u
  walk_at "rd"
  refine r_ixT (same_seqT s1 hmo) (at_of (j := 0) rfl rfl) ?_
  walk_at "rd"
  refine ⟨sz3, fun p1 hp1 => ?_⟩
  have s2 := same_upd (o := .tup [.str (md ms i1), .int 0, .non]) hp1
  have y1 : SqT K (upd H1 p1 (.tup [.str (md ms i1), .int 0, .non])) p1 [.str (md ms i1), .int (((uI u : Nat) : Int) - ((uI u : Nat) : Int)), .non] := by rw [z0]; exact .of upd_same
  generalize upd H1 p1 (.tup [.str (md ms i1), .int 0, .non]) = H2 at s2 y1
  have s12 := s1.trans s2
  walk_at "rd"
  refine ⟨o1, pw, p1, ms, nm, k1, calm1, rs1, i1, .non, rfl, rfl, rfl, N, hi1, .inl ⟨O1.same s12, (uI u : Nat), low + 1 + uI u, uI u, .of (s2 _ _ ew), y1, by omega, num, fun H3 t1 s3 e1 => ?_⟩⟩
  have s13 := s12.trans s3
  walk_at "rd"
  refine r_ixT (same_seqT s13 hmo) (at_of (j := 1) rfl rfl) ?_
  walk_at "rd"
  refine ⟨sz3, fun p2 hp2 => ?_⟩
  have s4 := same_upd (o := .tup [.str (md ms i2), .int 0, .non]) hp2
  have y2 : SqT K (upd H3 p2 (.tup [.str (md ms i2), .int 0, .non])) p2 [.str (md ms i2), .int (((uI u : Nat) : Int) - ((uI u : Nat) : Int)), .non] := by rw [z0]; exact .of upd_same
  generalize upd H3 p2 (.tup [.str (md ms i2), .int 0, .non]) = H4 at s4 y2
  have s14 := s13.trans s4
  walk_at "rd"
  refine ⟨o2, pw, p2, ms, nm, k2, calm2, rs2, i2, .non, rfl, rfl, rfl, N, hi2, .inl ⟨O2.same s14, (uI u : Nat), low + 1 + uI u, uI u, .of (s4 _ _ (s3 _ _ (s2 _ _ ew))), y2, by omega, num, fun H5 t2 s5 e2 => ?_⟩⟩
  refine ⟨.tuple [.none, .bool _, .int _, .bool _], .tuple [.none, .bool _, .int _, .bool _], .tup (.of (s5 _ _ (s4 _ _ e1))) (.cons .non (.cons (.bl _) (.cons (.int _) (.cons (.bl _) .nil)))), .tup (.of e2) (.cons .non (.cons (.bl _) (.cons (.int _) (.cons (.bl _) .nil)))), rfl, rfl, ?_⟩
  rw [ne_caller]
  exact q _ (s14.trans s5)
theorem ok_good {z : Str} (g : Good z) : PyData.canLay0 (.str z) = true := by
  show PyData.strOk z = true
  unfold PyData.strOk
  rw [← Array.all_toList]
  exact List.all_eq_true.mpr fun c hc => decide_eq_true (by have := g.let_ c hc; omega)
theorem sh_said {z : Str} (g : Good z) (x : Int) : SeqAt.shaped (.tuple [.str z, .int x]) = true := by
  unfold SeqAt.shaped
  have h := ok_good g
  rw [show PyData.canLay0 (.tuple [.str z, .int x]) = (PyData.canLay0 (.str z) && true) from rfl, h]
  rfl
theorem dec_bl (a b : Bool) : (!decide (V.bl a = V.bl b)) = (a != b) := by
  cases a <;> cases b <;> rfl
abbrev sp_are_unlike (K : PySem.W.Frag) (D : Adr) : Sp := Sp4 fun a b c d H Q => ∃ o1 o2 ms nm k1 calm1 rs1 k2 calm2 rs2, a = .ref o1 ∧ b = .ref o2 ∧ Nms ms nm ∧ RingAt D H o1 true ms nm k1 calm1 rs1 ∧ RingAt D H o2 true ms nm k2 calm2 rs2 ∧
  ((c = .non ∧ d = .non ∧ ∀ H', Same H H' → Q (.bl false) H') ∨
   ∃ t1 t2 i1 i2, ∃ x : Int, c = .ref t1 ∧ d = .ref t2 ∧ CalRes H t1 (md ms i1) x nm ∧ CalRes H t2 (md ms i2) x nm ∧ ∀ H', Same H H' → Q (.bl (cm ms calm1 i1 != cm ms calm2 i2)) H')
theorem sc_are_unlike : FnScope ["one", "other", "left", "right"] ["one", "other", "left", "right"] (defScope (top 55)) := ⟨rfl, rfl, rfl, by decide +kernel, rfl, by decide +kernel, by decide +kernel⟩
theorem ok_are_unlike (F : Df K mg "are_unlike" 55) (O : RoleC P w K mg base D.co) : Cal P w K mg base 3 "are_unlike" (sp_are_unlike K D) := by
  have sc := sc_are_unlike
  refine mk_cal F sc len4 (fun _ _ _ _ _ _ us hl => match us, hl with | [_, _, _, _], _ => rfl) (fun f cdv A outer s H vs Q E hr h => ?_)
  obtain ⟨a0, a1, a2, a3, rfl, h⟩ := h
  refine ⟨_, (pss_cons (ps_if (PW.pt (pw_or (pt_cmpR op_is0 (pv 2) pe_non (nomark _)) (pw_or1 (pt_cmpR op_is0 (pv 3) pe_non (nomark _))))) (pss_one (ps_ret (pe_or (pe_cmpR op_is1 (pv 2) pe_non (nomark _)) (pe_one (pe_cmpR op_is1 (pv 3) pe_non (nomark _)))))) pss_nil)
  (pss_cons (ps_if (PW.pt (pw_or (pt_cmpR (op_neD hr.units) (pe_ix ix_tup (pv 2) pe_int (fun _ _ => rfl)) (pe_ix ix_tup (pv 3) pe_int (fun _ _ => rfl)) (nomark _)) (pw_or1 (pt_cmpR (op_neD hr.units) (pe_ix ix_tup (pv 2) pe_int (fun _ _ => rfl)) (pe_ix ix_tup (pv 3) pe_int (fun _ _ => rfl)) (nomark _))))) (pss_one (ps_ret pe_bl)) pss_nil)
  (pss_one (ps_ret (pe_cmpR op_ne (pe_cmpR op_in_seq (pe_ix ix_tup (pv 2) pe_int (fun _ _ => rfl)) (pe_settled O (hr.mono (by decide)) (pv 0)) rfl) (pe_cmpR op_in_seq (pe_ix ix_tup (pv 3) pe_int (fun _ _ => rfl)) (pe_settled O (hr.mono (by decide)) (pv 1)) rfl) (nomark _)))))), ?_⟩
  obtain ⟨o1, o2, ms, nm, k1, calm1, rs1, k2, calm2, rs2, rfl, rfl, N, O1, O2, ⟨rfl, rfl, q⟩ | ⟨t1, t2, i1, i2, x, rfl, rfl, ⟨u1, g1, g2⟩, ⟨u2, g3, g4⟩, q⟩⟩ := h
  · walk_at "rd"
    refine if_t rfl (if_t rfl ?_)
    walk_at "rd"
    refine if_f rfl ?_
    walk_at "rd"
    exact q _ (Same.refl _)
  · walk_at "rd"
    refine if_f rfl ?_
    walk_at "rd"
    refine if_f rfl ?_
    walk_at "rd"
    refine r_ixT (.of g1) (at_of (j := 1) rfl rfl) ?_
    walk_at "rd"
    refine r_ixT (.of g3) (at_of (j := 1) rfl rfl) ?_
    refine ⟨.int x, .int x, .int _, .int _, rfl, rfl, ?_⟩
    walk_at "rd"
    refine if_f (by simp [PyData.eqv]) ?_
    walk_at "rd"
    refine r_ixT (.of g1) (at_of (j := 2) rfl rfl) ?_
    walk_at "rd"
    refine r_ixT (.of g3) (at_of (j := 2) rfl rfl) ?_
    refine ⟨.tuple [.str nm, .int x], .tuple [.str nm, .int x], .tup (.of g2) (.cons (.str _) (.cons (.int _) .nil)), .tup (.of g4) (.cons (.str _) (.cons (.int _) .nil)), sh_said N.gn x, sh_said N.gn x, ?_⟩
    walk_at "rd"
    refine if_f (by simp [PyData.eqv, PyData.eqvAll]) ?_
    walk_at "rd"
    refine r_ixT (.of g1) (at_of (j := 0) rfl rfl) ?_
    walk_at "rd"
    refine r_settled O1.role (by have := O1.few; omega) fun p hp => ?_
    have s1 := same_upd (o := .lst (calm1.map V.str)) hp
    refine r_inS (.inl (.of upd_same)) ?_
    walk_at "rd"
    refine r_ixT (.of (s1 _ _ g3)) (at_of (j := 0) rfl rfl) ?_
    walk_at "rd"
    refine r_settled (O2.role.same s1) (by have := O2.few; omega) fun p2 hp2 => ?_
    have s2 := same_upd' (o := .lst (calm2.map V.str)) s1 hp2
    refine r_inS (.inl (.of upd_same)) ?_
    walk_at "rd"
    rw [dec_bl]
    exact q _ s2
def stepV (n j : Nat) : Int := if j < n then 1 else 0
theorem steps_sum (n : Nat) : ((List.range (n + 1)).map (stepV n)).sum = n := by
  have h : ∀ m, m ≤ n → ((List.range m).map (stepV n)).sum = m := by
    intro m
    induction m with
    | zero => intro _; rfl
    | succ m ih =>
      intro hm
      rw [List.range_succ, List.map_append, List.sum_append, ih (by omega)]
      show (m : Int) + (stepV n m + 0) = _
      unfold stepV
      rw [if_pos (by omega)]
      omega
  rw [List.range_succ, List.map_append, List.sum_append, h n (Nat.le_refl _)]
  show (n : Int) + (stepV n n + 0) = _
  unfold stepV
  rw [if_neg (by omega)]
  omega
def StepAt (H : Hp) (n j : Nat) (v : V) : Prop := ∃ t, v = .ref t ∧ H t = some (.tup [.str "timeout", .int 0, .int (stepV n j)])
theorem StepAt.same {H H' : Hp} {n j : Nat} {v : V} (s : Same H H') (h : StepAt H n j v) : StepAt H' n j v := let ⟨t, e, h⟩ := h; ⟨t, e, s _ _ h⟩
abbrev sp_told_by (K : PySem.W.Frag) (D : Adr) : Sp := Sp2 fun a b H Q => ∃ l vs n, a = .ref l ∧ b = .int 1 ∧ H l = some (.lst vs) ∧ vs.length = n + 1 ∧ n ≤ 50 ∧ (∀ j v, vs[j]? = some v → StepAt H n j v) ∧
  ∀ H' p c t, Same H H' → H' p = some (.tup [.ref c, .ref t]) → H' c = some (.lst ((desc ((n + 2 : Nat) : Int) (n + 2)).map V.int)) → H' t = some (.lst (List.replicate (n + 1) (.str "timeout"))) → Q (.ref p) H'
theorem sc_told_by : FnScope ["path", "low", "many", "offered", "stimuli", "name", "place", "fall", "at", "step"] ["path", "low"] (defScope (top 51)) := ⟨rfl, rfl, rfl, by decide +kernel, rfl, by decide +kernel, by decide +kernel⟩
theorem ok_told_by (F : Df K mg "told_by" 51) (B : Bl mg) (T : Txt mg D) : Cal P w K mg base 1 "told_by" (sp_told_by K D) := by
  have sc := sc_told_by
  refine mk_cal F sc len2 (fun _ _ _ _ _ _ us hl => match us, hl with | [_, _], _ => rfl) (fun f cdv A outer s H vs Q E hr h => ?_)
  obtain ⟨a0, a1, rfl, h⟩ := h
  refine ⟨_, (pss_cons (ps_set (i := 2) sc.nd rfl (.inr rfl) (pe_op op_add (pe_op op_add pe_int (pv 1)) (pe_callB (cr_sum rfl) rfl B.sum_ (by decide +kernel) (pa_cons (pe_lc (own := [("step", 9)]) (g := gName 9) (tt := tYes) rfl sc.nd (pi_list (pv 0)) (blkOk_by (own := [("step", 9)]) (N := ["path", "low", "many", "offered", "stimuli", "name", "place", "fall", "at", "step"]) (sc := defScope (top 51)) (by decide +kernel)) (fun _ _ _ _ _ => pg_name (i := 9) sc.nd rfl (Or.inl rfl)) (fun _ _ _ _ _ => pts_nil) (fun _ _ _ _ _ => (pe_ix (show IxR _ (rIxT K) from ix_tup) (pv 9) pe_int (fun _ _ => rfl)))) pa_nil))))
  (pss_cons (ps_set (i := 3) sc.nd rfl (.inl rfl) (pv 2))
  (pss_cons (ps_set (i := 4) sc.nd rfl (.inl rfl) (pe_lst pa_nil))
  (pss_cons (ps_for PassesOwn.never rfl (pi_list (pv 0)) (pg_tup rfl (pgs_cons (pg_name (i := 5) sc.nd rfl (.inl rfl)) (pgs_cons (pg_name (i := 6) sc.nd rfl (.inl rfl)) (pgs_cons (pg_name (i := 7) sc.nd rfl (.inl rfl)) pgs_nil)))) (pss_cons (ps_if (pt_cmpR op_eq (pv 5) (pe_gc rfl T.TIMEOUT) (nomark _)) (pss_one (ps_expr (pe_bm PySem.F.plainAttrs_list PySem.F.slot_list_append PySem.F.type_list_append mt_append (pv 4) (pa_cons (pe_gc rfl T.TIMEOUT) pa_nil)))) (pss_one (ps_expr (pe_bm PySem.F.plainAttrs_list PySem.F.slot_list_append PySem.F.type_list_append mt_append (pv 4) (pa_cons (pe_tup (pa_cons (pv 5) (pa_cons (pe_op op_add (pv 3) (pv 6)) pa_nil))) pa_nil)))))
  (pss_one (ps_aug (i := 3) sc.nd rfl (.inl rfl) (pv 7) ip_sub))))
  (pss_one (ps_ret (pe_tup (pa_cons (pe_lc (own := [("at", 8)]) (g := gName 8) (tt := tYes) rfl sc.nd (pi_range1 rfl B.range_ (pa_cons (pv 2) pa_nil)) (blkOk_by (own := [("at", 8)]) (N := ["path", "low", "many", "offered", "stimuli", "name", "place", "fall", "at", "step"]) (sc := defScope (top 51)) (by decide +kernel)) (fun _ _ _ _ _ => pg_name (i := 8) sc.nd rfl (Or.inl rfl)) (fun _ _ _ _ _ => pts_nil) (fun _ _ _ _ _ => (pe_op op_sub (pv 2) (pv 8)))) (pa_cons (pv 4) pa_nil))))))))), ?_⟩
  obtain ⟨l, vs, n, rfl, rfl, hl, hn, n50, hv, q⟩ := h
  walk_at "rd"
  refine ⟨l, rfl, ⟨_, .of hl⟩, fun pl hpl => ?_⟩
  refine lc_list (xs := vs) (fun i H' => Same H H' ∧ H' pl = some (.lst (((List.range i).map (stepV n)).map V.int))) ⟨same_upd hpl, upd_same⟩ (fun _ _ _ h => .of (h.1 _ _ hl)) ?_ ?_
  · rintro i x H1 hx ⟨s1, e1⟩
    obtain ⟨t, rfl, ht⟩ := (hv i x hx).same s1
    have hi : i < n + 1 := by rw [← hn]; exact (List.getElem?_eq_some_iff.mp hx).1
    walk_at "rd"
    refine ⟨rfl, ?_⟩
    walk_at "rd"
    refine if_t rfl ?_
    walk_at "rd"
    refine r_ixT (.of ht) (at_of (j := 2) rfl rfl) ?_
    refine ⟨_, e1, small1000 (by rw [List.length_map, List.length_map, List.length_range]; omega), same_set s1 hpl, ?_⟩
    rw [upd_same, List.range_succ, List.map_append, List.map_append]
    rfl
  · rintro H1 ⟨s1, e1⟩
    rw [hn] at e1
    walk_at "rd"
    refine ⟨pl, _, rfl, .of e1, ?_⟩
    rw [steps_sum]
    walk_at "rd"
    refine ⟨sz0, fun pf hpf => ?_⟩
    have hpfH : H pf = none := none_of s1 hpf
    walk_at "rd"
    refine ⟨l, rfl, ⟨_, .of (same_upd hpf _ _ (s1 _ _ hl))⟩, ?_⟩
    refine for_list (xs := vs) (fun i σ H' => Same H H' ∧ H' pf = some (.lst (List.replicate i (.str "timeout"))) ∧ ∃ v3 v5 v6 v7, σ = [some (.ref l), some (.int 1), some (.int (1 + 1 + (n : Nat))), some (.int v3), some (.ref pf), v5, v6, v7, none, none]) ⟨same_upd' s1 hpf, upd_same, _, none, none, none, rfl⟩ (fun _ _ _ _ h => .of (h.1 _ _ hl)) ?_ ?_
    · rintro i x σ H2 hx ⟨s2, e2, v3, v5, v6, v7, rfl⟩
      obtain ⟨t, rfl, ht⟩ := (hv i x hx).same s2
      have hi : i < n + 1 := by rw [← hn]; exact (List.getElem?_eq_some_iff.mp hx).1
      refine r_gtup (.of ht) rfl ?_
      walk_at "rd"
      refine if_t (decide_eq_true rfl) ?_
      walk_at "rd"
      refine ⟨ty_list (.of e2), ?_⟩
      walk_at "rd"
      refine r_append e2 (small1000 (by rw [List.length_replicate]; omega)) ?_
      walk_at "rd"
      refine ⟨_, _, rfl, rfl, same_set s2 hpfH, ?_, _, _, _, _, rfl⟩
      rw [upd_same, List.replicate_succ']
    · rintro σ H2 ⟨s2, e2, v3, v5, v6, v7, rfl⟩
      rw [hn] at e2
      walk_at "rd"
      refine ⟨_, rfl, by omega, by omega, fun pc hpc => ?_⟩
      have hpcH : H pc = none := none_of s2 hpc
      have npc : pf ≠ pc := ne_of_none e2 hpc
      have em : (1 + 1 + (n : Int)).toNat = n + 2 := by omega
      rw [em]
      refine lc_range (fun i H' => Same H H' ∧ H' pf = some (.lst (List.replicate (n + 1) (.str "timeout"))) ∧ H' pc = some (.lst ((desc ((n + 2 : Nat) : Int) i).map V.int))) ⟨same_upd' s2 hpc, by rw [upd_ne npc]; exact e2, upd_same⟩ ?_ ?_
      · rintro i H3 hi ⟨s3, e3, e4⟩
        walk_at "rd"
        refine ⟨rfl, ?_⟩
        walk_at "rd"
        refine if_t rfl ?_
        walk_at "rd"
        refine ⟨_, e4, small1000 (by rw [List.length_map, desc_len]; omega), same_set s3 hpcH, by rw [upd_ne npc]; exact e3, ?_⟩
        rw [upd_same]
        unfold desc
        rw [List.range_succ, List.map_append, List.map_append]
        congr 4
        show V.int (1 + 1 + (n : Int) - (0 + (i : Int))) = V.int (((n + 2 : Nat) : Int) - (i : Int))
        congr 1
        omega
      · rintro H3 ⟨s3, e3, e4⟩
        walk_at "rd"
        refine ⟨sz2, fun p hp => ?_⟩
        have s4 := same_upd (o := .tup [.ref pc, .ref pf]) hp
        exact q _ p pc pf (s3.trans s4) upd_same (s4 _ _ e4) (s4 _ _ e3)
end
end K67
-- deps: Callers
namespace K67
open PySem PySem.Spec PyProof.Rows L2
section
variable {P : Program} {w : World} {K : PySem.W.Frag} {mg : Str → Option Value} {base : Heap} {D : Adr}
/-- the same for callers: the first state stands apart -/
structure GoingC (k1 k2 : Nat) (c1 c2 : Nat → Bool) (L : Nat) : Prop where
  lo : 1 ≤ L
  hi : L ≤ 50
  eq : ∀ j, j < L → c1 (j % k1) = c2 (j % k2)
  new : ∀ a b, 1 ≤ b → b < a → a < L → ¬ (b % k1 = a % k1 ∧ b % k2 = a % k2)
def stC (ms : List Str) (k1 k2 x : Nat) : List V := [.str (md ms (x / 3 % k1)), .str (md ms (x / 3 % k2)), .bl (decide (1 ≤ x / 3)), .int ((x % 3 : Nat) : Int)]
def keyC (ms : List Str) (k1 k2 x : Nat) : List Leaf := [.text (md ms (x / 3 % k1)), .text (md ms (x / 3 % k2)), .num (if decide (1 ≤ x / 3) = true then 1 else 0), .num ((x % 3 : Nat) : Int)]
theorem pairC (ms : List Str) (k1 k2 x : Nat) : Paired LfRel (stC ms k1 k2 x) (keyC ms k1 k2 x) := .cons rfl (.cons rfl (.cons rfl (.cons rfl .nil)))
theorem keyC_inj {ms : List Str} {nm : Str} (N : Nms ms nm) {k1 k2 i j : Nat} (a1 : 1 ≤ k1) (a2 : k1 ≤ 6) (b1 : 1 ≤ k2) (b2 : k2 ≤ 6) (e : keyC ms k1 k2 i = keyC ms k1 k2 j) : i / 3 % k1 = j / 3 % k1 ∧ i / 3 % k2 = j / 3 % k2 ∧ (1 ≤ i / 3 ↔ 1 ≤ j / 3) ∧ i % 3 = j % 3 := by
  have l1 : ∀ x, x % k1 < 6 := fun x => Nat.lt_of_lt_of_le (Nat.mod_lt _ a1) a2
  have l2 : ∀ x, x % k2 < 6 := fun x => Nat.lt_of_lt_of_le (Nat.mod_lt _ b1) b2
  unfold keyC at e
  injection e with e1 e2
  injection e2 with e2 e3
  injection e3 with e3 e4
  injection e4 with e4 _
  refine ⟨N.inj (l1 _) (l1 _) (Leaf.text.inj e1), N.inj (l2 _) (l2 _) (Leaf.text.inj e2), ?_, by have := Leaf.num.inj e4; omega⟩
  have e3 := Leaf.num.inj e3
  by_cases h1 : 1 ≤ i / 3
  · by_cases h2 : 1 ≤ j / 3
    · exact ⟨fun _ => h2, fun _ => h1⟩
    · rw [if_pos (decide_eq_true h1), if_neg (by rw [decide_eq_false h2]; exact Bool.false_ne_true)] at e3
      exact absurd e3 (by decide)
  · by_cases h2 : 1 ≤ j / 3
    · rw [if_pos (decide_eq_true h2), if_neg (by rw [decide_eq_false h1]; exact Bool.false_ne_true)] at e3
      exact absurd e3 (by decide)
    · exact ⟨fun z => absurd z h1, fun z => absurd z h2⟩
def POc (H : Hp) (x : Nat) (vs : List V) : Prop := vs.length = x / 3 ∧ ∀ v ∈ vs, ∃ t, v = V.ref t ∧ H t = some (.tup [.str "timeout", .int 0, .int 1])
theorem POc_keep {po : Addr} {H H' : Hp} {j : Nat} {vs : List V} (k : Keep po H H') (h : POc H j vs) : POc H' j vs := ⟨h.1, fun v hv => let ⟨t, e, g⟩ := h.2 v hv; ⟨t, e, k.tup _ _ g⟩⟩
theorem ite_self_add {c : Prop} [Decidable c] (n : Nat) : (if c then n + 0 else n) = n := by split <;> rfl
def nA (L a : Nat) : Nat := min (3 * L) (3 * (a / 3) + 3 + (if a % 3 = 2 then 1 else 0))
theorem nA_next {L a : Nat} (hl : 1 ≤ a % 3) (hlt : a < 3 * L) : nA L (a + 1) = (if a / 3 + 1 < L then nA L a + a % 3 else nA L a) := by
  unfold nA
  by_cases h1 : a % 3 = 2
  · rw [if_pos h1, if_neg (show ¬ (a + 1) % 3 = 2 by omega)]
    split <;> omega
  · rw [if_neg h1, if_pos (show (a + 1) % 3 = 2 by omega)]
    split <;> omega
theorem if_both {c : Bool} {A B : Prop} (a : A) (h : A → B) : if c = true then A else B := by
  cases c
  · exact h a
  · exact a
theorem r_slice {r : V → Option Int → Option Int → Hp → VK → Prop} {te : TE} {tl th : TO} {σ : L2.St} {H : Hp} {Q : VK} (q : te σ H fun x H1 => tl σ H1 fun l H2 => th σ H2 fun u H3 => r x l u H3 Q) : tSl r te tl th σ H Q := q
theorem r_slT {a : Addr} {xs : List V} {lo hi : Option Int} {H : Hp} {Q : VK} (h : SqT K H a xs) (n : ¬ (HT.sIx xs.length 0 lo = 0 ∧ HT.sIx xs.length xs.length hi = xs.length)) (q : ∀ p, H p = none → Q (.ref p) (upd H p (.tup (cutV xs lo hi)))) : rSlT K (.ref a) lo hi H Q := ⟨a, xs, rfl, h, n, q⟩
theorem r_lfc {wi : TI} {g : TG} {tk tv : TE} {vs : List Nat} {σ : L2.St} {H : Hp} {Q : VK} (q : wi σ H fun J H1 => ∀ D, H1 D = none → ∃ W : Nat → Nat → Hp → Prop, (∃ m, W 0 m (upd H1 D (lfO P w D []))) ∧ ∀ i m H, W i m H →
  (J.stop i H ∧ Q (.ref D) H) ∨ (J.go i H ∧ ∃ Nx : Hp → Prop, (∀ H', Nx H' → ∃ m', m' < m ∧ W (i + 1) m' H') ∧ ∀ x H', J.yld i H x H' → g x (wipe σ vs) H' fun σ2 H2 => wipe σ2 vs = wipe σ vs ∧
    tk σ2 H2 fun y H4 => tv σ2 H4 fun z H5 => ∃ b ks es, y = .ref b ∧ KeyAt H5 b ks ∧ LfAt P w H5 D es ∧ ks ∉ es.map (·.1) ∧ es.length < 1000 ∧ Nx (upd H5 D (lfO P w D (es ++ [(ks, b, z)]))))) : tLfC P w wi g tk tv vs σ H Q := q
abbrev sp_part_callers (K : PySem.W.Frag) (D : Adr) : Sp := Sp2 fun a b H Q => ∃ o1 o2 ms nm k1 calm1 rs1 k2 calm2 rs2 L, a = .ref o1 ∧ b = .ref o2 ∧ Nms ms nm ∧ RingAt D H o1 true ms nm k1 calm1 rs1 ∧ RingAt D H o2 true ms nm k2 calm2 rs2 ∧
  GoingC k1 k2 (cm ms calm1) (cm ms calm2) L ∧
  ((cm ms calm1 (L % k1) ≠ cm ms calm2 (L % k2) ∧ ∀ H' p c t, Same H H' → H' p = some (.tup [.ref c, .ref t]) → H' c = some (.lst ((desc ((L + 1 : Nat) : Int) (L + 1)).map V.int)) → H' t = some (.lst (List.replicate L (.str "timeout"))) → Q (.ref p) H') ∨
   (cm ms calm1 (L % k1) = cm ms calm2 (L % k2) ∧ (∃ b, 1 ≤ b ∧ b < L ∧ b % k1 = L % k1 ∧ b % k2 = L % k2) ∧ ∀ H', Same H H' → Q .non H'))
theorem sc_part_callers : FnScope ["one", "other", "names", "low", "order", "state", "paths", "at", "stimulus", "left", "right", "fall", "path", "following"] ["one", "other"] (defScope (top 56)) := ⟨rfl, rfl, rfl, by decide +kernel, rfl, by decide +kernel, by decide +kernel⟩
theorem ok_part_callers (F : Df K mg "part_callers" 56) (B : Bl mg) (O : RoleC P w K mg base D.co) (cnames_of : Cal P w K mg base 3 "names_of" (sp_names_of K D)) (cdiffer_at : Cal P w K mg base 7 "differ_at" (sp_differ_at K D)) (ctold_by : Cal P w K mg base 1 "told_by" (sp_told_by K D)) (ccaller_stimuli : Cal P w K mg base 2 "caller_stimuli" (sp_caller_stimuli K D)) (cstep_callers : Cal P w K mg base 6 "step_callers" (sp_step_callers K D)) (care_unlike : Cal P w K mg base 3 "are_unlike" (sp_are_unlike K D)) (cstep_of : Cal P w K mg base 1 "step_of" (sp_step_of K D)) (clows_after : Cal P w K mg base 1 "lows_after" (sp_lows_after K D)) : Cal P w K mg base 8 "part_callers" (sp_part_callers K D) := by
  have sc := sc_part_callers
  refine mk_cal F sc len2 (fun _ _ _ _ _ _ us hl => match us, hl with | [_, _], _ => rfl) (fun f cdv A outer s H vs Q E hr h => ?_)
  obtain ⟨a0, a1, rfl, h⟩ := h
  refine ⟨_, (pss_cons (ps_set (i := 2) sc.nd rfl (.inl rfl) (pe_c cnames_of hr (by decide) rfl (pa_cons (pv 0) (pa_cons (pv 1) pa_nil))))
  (pss_cons (ps_setLc (i := 4) (own := [("low", 3)]) (g := gName 3) (tt := tYes) rfl sc.nd rfl rfl (sw_true rfl rfl rfl (by decide +kernel)) (pi_range1 rfl B.range_ (pa_cons pe_int pa_nil)) (blkOk_by (own := [("low", 3)]) (N := ["one", "other", "names", "low", "order", "state", "paths", "at", "stimulus", "left", "right", "fall", "path", "following"]) (sc := defScope (top 56)) (by decide +kernel)) (fun _ _ _ _ _ => pg_name (i := 3) sc.nd rfl (Or.inl rfl)) (fun _ _ _ _ _ => pts_nil) (fun _ _ _ _ _ => (pe_tup (pa_cons (pe_first O (hr.mono (by decide)) (pv 0)) (pa_cons (pe_first O (hr.mono (by decide)) (pv 1)) (pa_cons pe_bl (pa_cons (pv 3) pa_nil)))))))
  (pss_cons (ps_setLfC (i := 6) (own := [("state", 5)]) (g := gName 5) rfl (hu_of hr) sc.nd rfl rfl (swd_true rfl rfl rfl (by decide +kernel)) (pi_list (pv 4)) (blkOk_by (own := [("state", 5)]) (N := ["one", "other", "names", "low", "order", "state", "paths", "at", "stimulus", "left", "right", "fall", "path", "following"]) (sc := defScope (top 56)) (by decide +kernel)) (fun _ _ _ _ _ => pg_name (i := 5) sc.nd rfl (Or.inl rfl)) (fun _ _ _ _ _ => (pv 5)) (fun _ _ _ _ _ => (pe_lst pa_nil)))
  (pss_cons (ps_for PassesOwn.never rfl (pi_list (pv 4)) (pg_name (i := 5) sc.nd rfl (.inl rfl)) (pss_one (ps_if (pt_val (pe_c cdiffer_at hr (by decide) rfl (pa_cons (pv 0) (pa_cons (pv 1) (pa_cons pe_bl (pa_cons (pe_ix ix_tup (pv 5) pe_int (fun _ _ => rfl)) (pa_cons (pe_slice sl_tup (pv 5) po_none (po_some pe_int)) pa_nil))))))) (pss_one (ps_ret (pe_c ctold_by hr (by decide) rfl (pa_cons (pe_lst pa_nil) (pa_cons (pe_ix ix_tup (pv 5) pe_int (fun _ _ => rfl)) pa_nil))))) pss_nil)))
  (pss_cons (ps_set (i := 7) sc.nd rfl (.inl rfl) pe_int)
  (pss_cons (ps_while PassesOwn.never (pt_cmpR op_lt (pv 7) (pe_callB call_lenS rfl B.len_ (by decide +kernel) (pa_cons (pv 4) pa_nil)) (nomark _)) (pss_cons (ps_set (i := 5) sc.nd rfl (.inl rfl) (pe_ix ix_list (pv 4) (pv 7) (fun _ _ => rfl)))
  (pss_cons (ps_for PassesOwn.never rfl (pi_list (pe_c ccaller_stimuli hr (by decide) rfl (pa_cons (pv 2) (pa_cons (pe_ix ix_tup (pv 5) pe_int (fun _ _ => rfl)) (pa_cons (pe_ix ix_tup (pv 5) pe_int (fun _ _ => rfl)) pa_nil))))) (pg_name (i := 8) sc.nd rfl (.inl rfl)) (pss_cons (ps_asg (pe_c cstep_callers hr (by decide) rfl (pa_cons (pv 0) (pa_cons (pv 1) (pa_cons (pv 5) (pa_cons (pv 8) pa_nil))))) (pg_tup rfl (pgs_cons (pg_name (i := 9) sc.nd rfl (.inl rfl)) (pgs_cons (pg_name (i := 10) sc.nd rfl (.inl rfl)) (pgs_cons (pg_name (i := 11) sc.nd rfl (.inl rfl)) pgs_nil)))))
  (pss_cons (ps_if (pt_val (pe_c care_unlike hr (by decide) rfl (pa_cons (pv 0) (pa_cons (pv 1) (pa_cons (pv 9) (pa_cons (pv 10) pa_nil)))))) (pss_one (ps_ret (pe_c ctold_by hr (by decide) rfl (pa_cons (pe_op op_cat (pe_leafget (hu_of hr) (pv 6) (pv 5) (fun _ _ => rfl)) (pe_lst (pa_cons (pe_c cstep_of hr (by decide) rfl (pa_cons (pv 8) (pa_cons pe_int pa_nil))) pa_nil))) (pa_cons (pe_ix ix_tup (pv 5) pe_int (fun _ _ => rfl)) pa_nil))))) pss_nil)
  (pss_cons (ps_if (pt_cmpR op_is0 (pv 9) pe_non (nomark _)) (pss_one ps_continue) pss_nil)
  (pss_cons (ps_set (i := 12) sc.nd rfl (.inl rfl) (pe_op op_cat (pe_leafget (hu_of hr) (pv 6) (pv 5) (fun _ _ => rfl)) (pe_lst (pa_cons (pe_c cstep_of hr (by decide) rfl (pa_cons (pv 8) (pa_cons (pv 11) pa_nil))) pa_nil))))
  (pss_one (ps_for PassesOwn.never rfl (pi_list (pe_c clows_after hr (by decide) rfl (pa_cons (pe_ix ix_tup (pv 5) pe_int (fun _ _ => rfl)) (pa_cons (pv 11) pa_nil)))) (pg_name (i := 3) sc.nd rfl (.inl rfl)) (pss_cons (ps_set (i := 13) sc.nd rfl (.inl rfl) (pe_tup (pa_cons (pe_ix ix_tup (pv 9) pe_int (fun _ _ => rfl)) (pa_cons (pe_ix ix_tup (pv 10) pe_int (fun _ _ => rfl)) (pa_cons (pe_or (pe_ix ix_tup (pv 5) pe_int (fun _ _ => rfl)) (pe_one (pe_cmpR op_gt (pv 11) pe_int (nomark _)))) (pa_cons (pv 3) pa_nil))))))
  (pss_cons (ps_if (pt_val (pe_c cdiffer_at hr (by decide) rfl (pa_cons (pv 0) (pa_cons (pv 1) (pa_cons (pe_ix ix_tup (pv 13) pe_int (fun _ _ => rfl)) (pa_cons (pv 3) (pa_cons (pe_slice sl_tup (pv 13) po_none (po_some pe_int)) pa_nil))))))) (pss_one (ps_ret (pe_c ctold_by hr (by decide) rfl (pa_cons (pv 12) (pa_cons (pv 3) pa_nil))))) pss_nil)
  (pss_one (ps_if (pt_cmpR (op_lfnin (hu_of hr)) (pv 13) (pv 6) rfl) (pss_cons (ps_asg (pv 12) (pg_sub (pv 6) (pv 13) (set_leaf (hu_of hr))))
  (pss_one (ps_expr (pe_bm PySem.F.plainAttrs_list PySem.F.slot_list_append PySem.F.type_list_append mt_append (pv 4) (pa_cons (pv 13) pa_nil))))) pss_nil)))))))))))
  (pss_one (ps_aug (i := 7) sc.nd rfl (.inl rfl) pe_int ip_add)))))
  (pss_one (ps_ret pe_non)))))))), ?_⟩
  dsimp only [cxOf, Cx.nox]
  obtain ⟨o1, o2, ms, nm, k1, calm1, rs1, k2, calm2, rs2, L, rfl, rfl, N, O1, O2, G, q⟩ := h
  walk_at "rd"
  refine ⟨o1, o2, true, ms, nm, k1, calm1, rs1, k2, calm2, rs2, rfl, rfl, N, O1, O2, fun H1 pn ex s1 gn n1 _ => ?_⟩
  have O1 := O1.same s1
  have O2 := O2.same s1
  have z1 : ∀ x, x % k1 < k1 := fun x => Nat.mod_lt x O1.k1
  have z2 : ∀ x, x % k2 < k2 := fun x => Nat.mod_lt x O2.k1
  walk_at "rd"
  refine ⟨_, rfl, by decide, by decide, fun po hpo => ?_⟩
  refine lc_range (fun i H' => Same H1 H' ∧ ∃ os, H' po = some (.lst os) ∧ os.length = i ∧ ∀ j < i, ∃ t, os[j]? = some (.ref t) ∧ H' t = some (.tup (stC ms k1 k2 j))) ⟨same_upd hpo, [], upd_same, rfl, fun j h => absurd h (Nat.not_lt_zero j)⟩ ?_ ?_
  · rintro i H2 hi ⟨s2, os, e1, e2, e3⟩
    have hi : i < 3 := hi
    walk_at "rd"
    refine ⟨rfl, ?_⟩
    walk_at "rd"
    refine if_t rfl ?_
    walk_at "rd"
    refine r_first (O1.role.same s2) ?_
    walk_at "rd"
    refine r_first (O2.role.same s2) ?_
    walk_at "rd"
    refine ⟨sz4, fun t ht => ?_⟩
    have s3 := same_upd (o := .tup [.str (md ms 0), .str (md ms 0), .bl false, .int (0 + (i : Nat))]) ht
    have et : (upd H2 t (.tup [.str (md ms 0), .str (md ms 0), .bl false, .int (0 + (i : Nat))])) t = some (.tup (stC ms k1 k2 i)) := by
      rw [upd_same]
      unfold stC
      rw [show i / 3 = 0 by omega, show i % 3 = i by omega, Nat.zero_mod, Nat.zero_mod, show (0 : Int) + (i : Nat) = (i : Nat) by omega]
      rfl
    generalize upd H2 t (.tup [.str (md ms 0), .str (md ms 0), .bl false, .int (0 + (i : Nat))]) = H3 at s3 et
    have e4 := s3 _ _ e1
    have keep : ∀ {b : Addr} {xs : List V} {o : HO}, H3 b = some (.tup xs) → (upd H3 po o) b = some (.tup xs) := fun {b} {xs} {o} z => by
      rw [upd_ne (ne_of z e4 fun y => by cases y)]
      exact z
    refine ⟨os, e4, small1000 (by omega), same_set (s2.trans s3) hpo, os ++ [.ref t], upd_same, by rw [List.length_append, e2]; rfl, fun j hj => ?_⟩
    by_cases e : j = i
    · subst e
      refine ⟨t, ?_, keep et⟩
      rw [List.getElem?_append_right (by omega), e2, Nat.sub_self]
      rfl
    · obtain ⟨t', g1, g2⟩ := e3 j (by omega)
      refine ⟨t', ?_, keep (s3 _ _ g2)⟩
      rw [List.getElem?_append_left (by omega)]
      exact g1
  · rintro H2 ⟨s2, os, e1, e2, e3⟩
    have e2 : os.length = 3 := e2
    have e3 : ∀ j, j < 3 → ∃ t, os[j]? = some (.ref t) ∧ H2 t = some (.tup (stC ms k1 k2 j)) := e3
    walk_at "rd"
    refine r_lfc ?_
    walk_at "rd"
    refine ⟨po, rfl, ⟨_, .of e1⟩, fun pd hpd => ?_⟩
    have nod : po ≠ pd := ne_of_none e1 hpd
    have hpd1 : H1 pd = none := none_of s2 hpd
    have lt1 : ∀ x, md ms 0 = md ms (0 / 3 % x) := fun x => by rw [Nat.zero_div, Nat.zero_mod]
    refine lfc_it (walk_list (xs := os)) (fun i H' => Same H1 H' ∧ H' po = some (.lst os) ∧ (∀ j, j < 3 → ∃ t, os[j]? = some (.ref t) ∧ H' t = some (.tup (stC ms k1 k2 j))) ∧ ∃ es, LfAt P w H' pd es ∧ es.length = i ∧ ∀ j < i, ∃ t pl, os[j]? = some (.ref t) ∧ es[j]? = some (keyC ms k1 k2 j, t, .ref pl) ∧ pl ≠ po ∧ H' pl = some (.lst [])) ?_ (fun _ _ _ h => .of h.2.1) ?_ ?_
    · have s3 := same_upd (o := lfO P w pd []) hpd
      exact ⟨s2.trans s3, s3 _ _ e1, fun j hj => let ⟨t, g1, g2⟩ := e3 j hj; ⟨t, g1, s3 _ _ g2⟩, [], ⟨upd_same, fun _ z => absurd z List.not_mem_nil⟩, rfl, fun j h => absurd h (Nat.not_lt_zero j)⟩
    · clear e1 e3 s2
      rintro i x H8 H3 hi ⟨s3, e1, e3, es, l1, l2, l3⟩ ⟨rfl, hx⟩
      rw [e2] at hi
      obtain ⟨t, g1, g2⟩ := e3 i hi
      rw [hx] at g1
      obtain rfl := Option.some.inj g1
      walk_at "rd"
      refine ⟨rfl, ?_⟩
      walk_at "rd"
      refine ⟨sz0, fun pl hpl => ?_⟩
      have s4 := same_upd (o := .lst []) hpl
      have epl : (upd H3 pl (.lst [])) pl = some (.lst []) := upd_same
      have npl : pl ≠ po := fun e => by rw [e, e1] at hpl; cases hpl
      generalize upd H3 pl (.lst []) = H4 at s4 epl
      have l4 := l1.same s4
      have kd : Keep po H4 (upd H4 pd (lfO P w pd (es ++ [(keyC ms k1 k2 i, t, .ref pl)]))) := .putD l4.1
      refine ⟨t, keyC ms k1 k2 i, es, rfl, ⟨_, s4 _ _ g2, pairC ms k1 k2 i⟩, l4, fun z => ?_, by omega, same_set (s3.trans s4) hpd1, by rw [upd_ne nod]; exact s4 _ _ e1, fun j hj => ?_, es ++ [(keyC ms k1 k2 i, t, .ref pl)], l4.put ⟨_, s4 _ _ g2, pairC ms k1 k2 i⟩, by rw [List.length_append, l2]; rfl, fun j hj => ?_⟩
      · obtain ⟨e, he, ek⟩ := List.mem_map.mp z
        obtain ⟨j, hj⟩ := List.mem_iff_getElem?.mp he
        have hj3 : j < i := by rw [← l2]; exact (List.getElem?_eq_some_iff.mp hj).1
        obtain ⟨t', pl', _, h2, _⟩ := l3 j hj3
        rw [h2] at hj
        obtain rfl := Option.some.inj hj
        have := (keyC_inj N O1.k1 O1.k6 O2.k1 O2.k6 ek).2.2.2
        omega
      · obtain ⟨t', h1, h2⟩ := e3 j hj
        exact ⟨t', h1, kd.tup _ _ (s4 _ _ h2)⟩
      · by_cases e : j = i
        · subst e
          refine ⟨t, pl, hx, ?_, npl, kd.lst _ _ npl epl⟩
          rw [List.getElem?_append_right (by omega), l2, Nat.sub_self]
          rfl
        · obtain ⟨t', pl', h1, h2, h3, h4⟩ := l3 j (by omega)
          refine ⟨t', pl', h1, ?_, h3, kd.lst _ _ h3 (s4 _ _ h4)⟩
          rw [List.getElem?_append_left (by omega)]
          exact h2
    · clear e1 e3 s2
      rintro H3 ⟨s3, e1, e3, es, l1, l2, l3⟩
      rw [e2] at l2 l3
      have S : Srch P w po pd POc (stC ms k1 k2) (keyC ms k1 k2) H3 3 os es := by
        refine ⟨e1, e2, l1, l2, fun j hj => ?_⟩
        obtain ⟨t, g1, g2⟩ := e3 j hj
        obtain ⟨t', pl, h1, h2, h3, h4⟩ := l3 j hj
        exact ⟨t, t', pl, [], g1, g2, h2, h3, h4, by show 0 = j / 3; omega, fun _ z => absurd z List.not_mem_nil⟩
      clear e1 e3 l1 l2 l3
      walk_at "rd"
      refine ⟨po, rfl, ⟨_, .of S.o⟩, ?_⟩
      refine for_list (xs := os) (fun i σ H' => Same H3 H' ∧ ∃ v5, σ = [some (.ref o1), some (.ref o2), some (.ref pn), none, some (.ref po), v5, some (.ref pd), none, none, none, none, none, none, none]) ⟨.refl _, _, rfl⟩ (fun _ _ _ _ h => .of (h.1 _ _ S.o)) ?_ ?_
      · rintro i x σ H4 hx ⟨s4, v5, rfl⟩
        have hi : i < 3 := by rw [← e2]; exact (List.getElem?_eq_some_iff.mp hx).1
        obtain ⟨t, _, _, _, g1, g2, _⟩ := S.at_ i hi
        rw [hx] at g1
        obtain rfl := Option.some.inj g1
        walk_at "rd"
        refine r_ixT (.of (s4 _ _ g2)) (at_of (j := 3) rfl rfl) ?_
        refine r_slice ?_
        walk_at "rd"
        refine ⟨2, rfl, ?_⟩
        refine r_slT (.of (s4 _ _ g2)) (fun z => absurd z.2 (show ¬ (2 : Nat) = 4 by decide)) fun pm hpm => ?_
        have em : (upd H4 pm (.tup (cutV (stC ms k1 k2 i) none (some 2)))) pm = some (.tup [.str (md ms (i / 3 % k1)), .str (md ms (i / 3 % k2))]) := upd_same
        have s5 := same_upd (o := .tup (cutV (stC ms k1 k2 i) none (some 2))) hpm
        generalize upd H4 pm (.tup (cutV (stC ms k1 k2 i) none (some 2))) = H5 at s5 em
        have s35 := (s3.trans s4).trans s5
        walk_at "rd"
        refine ⟨o1, o2, pm, ms, nm, k1, calm1, rs1, k2, calm2, rs2, _, _, false, i % 3, rfl, rfl, rfl, rfl, rfl, N, O1.same s35, O2.same s35, z1 _, z2 _, by omega, .of em, fun H6 s6 => ?_⟩
        walk_at "rd"
        refine if_f (by rw [show i / 3 = 0 by omega, G.eq 0 (by have := G.lo; omega)]; exact bne_self_eq_false' _) ?_
        exact ⟨(s4.trans s5).trans s6, _, rfl⟩
      · rintro σ H4 ⟨s4, v5, rfl⟩
        replace S := S.same POc_keep s4
        replace s3 := s3.trans s4
        clear s4 hpd H3
        walk_at "rd"
        have nA0 : nA L 0 = 3 := by
          have := G.lo
          unfold nA
          rw [if_neg (by decide)]
          omega
        refine ⟨fun m σ H' => ∃ a os es v3 v5 v8 v9 v10 v11 v12 v13, m = 3 * L - a ∧ a ≤ 3 * L ∧ Same H1 H' ∧ Srch P w po pd POc (stC ms k1 k2) (keyC ms k1 k2) H' (nA L a) os es ∧ (3 * (L - 1) + 1 < a → cm ms calm1 (L % k1) = cm ms calm2 (L % k2)) ∧
          σ = [some (.ref o1), some (.ref o2), some (.ref pn), v3, some (.ref po), v5, some (.ref pd), some (.int (a : Nat)), v8, v9, v10, v11, v12, v13], ⟨3 * L, 0, os, es, none, v5, none, none, none, none, none, none, rfl, Nat.zero_le _, s3, by rw [nA0]; exact S, fun e => absurd e (Nat.not_lt_zero _), rfl⟩, ?_⟩
        rintro m σ H2 ⟨a, os, es, v3, v5, v8, v9, v10, v11, v12, v13, rfl, ha, s2, S, hT, rfl⟩
        walk_at "rd"
        refine r_lenL (.of S.o) ?_
        walk_at "rd"
        by_cases hge : 3 * L ≤ a
        · obtain rfl : a = 3 * L := by omega
          refine if_f (decide_eq_false (by rw [S.ol]; unfold nA; omega)) ?_
          walk_at "rd"
          rcases q with ⟨n, _⟩ | ⟨_, _, q⟩
          · exact absurd (hT (by have := G.lo; omega)) n
          · exact q _ (s1.trans s2)
        have hlt : a < 3 * L := by omega
        have hna : a < nA L a := by unfold nA; omega
        refine if_t (decide_eq_true (by rw [S.ol]; omega)) ?_
        refine ⟨fun σ' H' => ∃ os es v3 v5 v8 v9 v10 v11 v12 v13, Same H1 H' ∧ Srch P w po pd POc (stC ms k1 k2) (keyC ms k1 k2) H' (nA L (a + 1)) os es ∧ (3 * (L - 1) + 1 < a + 1 → cm ms calm1 (L % k1) = cm ms calm2 (L % k2)) ∧
          σ' = [some (.ref o1), some (.ref o2), some (.ref pn), v3, some (.ref po), v5, some (.ref pd), some (.int ((a + 1 : Nat) : Int)), v8, v9, v10, v11, v12, v13], ?_, ?_⟩
        · rintro σ' H' ⟨os', es', w3, w5, w8, w9, w10, w11, w12, w13, h1, h2, h3, rfl⟩
          exact ⟨3 * L - (a + 1), by omega, a + 1, os', es', w3, w5, w8, w9, w10, w11, w12, w13, rfl, hlt, h1, h2, h3, rfl⟩
        obtain ⟨ta, ba, pla, vsa, ka1, ka2, ka3, ka4, ka5, ka6⟩ := S.at_ a hna
        walk_at "rd"
        refine r_ixL (.of S.o) (at_of (j := a) rfl ka1) ?_
        walk_at "rd"
        refine r_ixT (.of ka2) (at_of (j := 2) rfl rfl) ?_
        walk_at "rd"
        refine r_ixT (.of ka2) (at_of (j := 3) rfl rfl) ?_
        walk_at "rd"
        refine ⟨pn, ex, _, a % 3, rfl, rfl, rfl, s2 _ _ gn, by omega, fun H3 ps vs s3 gs as_ => ?_⟩
        refine ⟨ps, rfl, ⟨_, .of gs⟩, ?_⟩
        have nps : ps ≠ po := fun e => by
          have h0 := s3 _ _ S.o
          rw [← e, gs] at h0
          injection h0 with h0
          injection h0 with h0
          obtain ⟨t, _, _, _, g1, _⟩ := S.at_ 0 (by omega)
          rw [← h0] at g1
          cases g1
        have i3 : a / 3 < L := by omega
        have sub1 : (a / 3 % k1 + 1) % k1 = (a / 3 + 1) % k1 := Nat.mod_add_mod _ k1 1
        have sub2 : (a / 3 % k2 + 1) % k2 = (a / 3 + 1) % k2 := Nat.mod_add_mod _ k2 1
        replace ka2 := s3 _ _ ka2
        refine for_it (walk_list (xs := .str "timeout" :: vs)) (fun m σ H' => ∃ os es v3 v8 v9 v10 v11 v12 v13, Same H1 H' ∧ Keep po H3 H' ∧ Srch P w po pd POc (stC ms k1 k2) (keyC ms k1 k2) H' (if m = 0 then nA L a else nA L (a + 1)) os es ∧ (1 ≤ m → 3 * (L - 1) + 1 ≤ a → cm ms calm1 (L % k1) = cm ms calm2 (L % k2)) ∧
          σ = [some (.ref o1), some (.ref o2), some (.ref pn), v3, some (.ref po), some (.ref ta), some (.ref pd), some (.int (a : Nat)), v8, v9, v10, v11, v12, v13]) ⟨os, es, v3, v8, v9, v10, v11, v12, v13, s2.trans s3, .same (.refl _), S.same POc_keep s3, fun e => absurd e (by decide), rfl⟩ (fun _ _ H' _ h => by
            obtain ⟨_, _, _, _, _, _, _, _, _, _, h, _⟩ := h
            exact .of (h.lst _ _ nps gs)) ?_ ?_
        · clear S ka1 ka3 ka4 ka5 ka6 s2 s3
          rintro m x σ H8 H4 hm ⟨os, es, v3, v8, v9, v10, v11, v12, v13, s4, kp, S, hE, rfl⟩ ⟨rfl, hx⟩
          have st4 := kp.tup _ _ ka2
          have l3 : a % 3 < 3 := Nat.mod_lt _ (by decide)
          walk_at "rd"
          have hx' : (((x = .str "timeout" ∧ a % 3 = 0) ∨ ∃ ex : Str, ex ≠ "timeout" ∧ SaidAt H4 ex x) ∧ (m = 0 → a % 3 = 0)) ∨ (x = .str "timeout" ∧ m = 0 ∧ 1 ≤ a % 3) := by
            cases m with
            | zero =>
              obtain rfl : V.str "timeout" = x := Option.some.inj hx
              by_cases e : a % 3 = 0
              · exact .inl ⟨.inl ⟨rfl, e⟩, fun _ => e⟩
              · exact .inr ⟨rfl, rfl, by omega⟩
            | succ m =>
              obtain ⟨t, c, rfl, h⟩ := as_ x (List.mem_of_getElem? (show vs[m]? = some x from hx))
              exact .inl ⟨.inr ⟨ex, n1, t, c, rfl, kp.tup _ _ h⟩, fun e => absurd e (Nat.succ_ne_zero m)⟩
          rcases hx' with ⟨dead, dm⟩ | ⟨rfl, rfl, hl⟩
          · refine ⟨o1, o2, ta, ms, nm, k1, calm1, rs1, k2, calm2, rs2, _, _, _, a % 3, rfl, rfl, rfl, N, O1.same s4, O2.same s4, z1 (a / 3), z2 (a / 3), by omega, .of st4, .inl ⟨dead, fun H5 p s5 ep => ?_⟩⟩
            refine r_gtup (.of ep) rfl ?_
            walk_at "rd"
            have s45 := s4.trans s5
            refine ⟨o1, o2, ms, nm, k1, calm1, rs1, k2, calm2, rs2, rfl, rfl, N, O1.same s45, O2.same s45, .inl ⟨rfl, rfl, fun H6 s6 => ?_⟩⟩
            walk_at "rd"
            refine if_f rfl ?_
            walk_at "rd"
            refine if_t rfl ?_
            walk_at "rd"
            refine ⟨os, es, v3, _, _, _, _, v12, v13, s45.trans s6, kp.trans (.same (s5.trans s6)), ?_, fun _ h => ?_, rfl⟩
            · have S' := S.same POc_keep (s5.trans s6)
              rw [if_neg (Nat.succ_ne_zero m)]
              by_cases e : m = 0
              · rw [if_pos e] at S'
                have e3 := dm e
                rw [show nA L (a + 1) = nA L a by unfold nA; rw [if_neg (by omega), if_neg (by omega)]; omega]
                exact S'
              · rw [if_neg e] at S'
                exact S'
            · by_cases e : m = 0
              · have := dm e
                omega
              · exact hE (by omega) h
          · rw [if_pos rfl] at S
            obtain ⟨tb, ba, pla, vsa, ka1, ka2, ka3, ka4, ka5, ka6⟩ := S.at_ a hna
            refine ⟨o1, o2, ta, ms, nm, k1, calm1, rs1, k2, calm2, rs2, _, _, _, a % 3, rfl, rfl, rfl, N, O1.same s4, O2.same s4, z1 (a / 3), z2 (a / 3), by omega, .of st4, .inr ⟨rfl, hl, fun H5 p t1 t2 s5 ep r1 r2 => ?_⟩⟩
            rw [sub1] at r1
            rw [sub2] at r2
            refine r_gtup (.of ep) rfl ?_
            walk_at "rd"
            have s45 := s4.trans s5
            refine ⟨o1, o2, ms, nm, k1, calm1, rs1, k2, calm2, rs2, rfl, rfl, N, O1.same s45, O2.same s45, .inr ⟨t1, t2, _, _, _, rfl, rfl, r1, r2, fun H6 s6 => ?_⟩⟩
            have s56 := s5.trans s6
            have s46 := s4.trans s56
            have st6 := s56 _ _ st4
            have S6 := S.same POc_keep s56
            have kb6 : KeyAt H6 ta (keyC ms k1 k2 a) := ⟨_, st6, pairC ms k1 k2 a⟩
            walk_at "rd"
            by_cases hd : cm ms calm1 ((a / 3 + 1) % k1) = cm ms calm2 ((a / 3 + 1) % k2)
            · refine if_f (by rw [hd]; exact bne_self_eq_false' _) ?_
              walk_at "rd"
              refine if_f rfl ?_
              walk_at "rd"
              refine r_lfget ?_
              walk_at "rd"
              refine ⟨pd, ta, _, es, a, ba, .ref pla, rfl, rfl, kb6, S6.d, ka3, ?_⟩
              walk_at "rd"
              refine ⟨rfl, fun H7 pz s7 ez => ?_⟩
              walk_at "rd"
              refine ⟨sz1, fun p3 hp3 => ?_⟩
              refine r_cat (same_upd hp3 _ _ (s7 _ _ (s56 _ _ ka5))) upd_same (szK (by rw [ka6.1]; have := G.hi; simp only [List.length_singleton]; omega)) fun p4 hp4 => ?_
              have ze := (same_upd (o := .lst [.ref pz]) hp3).trans (same_upd (o := .lst (vsa ++ [.ref pz])) hp4)
              have e4 : (upd (upd H7 p3 (.lst [.ref pz])) p4 (.lst (vsa ++ [.ref pz]))) p4 = some (.lst (vsa ++ [.ref pz])) := upd_same
              have n4 : p4 ≠ po := fun e => by
                rw [e, same_upd hp3 _ _ (s7 _ _ S6.o)] at hp4
                cases hp4
              have ez := ze _ _ ez
              have z47 := (s56.trans s7).trans ze
              generalize upd (upd H7 p3 (.lst [.ref pz])) p4 (.lst (vsa ++ [.ref pz])) = H9 at ze e4 ez z47
              have S9 := S.same POc_keep z47
              have po9 : POc H9 (a + 3) (vsa ++ [.ref pz]) := by
                refine ⟨by rw [List.length_append, ka6.1]; show a / 3 + 1 = (a + 3) / 3; omega, fun v hv => ?_⟩
                rcases List.mem_append.mp hv with y | y
                · obtain ⟨t, e, g⟩ := ka6.2 v y
                  exact ⟨t, e, z47 _ _ g⟩
                · exact ⟨pz, List.mem_singleton.mp y, ez⟩
              obtain ⟨u1, g1, _⟩ := (r1.same (s6.trans (s7.trans ze)))
              obtain ⟨u2, g2, _⟩ := (r2.same (s6.trans (s7.trans ze)))
              walk_at "rd"
              refine r_ixT (.of (z47 _ _ st4)) (at_of (j := 3) rfl rfl) ?_
              walk_at "rd"
              refine ⟨a % 3, by omega, rfl, rfl, fun Ha pq sa eq => ?_⟩
              refine ⟨pq, rfl, ⟨_, .of eq⟩, ?_⟩
              have npq : pq ≠ po := fun e => by
                have h0 := sa _ _ S9.o
                rw [← e, eq] at h0
                injection h0 with h0
                injection h0 with h0
                obtain ⟨t, _, _, _, g1, _⟩ := S9.at_ 0 (by omega)
                rw [← h0] at g1
                cases List.mem_map.mp (List.mem_of_getElem? g1) with
                | intro _ z => cases z.2
              have z4a := z47.trans sa
              have t1a := sa _ _ g1
              have t2a := sa _ _ g2
              have sta := z4a _ _ st4
              refine for_it (walk_list (xs := (List.range (a % 3)).map fun j => .int ((a % 3 - 1 + j : Nat) : Int))) (fun j σ H' => ∃ os es v3 v13, Same H1 H' ∧ Keep po Ha H' ∧ Srch P w po pd POc (stC ms k1 k2) (keyC ms k1 k2) H' (if a / 3 + 1 < L then nA L a + j else nA L a) os es ∧
                σ = [some (.ref o1), some (.ref o2), some (.ref pn), v3, some (.ref po), some (.ref ta), some (.ref pd), some (.int (a : Nat)), some (.str "timeout"), some (.ref t1), some (.ref t2), some (.int 1), some (.ref p4), v13]) ⟨os, es, v3, v13, s4.trans z4a, .same (.refl _), ?_, rfl⟩ (fun _ _ H' _ h => by
                  obtain ⟨_, _, _, _, _, h, _⟩ := h
                  exact .of (h.lst _ _ npq eq)) ?_ ?_
              · have := S9.same POc_keep sa
                rw [ite_self_add]
                exact this
              · rintro j x σ H8 Hb hj ⟨os, es, v3, v13, sb, kb, Sb, rfl⟩ ⟨rfl, hx⟩
                rw [List.length_map, List.length_range] at hj
                obtain rfl : V.int ((a % 3 - 1 + j : Nat) : Int) = x := by
                  rw [List.getElem?_map, List.getElem?_range hj] at hx
                  exact Option.some.inj hx
                have hy3 : (a + 2 + j) / 3 = a / 3 + 1 := by omega
                have hym : (a + 2 + j) % 3 = a % 3 - 1 + j := by omega
                have sty : ∀ {b : Bool}, b = true → stC ms k1 k2 (a + 2 + j) = [.str (md ms ((a / 3 + 1) % k1)), .str (md ms ((a / 3 + 1) % k2)), .bl b, .int ((a % 3 - 1 + j : Nat) : Int)] := fun {b} e => by
                  unfold stC
                  rw [hy3, hym, e, decide_eq_true (by omega)]
                walk_at "rd"
                refine r_ixT (.of (kb.tup _ _ t1a)) (at_of (j := 0) rfl rfl) ?_
                walk_at "rd"
                refine r_ixT (.of (kb.tup _ _ t2a)) (at_of (j := 0) rfl rfl) ?_
                walk_at "rd"
                refine r_ixT (.of (kb.tup _ _ sta)) (at_of (j := 2) rfl rfl) ?_
                walk_at "rd"
                refine if_both ?_ (fun z => r_op (r_var rfl (r_const (r_i0 z))))
                walk_at "rd"
                refine ⟨sz4, fun pf hpf => ?_⟩
                have e5 : (upd Hb pf (.tup [.str (md ms ((a / 3 + 1) % k1)), .str (md ms ((a / 3 + 1) % k2)), .bl true, .int ((a % 3 - 1 + j : Nat) : Int)])) pf = some (.tup (stC ms k1 k2 (a + 2 + j))) := by rw [upd_same, sty (b := true) rfl]
                have s5 := same_upd (o := .tup [.str (md ms ((a / 3 + 1) % k1)), .str (md ms ((a / 3 + 1) % k2)), .bl true, .int ((a % 3 - 1 + j : Nat) : Int)]) hpf
                generalize upd Hb pf (.tup [.str (md ms ((a / 3 + 1) % k1)), .str (md ms ((a / 3 + 1) % k2)), .bl true, .int ((a % 3 - 1 + j : Nat) : Int)]) = Hc at s5 e5
                have e6 : SqT K Hc pf [.str (md ms ((a / 3 + 1) % k1)), .str (md ms ((a / 3 + 1) % k2)), .bl true, .int ((a % 3 - 1 + j : Nat) : Int)] := by
                  rw [← sty (b := true) rfl]
                  exact .of e5
                walk_at "rd"
                refine r_ixT e6 (at_of (j := 2) rfl rfl) ?_
                walk_at "rd"
                refine r_slice ?_
                walk_at "rd"
                refine ⟨2, rfl, ?_⟩
                refine r_slT e6 (fun z => absurd z.2 (show ¬ (2 : Nat) = 4 by decide)) fun pm hpm => ?_
                have em : (upd Hc pm (.tup (cutV [.str (md ms ((a / 3 + 1) % k1)), .str (md ms ((a / 3 + 1) % k2)), .bl true, .int ((a % 3 - 1 + j : Nat) : Int)] none (some 2)))) pm = some (.tup [.str (md ms ((a / 3 + 1) % k1)), .str (md ms ((a / 3 + 1) % k2))]) := upd_same
                have s6' := same_upd (o := .tup (cutV [.str (md ms ((a / 3 + 1) % k1)), .str (md ms ((a / 3 + 1) % k2)), .bl true, .int ((a % 3 - 1 + j : Nat) : Int)] none (some 2))) hpm
                generalize upd Hc pm (.tup (cutV [.str (md ms ((a / 3 + 1) % k1)), .str (md ms ((a / 3 + 1) % k2)), .bl true, .int ((a % 3 - 1 + j : Nat) : Int)] none (some 2))) = Hd at s6' em
                have sbd := (sb.trans s5).trans s6'
                walk_at "rd"
                refine ⟨o1, o2, pm, ms, nm, k1, calm1, rs1, k2, calm2, rs2, _, _, true, a % 3 - 1 + j, rfl, rfl, rfl, rfl, rfl, N, O1.same sbd, O2.same sbd, z1 _, z2 _, by omega, .of em, fun He s7' => ?_⟩
                walk_at "rd"
                refine if_f (by rw [hd]; exact bne_self_eq_false' _) ?_
                walk_at "rd"
                have sbe := sbd.trans s7'
                have sce := s6'.trans s7'
                have Se := Sb.same POc_keep ((s5.trans s6').trans s7')
                have ke : KeyAt He pf (keyC ms k1 k2 (a + 2 + j)) := ⟨_, sce _ _ e5, pairC ms k1 k2 _⟩
                have kbe := kb.trans (.same (po := po) ((s5.trans s6').trans s7'))
                refine r_lfnin ke Se.d ?_
                walk_at "rd"
                rw [Se.keys]
                by_cases hL : a / 3 + 1 < L
                · rw [if_pos hL] at Se
                  rw [if_pos hL]
                  have hn : nA L a + j = a + 2 + j := by
                    have : nA L a = a + 2 := by unfold nA; split <;> omega
                    omega
                  rw [hn] at Se
                  rw [hn]
                  have hin : keyC ms k1 k2 (a + 2 + j) ∉ (List.range (a + 2 + j)).map (keyC ms k1 k2) := fun z => by
                    obtain ⟨y, hy, ey⟩ := List.mem_map.mp z
                    have hy := List.mem_range.mp hy
                    obtain ⟨f1, f2, f3, f4⟩ := keyC_inj N O1.k1 O1.k6 O2.k1 O2.k6 ey
                    exact G.new _ _ (f3.mpr (by omega)) (show y / 3 < (a + 2 + j) / 3 by omega) (by omega) ⟨f1, f2⟩
                  refine if_t (decide_eq_true hin) ?_
                  walk_at "rd"
                  refine r_sub ?_
                  walk_at "rd"
                  have z7b : Same H9 Ha := sa
                  have e4b := kbe.lst p4 _ n4 (sa _ _ e4)
                  refine ⟨pd, pf, _, es, rfl, rfl, ke, Se.d, by rw [Se.keys]; exact hin, by rw [Se.dl]; have := G.hi; omega, ?_⟩
                  have npd : po ≠ pd := ne_of Se.o Se.d.1 fun y => by cases y
                  have o13 : (upd He pd (lfO P w pd (es ++ [(keyC ms k1 k2 (a + 2 + j), pf, .ref p4)]))) po = some (.lst os) := by
                    rw [upd_ne npd]
                    exact Se.o
                  have kd : Keep po He (upd He pd (lfO P w pd (es ++ [(keyC ms k1 k2 (a + 2 + j), pf, .ref p4)]))) := .putD Se.d.1
                  walk_at "rd"
                  refine ⟨ty_list (.of o13), ?_⟩
                  walk_at "rd"
                  refine r_append o13 (small1000 (by rw [Se.ol]; have := G.hi; omega)) ?_
                  have pob : POc He (a + 2 + j) (vsa ++ [.ref pz]) := by
                    have := POc_keep kbe (POc_keep (po := po) (.same sa) po9)
                    refine ⟨?_, this.2⟩
                    rw [this.1]
                    omega
                  have Sz := Se.push POc_keep ke e4b n4 pob (Same.refl _) (kd.tup _ _ (sce _ _ e5))
                  refine ⟨os ++ [.ref pf], es ++ [(keyC ms k1 k2 (a + 2 + j), pf, .ref p4)], _, _, same_set (same_set sbe hpd1) hpo, (kbe.trans kd).trans (.putO o13), ?_, rfl⟩
                  rw [if_pos hL, show nA L a + (j + 1) = a + 2 + j + 1 by omega]
                  exact Sz
                · rw [if_neg hL] at Se
                  rw [if_neg hL]
                  have hL' : L = a / 3 + 1 := by omega
                  have hn : nA L a = 3 * L := by unfold nA; split <;> omega
                  have hin : keyC ms k1 k2 (a + 2 + j) ∈ (List.range (nA L a)).map (keyC ms k1 k2) := by
                    rcases q with ⟨q, _⟩ | ⟨_, ⟨b, hb1, hb, f1, f2⟩, _⟩
                    · rw [hL'] at q
                      exact absurd hd q
                    · refine List.mem_map.mpr ⟨3 * b + (a % 3 - 1 + j), List.mem_range.mpr (by omega), ?_⟩
                      have hb3 : (3 * b + (a % 3 - 1 + j)) / 3 = b := by omega
                      unfold keyC
                      rw [hb3, hy3, hym, f1, f2, hL', decide_eq_true hb1, decide_eq_true (show 1 ≤ a / 3 + 1 by omega), show (3 * b + (a % 3 - 1 + j)) % 3 = a % 3 - 1 + j by omega]
                  refine if_f (decide_eq_false fun z => z hin) ?_
                  exact ⟨os, es, _, _, sbe, kbe, by rw [if_neg hL]; exact Se, rfl⟩
              · rintro σ Hb ⟨os, es, v3, v13, sb, kb, Sb, rfl⟩
                rw [List.length_map, List.length_range] at Sb
                refine ⟨os, es, v3, _, _, _, _, _, v13, sb, (kp.trans (.same z4a)).trans kb, ?_, fun _ h => ?_, rfl⟩
                · rw [if_neg (Nat.succ_ne_zero _)]
                  have := nA_next hl hlt
                  rw [this]
                  exact Sb
                · have e : a / 3 + 1 = L := by omega
                  rw [e] at hd
                  exact hd
            · refine if_t (bne_iff_ne.mpr hd) ?_
              have hL : a / 3 + 1 = L := by
                by_cases z : a / 3 + 1 < L
                · exact absurd (G.eq _ z) hd
                · omega
              rcases q with ⟨_, q⟩ | ⟨z, _⟩
              · have hl1 : a % 3 = 1 := by
                  by_cases z : a % 3 = 1
                  · exact z
                  · have := hT (by omega)
                    rw [hL] at hd
                    exact absurd this hd
                walk_at "rd"
                refine r_lfget ?_
                walk_at "rd"
                refine ⟨pd, ta, _, es, a, ba, .ref pla, rfl, rfl, kb6, S6.d, ka3, ?_⟩
                walk_at "rd"
                refine ⟨rfl, fun H7 pz s7 ez => ?_⟩
                walk_at "rd"
                refine ⟨sz1, fun p3 hp3 => ?_⟩
                refine r_cat (same_upd hp3 _ _ (s7 _ _ (s56 _ _ ka5))) upd_same (szK (by rw [ka6.1]; have := G.hi; simp only [List.length_singleton]; omega)) fun p4 hp4 => ?_
                have ze := (same_upd (o := .lst [.ref pz]) hp3).trans (same_upd (o := .lst (vsa ++ [.ref pz])) hp4)
                have e4 : (upd (upd H7 p3 (.lst [.ref pz])) p4 (.lst (vsa ++ [.ref pz]))) p4 = some (.lst (vsa ++ [.ref pz])) := upd_same
                have ez := ze _ _ ez
                have z47 := (s56.trans s7).trans ze
                generalize upd (upd H7 p3 (.lst [.ref pz])) p4 (.lst (vsa ++ [.ref pz])) = H9 at ze e4 ez z47
                walk_at "rd"
                refine r_ixT (.of (z47 _ _ st4)) (at_of (j := 3) rfl rfl) ?_
                walk_at "rd"
                refine ⟨p4, _, a / 3, rfl, by rw [hl1]; rfl, e4, by rw [List.length_append, ka6.1]; rfl, by have := G.hi; omega, fun j v hj => ?_, fun Ha pr c t sa er ec et => ?_⟩
                · by_cases e : j < a / 3
                  · rw [List.getElem?_append_left (by rw [ka6.1]; exact e)] at hj
                    obtain ⟨t, rfl, g⟩ := ka6.2 v (List.mem_of_getElem? hj)
                    refine ⟨t, rfl, ?_⟩
                    unfold stepV
                    rw [if_pos e]
                    exact z47 _ _ g
                  · have hj2 := (List.getElem?_eq_some_iff.mp hj).1
                    rw [List.length_append, ka6.1] at hj2
                    have hj2 : j < a / 3 + 1 := hj2
                    obtain rfl : j = a / 3 := by omega
                    rw [List.getElem?_append_right (by rw [ka6.1]; exact Nat.le_refl _), ka6.1, Nat.sub_self] at hj
                    obtain rfl : V.ref pz = v := Option.some.inj hj
                    refine ⟨pz, rfl, ?_⟩
                    unfold stepV
                    rw [if_neg (Nat.lt_irrefl _)]
                    exact ez
                · rw [hL] at et
                  rw [show a / 3 + 2 = L + 1 by omega] at ec
                  exact q _ pr c t (s1.trans ((s4.trans z47).trans sa)) er ec et
              · rw [hL] at hd
                exact absurd z hd
        · rintro σ H4 ⟨os, es, v3, v8, v9, v10, v11, v12, v13, s4, kp, S, hE, rfl⟩
          rw [if_neg (by rw [List.length_cons]; exact Nat.succ_ne_zero _)] at S
          walk_at "rd"
          refine ⟨_, _, rfl, rfl, ?_⟩
          exact ⟨os, es, v3, some (.ref ta), v8, v9, v10, v11, v12, v13, s4, S, fun h => hE (by rw [List.length_cons]; omega) (by omega), rfl⟩
end
end K67
-- deps: PartCallers
namespace K67
open PySem PySem.Spec PyProof.Rows L2
/-- a class whose instances isinstance knows -/
structure InC (K : PySem.W.Frag) (C : Addr) : Prop where
  cl : Cls K C
  ha : PySem.W.findIn K (.ref C) "__class__" = some (some (.builtin "object.__class__"))
  hn : PySem.W.specialIn K (.builtin "object.__class__") "__get__" = some (some (.builtin "getset_descriptor.__get__"))
  htk : PySem.W.takesIn K (.builtin "object.__class__") = some true
  hm : PySem.W.mroIn K C (.type "object") = some true
def TupK (K : PySem.W.Frag) (a : Addr) (ws : List Str) : Prop := ∀ H : Hp, SqT K H a (ws.map V.str)
structure Ks (K : PySem.W.Frag) (D : Adr) : Prop where
  rl : InC K D.cr
  ro : InC K D.co
  ct : TupK K D.ct ["any", "same", "older", "below"]
  ht : TupK K D.ht ["any", "have", "lack", "held", "better", "meet", "none"]
  cm : TupK K D.cm ["stay", "down", "there"]
  hm : TupK K D.hm ["stay", "take", "pick", "drop"]
  sd : TupK K D.sd ["caller", "host"]
section
variable {P : Program} {w : World} {K : PySem.W.Frag} {mg : Str → Option Value} {base : Heap} {D : Adr}
theorem r_isiC {C a dx : Addr} {fs : List (Str × V)} {H : Hp} {Q : VK} (c : InC K C) (e : H a = some (.ins C dx fs)) (q : Q (.bl true) H) : rIsi K [.ref a, .ref C] H Q :=
  r_isi (.own C) (.base (.ins e c.cl c.ha c.hn c.htk c.hm)) (by unfold PySem.W.kitOne; rw [if_pos (beq_self_eq_true _)]) q
abbrev sp_check_role (K : PySem.W.Frag) (D : Adr) : Sp := Sp1 fun a H Q => ∃ o side first rs calm, a = .ref o ∧ RoleAt D.co H o side first rs calm ∧ Q .non H
theorem sc_check_role : FnScope ["value"] ["value"] (defScope (top 36)) := ⟨rfl, rfl, rfl, by decide +kernel, rfl, by decide +kernel, by decide +kernel⟩
theorem ok_check_role (F : Df K mg "check_role" 36) (B : Bl mg) (T : Txt mg D) (Z : Ks K D) : Cal P w K mg base 1 "check_role" (sp_check_role K D) := by
  have sc := sc_check_role
  refine mk_cal F sc len1 (fun _ _ _ _ _ _ us hl => match us, hl with | [_], _ => rfl) (fun f cdv A outer s H vs Q E hr h => ?_)
  obtain ⟨a0, rfl, h⟩ := h
  refine ⟨_, (pss_one (ps_if (pt_not (pt_val (pe_callB call_isi rfl B.isinstance_ (by decide +kernel) (pa_cons (pv 0) (pa_cons (pe_gc rfl T.Role) pa_nil))))) (pss_one ps_never) pss_nil)), ?_⟩
  obtain ⟨o, side, first, rs, calm, rfl, O1, q⟩ := h
  obtain ⟨dx, fs, _, _, _, h1, _⟩ := id O1.ex
  walk_at "rd"
  refine r_isiC Z.ro h1 ?_
  walk_at "rd"
  refine if_f rfl ?_
  walk_at "rd"
  exact q
abbrev sp_is_role (K : PySem.W.Frag) (D : Adr) : Sp := Sp2 fun a b H Q => ∃ o side first rs calm, a = .ref o ∧ b = .str side ∧ RoleAt D.co H o side first rs calm ∧ Q (.bl true) H
theorem sc_is_role : FnScope ["value", "side"] ["value", "side"] (defScope (top 35)) := ⟨rfl, rfl, rfl, by decide +kernel, rfl, by decide +kernel, by decide +kernel⟩
theorem ok_is_role (F : Df K mg "is_role" 35) (B : Bl mg) (T : Txt mg D) (Z : Ks K D) (O : RoleC P w K mg base D.co) : Cal P w K mg base 3 "is_role" (sp_is_role K D) := by
  have sc := sc_is_role
  refine mk_cal F sc len2 (fun _ _ _ _ _ _ us hl => match us, hl with | [_, _], _ => rfl) (fun f cdv A outer s H vs Q E hr h => ?_)
  obtain ⟨a0, a1, rfl, h⟩ := h
  refine ⟨_, (pss_one (ps_ret (pe_and (pe_callB call_isi rfl B.isinstance_ (by decide +kernel) (pa_cons (pv 0) (pa_cons (pe_gc rfl T.Role) pa_nil))) (pe_one (pe_cmpR op_eq (pe_side O (hr.mono (by decide)) (pv 0)) (pv 1) (nomark _)))))), ?_⟩
  obtain ⟨o, side, first, rs, calm, rfl, rfl, O1, q⟩ := h
  obtain ⟨dx, fs, _, _, _, h1, _⟩ := id O1.ex
  walk_at "rd"
  refine r_isiC Z.ro h1 ?_
  walk_at "rd"
  refine if_t rfl ?_
  walk_at "rd"
  refine r_side O1 ?_
  walk_at "rd"
  rw [decide_eq_true rfl]
  exact q
abbrev sp_check_roles (K : PySem.W.Frag) (D : Adr) : Sp := Sp2 fun a b H Q => ∃ o1 o2 side f1 f2 rs1 rs2 calm1 calm2, a = .ref o1 ∧ b = .ref o2 ∧ RoleAt D.co H o1 side f1 rs1 calm1 ∧ RoleAt D.co H o2 side f2 rs2 calm2 ∧ Q .non H
theorem sc_check_roles : FnScope ["one", "other"] ["one", "other"] (defScope (top 57)) := ⟨rfl, rfl, rfl, by decide +kernel, rfl, by decide +kernel, by decide +kernel⟩
theorem ok_check_roles (F : Df K mg "check_roles" 57) (O : RoleC P w K mg base D.co) (ccheck_role : Cal P w K mg base 1 "check_role" (sp_check_role K D)) (cis_role : Cal P w K mg base 3 "is_role" (sp_is_role K D)) : Cal P w K mg base 4 "check_roles" (sp_check_roles K D) := by
  have sc := sc_check_roles
  refine mk_cal F sc len2 (fun _ _ _ _ _ _ us hl => match us, hl with | [_, _], _ => rfl) (fun f cdv A outer s H vs Q E hr h => ?_)
  obtain ⟨a0, a1, rfl, h⟩ := h
  refine ⟨_, (pss_cons (ps_expr (pe_c ccheck_role hr (by decide) rfl (pa_cons (pv 0) pa_nil)))
  (pss_one (ps_if (pt_not (pt_val (pe_c cis_role hr (by decide) rfl (pa_cons (pv 1) (pa_cons (pe_side O (hr.mono (by decide)) (pv 0)) pa_nil))))) (pss_one ps_never) pss_nil))), ?_⟩
  obtain ⟨o1, o2, side, f1, f2, rs1, rs2, calm1, calm2, rfl, rfl, O1, O2, q⟩ := h
  walk_at "rd"
  refine ⟨o1, _, _, _, _, rfl, O1, ?_⟩
  walk_at "rd"
  refine r_side O1 ?_
  walk_at "rd"
  refine ⟨o2, _, _, _, _, rfl, rfl, O2, ?_⟩
  walk_at "rd"
  refine if_f rfl ?_
  walk_at "rd"
  exact q
abbrev sp_part (K : PySem.W.Frag) (D : Adr) : Sp := Sp2 fun a b H Q => sp_part_callers K D [a, b] H Q E0 ∨ sp_part_hosts K D [a, b] H Q E0
theorem sc_part : FnScope ["one", "other"] ["one", "other"] (defScope (top 58)) := ⟨rfl, rfl, rfl, by decide +kernel, rfl, by decide +kernel, by decide +kernel⟩
theorem ok_part (F : Df K mg "part" 58) (O : RoleC P w K mg base D.co) (ccheck_roles : Cal P w K mg base 4 "check_roles" (sp_check_roles K D)) (cpart_callers : Cal P w K mg base 8 "part_callers" (sp_part_callers K D)) (cpart_hosts : Cal P w K mg base 8 "part_hosts" (sp_part_hosts K D)) : Cal P w K mg base 9 "part" (sp_part K D) := by
  have sc := sc_part
  refine mk_cal F sc len2 (fun _ _ _ _ _ _ us hl => match us, hl with | [_, _], _ => rfl) (fun f cdv A outer s H vs Q E hr h => ?_)
  obtain ⟨a0, a1, rfl, h⟩ := h
  refine ⟨_, (pss_cons (ps_expr (pe_c ccheck_roles hr (by decide) rfl (pa_cons (pv 0) (pa_cons (pv 1) pa_nil))))
  (pss_cons (ps_if (pt_cmpR op_eq (pe_side O (hr.mono (by decide)) (pv 0)) pe_str (nomark _)) (pss_one (ps_ret (pe_c cpart_callers hr (by decide) rfl (pa_cons (pv 0) (pa_cons (pv 1) pa_nil))))) pss_nil)
  (pss_one (ps_ret (pe_c cpart_hosts hr (by decide) rfl (pa_cons (pv 0) (pa_cons (pv 1) pa_nil))))))), ?_⟩
  rcases h with h | h
  · obtain ⟨a, b, e, o1, o2, ms, nm, k1, calm1, rs1, k2, calm2, rs2, L, rfl, rfl, N, O1, O2, r⟩ := id h
    obtain ⟨rfl, rfl⟩ : a0 = V.ref o1 ∧ a1 = V.ref o2 := by
      injection e with e1 e2
      injection e2 with e2 _
      exact ⟨e1, e2⟩
    walk_at "rd"
    refine ⟨o1, o2, _, _, _, _, _, _, _, rfl, rfl, O1.role, O2.role, ?_⟩
    walk_at "rd"
    refine r_side O1.role ?_
    walk_at "rd"
    refine if_t (by decide +kernel) ?_
    walk_at "rd"
    exact ⟨o1, o2, ms, nm, k1, calm1, rs1, k2, calm2, rs2, L, rfl, rfl, N, O1, O2, r⟩
  · obtain ⟨a, b, e, o1, o2, ms, nm, k1, calm1, rs1, k2, calm2, rs2, L, rfl, rfl, N, O1, O2, r⟩ := id h
    obtain ⟨rfl, rfl⟩ : a0 = V.ref o1 ∧ a1 = V.ref o2 := by
      injection e with e1 e2
      injection e2 with e2 _
      exact ⟨e1, e2⟩
    walk_at "rd"
    refine ⟨o1, o2, _, _, _, _, _, _, _, rfl, rfl, O1.role, O2.role, ?_⟩
    walk_at "rd"
    refine r_side O1.role ?_
    walk_at "rd"
    refine if_f (by decide +kernel) ?_
    walk_at "rd"
    exact ⟨o1, o2, ms, nm, k1, calm1, rs1, k2, calm2, rs2, L, rfl, rfl, N, O1, O2, r⟩
/-- ints that go down -/
def Down (ns : List Int) : Prop := ∀ (i : Nat) (x y : Int), ns[i]? = some x → ns[i + 1]? = some y → y < x
theorem eqv_nil : PyData.eqv (.list []) (.list []) = true := rfl
abbrev sp_is_choices (K : PySem.W.Frag) (D : Adr) : Sp := Sp1 fun a H Q => ∃ l ns, a = .ref l ∧ H l = some (.lst (ns.map V.int)) ∧ Down ns ∧ ns.length ≤ 1000 ∧ ∀ H', Same H H' → Q (.bl true) H'
theorem sc_is_choices : FnScope ["value", "at", "choice"] ["value"] (defScope (top 38)) := ⟨rfl, rfl, rfl, by decide +kernel, rfl, by decide +kernel, by decide +kernel⟩
theorem ok_is_choices (F : Df K mg "is_choices" 38) (B : Bl mg) (cis_whole : Cal P w K mg base 1 "is_whole" (sp_is_whole K D)) : Cal P w K mg base 2 "is_choices" (sp_is_choices K D) := by
  have sc := sc_is_choices
  refine mk_cal F sc len1 (fun _ _ _ _ _ _ us hl => match us, hl with | [_], _ => rfl) (fun f cdv A outer s H vs Q E hr h => ?_)
  obtain ⟨a0, rfl, h⟩ := h
  refine ⟨_, (pss_cons (ps_if (PW.pt (pw_or (pt_not (pt_val (pe_callB call_isi rfl B.isinstance_ (by decide +kernel) (pa_cons (pv 0) (pa_cons (pe_bltn (v := .ty "list") rfl B.list_ (by decide +kernel) rfl) pa_nil))))) (pw_or1 (pt_cmpR (op_neD hr.units) (pe_lc (own := [("choice", 2)]) (g := gName 2) rfl sc.nd (pi_list (pv 0)) (blkOk_by (own := [("choice", 2)]) (N := ["value", "at", "choice"]) (sc := defScope (top 38)) (by decide +kernel)) (fun _ _ _ _ _ => pg_name (i := 2) sc.nd rfl (Or.inl rfl)) (fun _ _ _ _ _ => pts_one (pt_not (pt_val (pe_c cis_whole hr (by decide) rfl (pa_cons (pv 2) pa_nil))))) (fun _ _ _ _ _ => (pv 2))) (pe_lst pa_nil) (nomark _))))) (pss_one (ps_ret pe_bl)) pss_nil)
  (pss_one (ps_ret (pe_cmpR (op_eqD hr.units) (pe_lc (own := [("at", 1)]) (g := gName 1) rfl sc.nd (pi_range2 rfl B.range_ (pa_cons pe_int (pa_cons (pe_callB call_lenS rfl B.len_ (by decide +kernel) (pa_cons (pv 0) pa_nil)) pa_nil))) (blkOk_by (own := [("at", 1)]) (N := ["value", "at", "choice"]) (sc := defScope (top 38)) (by decide +kernel)) (fun _ _ _ _ _ => pg_name (i := 1) sc.nd rfl (Or.inl rfl)) (fun _ _ _ _ _ => pts_one (pt_cmpR op_le (pe_ix (show IxR _ (rIxL K) from ix_list) (pv 0) (pe_op op_sub (pv 1) pe_int) (fun _ _ => rfl)) (pe_ix (show IxR _ (rIxL K) from ix_list) (pv 0) (pv 1) (fun _ _ => rfl)) (nomark _))) (fun _ _ _ _ _ => (pv 1))) (pe_lst pa_nil) (nomark _))))), ?_⟩
  obtain ⟨l, ns, rfl, hl, hD, hz, q⟩ := h
  walk_at "rd"
  refine r_isi (b := true) (.ty _) (.base (.lst hl)) (kit_ty (by decide +kernel)) ?_
  walk_at "rd"
  refine if_f rfl ?_
  walk_at "rd"
  refine ⟨l, rfl, ⟨_, .of hl⟩, fun p hp => ?_⟩
  refine lc_list (xs := ns.map V.int) (fun i H' => Same H H' ∧ H' p = some (.lst [])) ⟨same_upd hp, upd_same⟩ (fun _ _ _ h => .of (h.1 _ _ hl)) ?_ ?_
  · rintro i x H1 hx ⟨s1, e1⟩
    obtain ⟨n, hn, rfl⟩ : ∃ n, ns[i]? = some n ∧ x = V.int n := by
      rw [List.getElem?_map] at hx
      cases e : ns[i]? with
      | none => rw [e] at hx; cases hx
      | some r => rw [e] at hx; exact ⟨r, rfl, (Option.some.inj hx).symm⟩
    walk_at "rd"
    refine ⟨rfl, ?_⟩
    walk_at "rd"
    refine ⟨n, rfl, ?_⟩
    walk_at "rd"
    exact if_f rfl ⟨s1, e1⟩
  · rintro H1 ⟨s1, e1⟩
    walk_at "rd"
    refine ⟨sz0, fun p2 hp2 => ?_⟩
    have s2 := same_upd (o := .lst []) hp2
    refine ⟨.list [], .list [], .lst (.of (s2 _ _ e1)) .nil, .lst (.of upd_same) .nil, rfl, rfl, ?_⟩
    walk_at "rd"
    refine if_f rfl ?_
    walk_at "rd"
    have s12 := s1.trans s2
    refine r_lenL (.of (s12 _ _ hl)) ?_
    walk_at "rd"
    refine ⟨_, _, rfl, ⟨by decide, by decide, by omega, by rw [List.length_map]; omega⟩, fun p3 hp3 => ?_⟩
    rw [List.length_map]
    refine lc_range (lo := 1) (fun i H' => Same H H' ∧ H' p3 = some (.lst [])) ⟨same_upd' s12 hp3, upd_same⟩ ?_ ?_
    · rintro i H2 hi ⟨s3, e3⟩
      have hi : i + 1 < ns.length := by omega
      obtain ⟨x, hx⟩ : ∃ x, ns[i]? = some x := ⟨_, List.getElem?_eq_getElem (by omega)⟩
      obtain ⟨y, hy⟩ : ∃ y, ns[i + 1]? = some y := ⟨_, List.getElem?_eq_getElem hi⟩
      walk_at "rd"
      refine ⟨rfl, ?_⟩
      walk_at "rd"
      refine r_ixL (v := .int x) (.of (s3 _ _ hl)) (at_of (j := i) (by omega) (by rw [List.getElem?_map, hx]; rfl)) ?_
      walk_at "rd"
      refine r_ixL (v := .int y) (.of (s3 _ _ hl)) (at_of (j := i + 1) (by omega) (by rw [List.getElem?_map, hy]; rfl)) ?_
      walk_at "rd"
      exact if_f (decide_eq_false (by have := hD i x y hx hy; omega)) ⟨s3, e3⟩
    · rintro H2 ⟨s3, e3⟩
      walk_at "rd"
      refine ⟨sz0, fun p4 hp4 => ?_⟩
      have s4 := same_upd (o := .lst []) hp4
      refine ⟨.list [], .list [], .lst (.of (s4 _ _ e3)) .nil, .lst (.of upd_same) .nil, rfl, rfl, ?_⟩
      exact q _ (s3.trans s4)
end
end K67
-- deps: Part
namespace K67
open PySem PySem.Spec PyProof.Rows L2
section
variable {P : Program} {w : World} {K : PySem.W.Frag} {mg : Str → Option Value} {base : Heap} {D : Adr}
abbrev sp_is_stimulus (K : PySem.W.Frag) (D : Adr) : Sp := Sp3 fun a b c H Q => (∃ s, a = .str s ∧ c = .str "timeout" ∧ b = b ∧ Q (.bl true) H) ∨ (∃ n, a = .str "host" ∧ Good n ∧ OneAt H n c ∧ b = b ∧ ∀ H', Same H H' → Q (.bl true) H')
theorem down_one : Down [1] := fun i x y _ h => by
  rw [List.getElem?_cons_succ] at h
  cases h
theorem sc_is_stimulus : FnScope ["side", "choices", "value"] ["side", "choices", "value"] (defScope (top 59)) := ⟨rfl, rfl, rfl, by decide +kernel, rfl, by decide +kernel, by decide +kernel⟩
theorem ok_is_stimulus (F : Df K mg "is_stimulus" 59) (B : Bl mg) (T : Txt mg D) (cis_name : Cal P w K mg base 1 "is_name" (sp_is_name K D)) (cis_whole : Cal P w K mg base 1 "is_whole" (sp_is_whole K D)) (cis_choices : Cal P w K mg base 2 "is_choices" (sp_is_choices K D)) : Cal P w K mg base 3 "is_stimulus" (sp_is_stimulus K D) := by
  have sc := sc_is_stimulus
  refine mk_cal F sc len3 (fun _ _ _ _ _ _ us hl => match us, hl with | [_, _, _], _ => rfl) (fun f cdv A outer s H vs Q E hr h => ?_)
  obtain ⟨a0, a1, a2, rfl, h⟩ := h
  refine ⟨_, (pss_cons (ps_if (pt_val (pe_callB call_isi rfl B.isinstance_ (by decide +kernel) (pa_cons (pv 2) (pa_cons (pe_bltn (v := .ty "str") rfl B.str_ (by decide +kernel) rfl) pa_nil)))) (pss_one (ps_ret (pe_cmpR op_eq (pv 2) (pe_gc rfl T.TIMEOUT) (nomark _)))) pss_nil)
  (pss_cons (ps_if (PW.pt (pw_or (pt_not (pt_val (pe_callB call_isi rfl B.isinstance_ (by decide +kernel) (pa_cons (pv 2) (pa_cons (pe_bltn (v := .ty "tuple") rfl B.tuple_ (by decide +kernel) rfl) pa_nil))))) (pw_or1 (pt_cmpR op_ne (pe_callB call_lenS rfl B.len_ (by decide +kernel) (pa_cons (pv 2) pa_nil)) (pe_op op_add pe_int (pe_callTy call_intI rfl B.int_ (by decide +kernel) (pa_cons (pe_cmpR op_eq (pv 0) pe_str (nomark _)) pa_nil))) (nomark _))))) (pss_one (ps_ret pe_bl)) pss_nil)
  (pss_cons (ps_if (PW.pt (pw_or (pt_not (pt_val (pe_c cis_name hr (by decide) rfl (pa_cons (pe_ix ix_tup (pv 2) pe_int (fun _ _ => rfl)) pa_nil)))) (pw_or1 (pt_not (pt_val (pe_c cis_whole hr (by decide) rfl (pa_cons (pe_ix ix_tup (pv 2) pe_int (fun _ _ => rfl)) pa_nil))))))) (pss_one (ps_ret pe_bl)) pss_nil)
  (pss_cons (ps_if (pt_cmpR op_eq (pv 0) pe_str (nomark _)) (pss_one (ps_ret (pe_cmpR op_in_seq (pe_ix ix_tup (pv 2) pe_int (fun _ _ => rfl)) (pv 1) rfl))) pss_nil)
  (pss_one (ps_ret (pe_and (pe_c cis_choices hr (by decide) rfl (pa_cons (pe_ix ix_tup (pv 2) pe_int (fun _ _ => rfl)) pa_nil)) (pe_one (pe_cmpR op_in_seq (pe_ix ix_tup (pv 2) pe_int (fun _ _ => rfl)) (pe_ix ix_tup (pv 2) pe_int (fun _ _ => rfl)) rfl))))))))), ?_⟩
  rcases h with ⟨s, rfl, rfl, -, q⟩ | ⟨n, rfl, gn, ⟨t, l, rfl, ht, hl⟩, -, q⟩
  · walk_at "rd"
    refine r_isi (b := true) (.ty _) (.base (.str _)) (kit_ty (by decide +kernel)) ?_
    walk_at "rd"
    refine if_t rfl ?_
    walk_at "rd"
    exact q
  · walk_at "rd"
    refine r_isi (b := false) (.ty _) (.base (.tup ht)) (kit_ty (by decide +kernel)) ?_
    walk_at "rd"
    refine if_f rfl ?_
    walk_at "rd"
    refine r_isi (b := true) (.ty _) (.base (.tup ht)) (kit_ty (by decide +kernel)) ?_
    walk_at "rd"
    refine if_f rfl ?_
    walk_at "rd"
    refine r_lenP (.of ht) ?_
    walk_at "rd"
    refine if_f (show (!decide (V.int 3 = V.int 3)) = false by decide) ?_
    walk_at "rd"
    refine r_ixT (.of ht) (at_of (j := 0) rfl rfl) ?_
    walk_at "rd"
    refine .inl ⟨n, rfl, gn, fun H1 s1 => ?_⟩
    walk_at "rd"
    refine if_f rfl ?_
    walk_at "rd"
    refine r_ixT (.of (s1 _ _ ht)) (at_of (j := 1) rfl rfl) ?_
    walk_at "rd"
    refine ⟨1, rfl, ?_⟩
    walk_at "rd"
    refine if_f rfl ?_
    walk_at "rd"
    refine if_f (by decide +kernel) ?_
    walk_at "rd"
    refine r_ixT (.of (s1 _ _ ht)) (at_of (j := 2) rfl rfl) ?_
    walk_at "rd"
    refine ⟨l, [1], rfl, s1 _ _ hl, down_one, by decide, fun H2 s2 => ?_⟩
    have s12 := s1.trans s2
    walk_at "rd"
    refine if_t rfl ?_
    walk_at "rd"
    refine r_ixT (.of (s12 _ _ ht)) (at_of (j := 1) rfl rfl) ?_
    walk_at "rd"
    refine r_ixT (.of (s12 _ _ ht)) (at_of (j := 2) rfl rfl) ?_
    refine ⟨l, [.int 1], rfl, .inl (.of (s12 _ _ hl)), rfl, rfl, ?_⟩
    exact q _ s12
/-- a stimulus of a path -/
def StimAt (H : Hp) (cal : Bool) (n : Str) (v : V) : Prop := (cal = true ∧ v = .str "timeout") ∨ (cal = false ∧ OneAt H n v)
theorem StimAt.same {H H' : Hp} {cal : Bool} {n : Str} {v : V} (s : Same H H') (h : StimAt H cal n v) : StimAt H' cal n v := h.imp id fun z => ⟨z.1, z.2.same s⟩
theorem if_both2 {c : Bool} {A B : Prop} (b : B) (h : B → A) : if c = true then A else B := by
  cases c
  · exact b
  · exact h b
abbrev sp_is_claim (K : PySem.W.Frag) (D : Adr) : Sp := Sp2 fun a b H Q => ∃ cal t c s ns vs n, a = .str (sideS cal) ∧ b = .ref t ∧ Good n ∧ H t = some (.tup [.ref c, .ref s]) ∧ H c = some (.lst (ns.map V.int)) ∧ Down ns ∧ 1 ≤ ns.length ∧ ns.length ≤ 1000 ∧ H s = some (.lst vs) ∧ (∀ v ∈ vs, StimAt H cal n v) ∧
  ∀ H', Same H H' → Q (.bl true) H'
theorem sc_is_claim : FnScope ["side", "claim", "value"] ["side", "claim"] (defScope (top 60)) := ⟨rfl, rfl, rfl, by decide +kernel, rfl, by decide +kernel, by decide +kernel⟩
theorem ok_is_claim (F : Df K mg "is_claim" 60) (B : Bl mg) (cis_choices : Cal P w K mg base 2 "is_choices" (sp_is_choices K D)) (cis_stimulus : Cal P w K mg base 3 "is_stimulus" (sp_is_stimulus K D)) : Cal P w K mg base 4 "is_claim" (sp_is_claim K D) := by
  have sc := sc_is_claim
  refine mk_cal F sc len2 (fun _ _ _ _ _ _ us hl => match us, hl with | [_, _], _ => rfl) (fun f cdv A outer s H vs Q E hr h => ?_)
  obtain ⟨a0, a1, rfl, h⟩ := h
  refine ⟨_, (pss_cons (ps_if (PW.pt (pw_or (pt_not (pt_val (pe_callB call_isi rfl B.isinstance_ (by decide +kernel) (pa_cons (pv 1) (pa_cons (pe_bltn (v := .ty "tuple") rfl B.tuple_ (by decide +kernel) rfl) pa_nil))))) (pw_or1 (pt_cmpR op_ne (pe_callB call_lenS rfl B.len_ (by decide +kernel) (pa_cons (pv 1) pa_nil)) pe_int (nomark _))))) (pss_one (ps_ret pe_bl)) pss_nil)
  (pss_cons (ps_if (PW.pt (pw_or (pt_not (pt_val (pe_c cis_choices hr (by decide) rfl (pa_cons (pe_ix ix_tup (pv 1) pe_int (fun _ _ => rfl)) pa_nil)))) (pw_or (PW.pt (pw_and (pt_cmpR op_eq (pv 0) pe_str (nomark _)) (pw_and1 (pt_cmpR op_eq (pe_callB call_lenS rfl B.len_ (by decide +kernel) (pa_cons (pe_ix ix_tup (pv 1) pe_int (fun _ _ => rfl)) pa_nil)) pe_int (nomark _))))) (pw_or1 (pt_not (pt_val (pe_callB call_isi rfl B.isinstance_ (by decide +kernel) (pa_cons (pe_ix ix_tup (pv 1) pe_int (fun _ _ => rfl)) (pa_cons (pe_bltn (v := .ty "list") rfl B.list_ (by decide +kernel) rfl) pa_nil))))))))) (pss_one (ps_ret pe_bl)) pss_nil)
  (pss_one (ps_ret (pe_cmpR (op_eqD hr.units) (pe_lc (own := [("value", 2)]) (g := gName 2) rfl sc.nd (pi_list (pe_ix ix_tup (pv 1) pe_int (fun _ _ => rfl))) (blkOk_by (own := [("value", 2)]) (N := ["side", "claim", "value"]) (sc := defScope (top 60)) (by decide +kernel)) (fun _ _ _ _ _ => pg_name (i := 2) sc.nd rfl (Or.inl rfl)) (fun _ _ _ _ _ => pts_one (pt_not (pt_val (pe_c cis_stimulus hr (by decide) rfl (pa_cons (pv 0) (pa_cons (pe_ix (show IxR _ (rIxT K) from ix_tup) (pv 1) pe_int (fun _ _ => rfl)) (pa_cons (pv 2) pa_nil))))))) (fun _ _ _ _ _ => (pv 2))) (pe_lst pa_nil) (nomark _)))))), ?_⟩
  obtain ⟨cal, t, c, s, ns, vs, n, rfl, rfl, gn, ht, hc, hD, hn1, hn2, hs, hv, q⟩ := h
  walk_at "rd"
  refine r_isi (b := true) (.ty _) (.base (.tup ht)) (kit_ty (by decide +kernel)) ?_
  walk_at "rd"
  refine if_f rfl ?_
  walk_at "rd"
  refine r_lenP (.of ht) ?_
  walk_at "rd"
  refine if_f (show (!decide (V.int 2 = V.int 2)) = false by decide) ?_
  walk_at "rd"
  refine r_ixT (.of ht) (at_of (j := 0) rfl rfl) ?_
  walk_at "rd"
  refine ⟨c, ns, rfl, hc, hD, hn2, fun H1 s1 => ?_⟩
  walk_at "rd"
  refine if_f rfl ?_
  walk_at "rd"
  refine if_both2 ?_ (fun z => ?_)
  · walk_at "rd"
    refine if_f rfl ?_
    walk_at "rd"
    refine r_ixT (.of (s1 _ _ ht)) (at_of (j := 1) rfl rfl) ?_
    walk_at "rd"
    refine r_isi (b := true) (.ty _) (.base (.lst (s1 _ _ hs))) (kit_ty (by decide +kernel)) ?_
    walk_at "rd"
    refine if_f rfl ?_
    walk_at "rd"
    refine r_ixT (.of (s1 _ _ ht)) (at_of (j := 1) rfl rfl) ?_
    refine ⟨s, rfl, ⟨_, .of (s1 _ _ hs)⟩, fun p hp => ?_⟩
    refine lc_list (xs := vs) (fun i H' => Same H H' ∧ H' p = some (.lst [])) ⟨same_upd' s1 hp, upd_same⟩ (fun _ _ _ h => .of (h.1 _ _ hs)) ?_ ?_
    · rintro i x H2 hx ⟨s2, e2⟩
      have hst := (hv x (List.mem_of_getElem? hx)).same s2
      walk_at "rd"
      refine ⟨rfl, ?_⟩
      walk_at "rd"
      refine r_ixT (.of (s2 _ _ ht)) (at_of (j := 0) rfl rfl) ?_
      walk_at "rd"
      rcases hst with ⟨rfl, rfl⟩ | ⟨rfl, hst⟩
      · refine .inl ⟨_, rfl, rfl, rfl, ?_⟩
        walk_at "rd"
        exact if_f rfl ⟨s2, e2⟩
      · refine .inr ⟨n, rfl, gn, hst, rfl, fun H3 s3 => ?_⟩
        walk_at "rd"
        exact if_f rfl ⟨s2.trans s3, s3 _ _ e2⟩
    · rintro H2 ⟨s2, e2⟩
      walk_at "rd"
      refine ⟨sz0, fun p4 hp4 => ?_⟩
      have s4 := same_upd (o := .lst []) hp4
      refine ⟨.list [], .list [], .lst (.of (s4 _ _ e2)) .nil, .lst (.of upd_same) .nil, rfl, rfl, ?_⟩
      exact q _ (s2.trans s4)
  · walk_at "rd"
    refine r_ixT (.of (s1 _ _ ht)) (at_of (j := 0) rfl rfl) ?_
    walk_at "rd"
    refine r_lenL (.of (s1 _ _ hc)) ?_
    walk_at "rd"
    refine if_f (by rw [List.length_map, dec_int]; exact decide_eq_false (by omega)) ?_
    exact z
/-- where a role stands after j stimuli -/
def eV (cal : Bool) (L j : Nat) : V := bif cal then .int (((L + 1 : Nat) : Int) - (j : Int)) else .non
def chL (cal : Bool) (L : Nat) : List Int := bif cal then desc ((L + 1 : Nat) : Int) (L + 1) else [6, 4, 2]
def SndAt (H : Hp) (cal : Bool) (nm : Str) (L j : Nat) (v : V) : Prop := (v = .non ∧ (cal = true → j = 0)) ∨ (cal = true ∧ 1 ≤ j ∧ ∃ u, v = .ref u ∧ H u = some (.tup [.str nm, .int (((L + 1 : Nat) : Int) - (j : Int))]))
theorem SndAt.same {H H' : Hp} {cal : Bool} {nm : Str} {L j : Nat} {v : V} (s : Same H H') (h : SndAt H cal nm L j v) : SndAt H' cal nm L j v := h.imp id fun ⟨a, b, u, e, g⟩ => ⟨a, b, u, e, s _ _ g⟩
def EndAt (H : Hp) (cal : Bool) (m nm : Str) (L j : Nat) (t : Addr) : Prop := ∃ snd, H t = some (.tup [.str m, eV cal L j, snd]) ∧ SndAt H cal nm L j snd
theorem EndAt.same {H H' : Hp} {cal : Bool} {m nm : Str} {L j : Nat} {t : Addr} (s : Same H H') (h : EndAt H cal m nm L j t) : EndAt H' cal m nm L j t := let ⟨v, e, g⟩ := h; ⟨v, s _ _ e, g.same s⟩
def sndD (cal : Bool) (nm : Str) (L j : Nat) : PyData := if cal = true ∧ 1 ≤ j then .tuple [.str nm, .int (((L + 1 : Nat) : Int) - (j : Int))] else .none
def eD (cal : Bool) (L j : Nat) : PyData := bif cal then .int (((L + 1 : Nat) : Int) - (j : Int)) else .none
theorem SndAt.dp {H : Hp} {cal : Bool} {nm : Str} {L j : Nat} {v : V} (h : SndAt H cal nm L j v) : Dp K H v (sndD cal nm L j) := by
  unfold sndD
  rcases h with ⟨rfl, h⟩ | ⟨h1, h2, u, rfl, g⟩
  · rw [if_neg fun z => by have := h z.1; omega]
    exact .non
  · rw [if_pos ⟨h1, h2⟩]
    exact .tup (.of g) (.cons (.str _) (.cons (.int _) .nil))
theorem eV_dp {H : Hp} {cal : Bool} {L j : Nat} : Dp K H (eV cal L j) (eD cal L j) := by
  cases cal
  · exact .non
  · exact .int _
/-- what a role shows there -/
def ShownAt (H : Hp) (cal : Bool) (nm : Str) (L j : Nat) (b : Bool) (t : Addr) : Prop := ∃ snd c, H t = some (.tup [snd, .bl b, eV cal L j, .bl c]) ∧ SndAt H cal nm L j snd ∧ c = (cal && decide (j + 1 < L + 1))
theorem ShownAt.same {H H' : Hp} {cal b : Bool} {nm : Str} {L j : Nat} {t : Addr} (s : Same H H') (h : ShownAt H cal nm L j b t) : ShownAt H' cal nm L j b t := let ⟨v, c, e, g, k⟩ := h; ⟨v, c, s _ _ e, g.same s, k⟩
theorem eqv_sh (cal : Bool) (nm : Str) (L j : Nat) (b1 b2 c : Bool) : (!PyData.eqv (.tuple [sndD cal nm L j, .bool b1, eD cal L j, .bool c]) (.tuple [sndD cal nm L j, .bool b2, eD cal L j, .bool c])) = (b1 != b2) := by
  have h1 : PyData.eqv (sndD cal nm L j) (sndD cal nm L j) = true := by
    unfold sndD
    split
    · simp [PyData.eqv, PyData.eqvAll]
    · rfl
  have h2 : PyData.eqv (eD cal L j) (eD cal L j) = true := by
    cases cal
    · rfl
    · simp [eD, PyData.eqv]
  simp only [PyData.eqv, PyData.eqvAll, h1, h2, Bool.true_and]
  cases b1 <;> cases b2 <;> cases c <;> rfl
theorem sh_sh {nm : Str} (g : Good nm) (cal : Bool) (L j : Nat) (b c : Bool) : SeqAt.shaped (.tuple [sndD cal nm L j, .bool b, eD cal L j, .bool c]) = true := by
  have h := ok_good g
  unfold sndD
  cases cal
  · rw [if_neg fun z => absurd z.1 Bool.false_ne_true]
    rfl
  · split
    · unfold SeqAt.shaped
      rw [show PyData.canLay0 (.tuple [.tuple [.str nm, .int (((L + 1 : Nat) : Int) - (j : Int))], .bool b, eD true L j, .bool c]) = ((PyData.canLay0 (.str nm) && true) && true) from rfl, h]
      rfl
    · rfl
theorem r_neShown {H : Hp} {Q : VK} {cal b1 b2 : Bool} {nm : Str} {L j : Nat} {t1 t2 : Addr} (g : Good nm) (h1 : ShownAt H cal nm L j b1 t1) (h2 : ShownAt H cal nm L j b2 t2) (q : Q (.bl (b1 != b2)) H) : rNeD K (.ref t1) (.ref t2) H Q := by
  obtain ⟨v1, c1, e1, g1, rfl⟩ := h1
  obtain ⟨v2, c2, e2, g2, rfl⟩ := h2
  refine ⟨.tuple [_, .bool _, _, .bool _], .tuple [_, .bool _, _, .bool _], .tup (.of e1) (.cons g1.dp (.cons (.bl _) (.cons eV_dp (.cons (.bl _) .nil)))), .tup (.of e2) (.cons g2.dp (.cons (.bl _) (.cons eV_dp (.cons (.bl _) .nil)))), sh_sh g _ _ _ _ _, sh_sh g _ _ _ _ _, ?_⟩
  rw [eqv_sh]
  exact q
theorem shown_pre {H : Hp} {Q : VK} {o ch t : Addr} {cal : Bool} {ms : List Str} {nm : Str} {k : Nat} {calm : List Str} {rs : List Addr} {L j i : Nat} (N : Nms ms nm) (O1 : RingAt D H o cal ms nm k calm rs) (hc : H ch = some (.lst ((chL cal L).map V.int))) (ht : EndAt H cal (md ms i) nm L j t) (hi : i < k) (hj : j ≤ L) (hL : L ≤ 50)
    (q : ∀ H' p, Same H H' → ShownAt H' cal nm L j (cm ms calm i) p → Q (.ref p) H') : sp_shown K D [.ref o, .ref ch, .ref t] H Q E0 := by
  obtain ⟨snd, e, g⟩ := ht
  refine sp3 ⟨o, ch, t, ms, nm, k, calm, rs, i, snd, rfl, rfl, rfl, N, hi, ?_⟩
  cases cal
  · exact .inr ⟨O1, .of e, fun H' p s r => q H' p s ⟨snd, false, r, g.same s, rfl⟩⟩
  · exact .inl ⟨O1, ((L + 1 : Nat) : Int), L + 1, j, .of hc, .of e, by omega, by omega, fun H' p s r => q H' p s ⟨snd, _, r, g.same s, by rw [Bool.true_and]⟩⟩
theorem acted_pre {H : Hp} {Q : VK} {o ch t : Addr} {cal : Bool} {ms : List Str} {nm : Str} {k : Nat} {calm : List Str} {rs : List Addr} {L j i : Nat} {x : V} (N : Nms ms nm) (O1 : RingAt D H o cal ms nm k calm rs) (hc : H ch = some (.lst ((chL cal L).map V.int))) (ht : EndAt H cal (md ms i) nm L j t) (hi : i < k) (hj : j < L) (hL : L ≤ 50)
    (hx : StimAt H cal nm x) (q : ∀ H' p, Same H H' → EndAt H' cal (md ms ((i + 1) % k)) nm L (j + 1) p → Q (.ref p) H') : sp_acted K D [.ref o, .ref ch, .ref t, x] H Q E0 := by
  obtain ⟨snd, e, g⟩ := ht
  refine sp4 ⟨o, ch, t, ms, nm, k, calm, rs, i, rfl, rfl, rfl, N, hi, ?_⟩
  rcases hx with ⟨rfl, rfl⟩ | ⟨rfl, t1, l, rfl, h1, h2⟩
  · refine .inl ⟨O1, ((L + 1 : Nat) : Int), L + 1, j, [snd], .of hc, .of e, by omega, by omega, .inl ⟨rfl, fun z => by omega, fun _ H' p s r => ?_⟩⟩
    obtain ⟨u, r1, r2⟩ := r
    have e1 : ((L + 1 : Nat) : Int) - (j : Int) - 1 = ((L + 1 : Nat) : Int) - ((j + 1 : Nat) : Int) := by omega
    rw [e1] at r1 r2
    exact q H' p s ⟨.ref u, r1, .inr ⟨rfl, by omega, u, rfl, r2⟩⟩
  · refine .inr ⟨O1, [snd], .of e, .inr ⟨t1, nm, _, _, rfl, .of h1, N.gn.ne, fun z => absurd rfl z, fun _ H' p s r => ?_⟩⟩
    exact q H' p s ⟨.non, r, .inl ⟨rfl, fun z => absurd z Bool.false_ne_true⟩⟩
theorem un2 {R : V → V → Hp → VK → Prop} {a b : V} {H : Hp} {Q : VK} {E : XK} (h : Sp2 R [a, b] H Q E) : R a b H Q := by
  obtain ⟨a', b', e, h⟩ := h
  injection e with e1 e2
  injection e2 with e2 _
  rw [e1, e2]
  exact h
theorem un3 {R : V → V → V → Hp → VK → Prop} {a b c : V} {H : Hp} {Q : VK} {E : XK} (h : Sp3 R [a, b, c] H Q E) : R a b c H Q := by
  obtain ⟨a', b', c', e, h⟩ := h
  injection e with e1 e2
  injection e2 with e2 e3
  injection e3 with e3 _
  rw [e1, e2, e3]
  exact h
theorem un4 {R : V → V → V → V → Hp → VK → Prop} {a b c d : V} {H : Hp} {Q : VK} {E : XK} (h : Sp4 R [a, b, c, d] H Q E) : R a b c d H Q := by
  obtain ⟨a', b', c', d', e, h⟩ := h
  injection e with e1 e2
  injection e2 with e2 e3
  injection e3 with e3 e4
  injection e4 with e4 _
  rw [e1, e2, e3, e4]
  exact h
theorem r_enum {ta : TA} {σ : L2.St} {H : Hp} {R : It → Hp → Prop} (q : ta σ H fun vs H1 => ∃ a xs, vs = [.ref a] ∧ SqL K H1 a xs ∧ R (Ite K a) H1) : iEnum K ta σ H R := q
abbrev sp_check_part (K : PySem.W.Frag) (D : Adr) : Sp := Sp3 fun a b c H Q => ∃ o1 o2 cl ch st cal ms nm k1 calm1 rs1 k2 calm2 rs2 L vs, a = .ref o1 ∧ b = .ref o2 ∧ c = .ref cl ∧ Nms ms nm ∧ RingAt D H o1 cal ms nm k1 calm1 rs1 ∧ RingAt D H o2 cal ms nm k2 calm2 rs2 ∧
  H cl = some (.tup [.ref ch, .ref st]) ∧ H ch = some (.lst ((chL cal L).map V.int)) ∧ H st = some (.lst vs) ∧ vs.length ≤ L + 1 ∧ 1 ≤ L ∧ L ≤ 50 ∧ (∀ v ∈ vs, StimAt H cal nm v) ∧
  (∀ j, j < L → cm ms calm1 (j % k1) = cm ms calm2 (j % k2)) ∧ cm ms calm1 (L % k1) ≠ cm ms calm2 (L % k2) ∧ ∀ H', Same H H' → Q (.bl (decide (vs.length = L))) H'
theorem desc_down (t : Int) (n : Nat) : Down (desc t n) := fun i x y hx hy => by
  unfold desc at hx hy
  rw [List.getElem?_map] at hx hy
  have h1 : i + 1 < n := by
    rcases Nat.lt_or_ge (i + 1) n with h | h
    · exact h
    · rw [List.getElem?_eq_none (by rw [List.length_range]; exact h)] at hy
      cases hy
  rw [List.getElem?_range (by omega)] at hx
  rw [List.getElem?_range h1] at hy
  have hx : t - (i : Int) = x := Option.some.inj hx
  have hy : t - ((i + 1 : Nat) : Int) = y := Option.some.inj hy
  omega
theorem chL_down (cal : Bool) (L : Nat) : Down (chL cal L) := by
  cases cal
  · intro i x y hx hy
    rcases i with _ | _ | _ | i
    · injection hx with hx
      injection hy with hy
      omega
    · injection hx with hx
      injection hy with hy
      omega
    · cases hy
    · cases hy
  · exact desc_down _ _
theorem chL_len (cal : Bool) {L : Nat} (h : L ≤ 50) : 1 ≤ (chL cal L).length ∧ (chL cal L).length ≤ 1000 := by
  cases cal
  · exact ⟨Nat.le_of_ble_eq_true rfl, Nat.le_of_ble_eq_true rfl⟩
  · show 1 ≤ (desc ((L + 1 : Nat) : Int) (L + 1)).length ∧ (desc ((L + 1 : Nat) : Int) (L + 1)).length ≤ 1000
    rw [desc_len]
    omega
theorem begin_pre {H : Hp} {Q : VK} {o ch : Addr} {cal : Bool} {ms : List Str} {nm : Str} {k : Nat} {calm : List Str} {rs : List Addr} {L : Nat} (O1 : RingAt D H o cal ms nm k calm rs) (hc : H ch = some (.lst ((chL cal L).map V.int)))
    (q : ∀ H' p, Same H H' → EndAt H' cal (md ms 0) nm L 0 p → Q (.ref p) H') : sp_beginning K D [.ref o, .ref ch] H Q E0 := by
  refine sp2 ⟨o, ch, cal, ms, nm, k, calm, rs, rfl, rfl, O1, ?_⟩
  cases cal
  · exact .inr ⟨rfl, fun H' p s r => q H' p s ⟨.non, r, .inl ⟨rfl, fun _ => rfl⟩⟩⟩
  · exact .inl ⟨rfl, _, .int (((L + 1 : Nat) : Int) - ((0 : Nat) : Int)), .of hc, desc_at (Nat.succ_pos L), fun H' p s r => q H' p s ⟨.non, r, .inl ⟨rfl, fun _ => rfl⟩⟩⟩
theorem sc_check_part : FnScope ["one", "other", "claim", "choices", "stimuli", "left", "right", "at", "stimulus", "is_parting"] ["one", "other", "claim"] (defScope (top 61)) := ⟨rfl, rfl, rfl, by decide +kernel, rfl, by decide +kernel, by decide +kernel⟩
theorem ok_check_part (F : Df K mg "check_part" 61) (B : Bl mg) (T : Txt mg D) (O : RoleC P w K mg base D.co) (ccheck_roles : Cal P w K mg base 4 "check_roles" (sp_check_roles K D)) (cis_claim : Cal P w K mg base 4 "is_claim" (sp_is_claim K D)) (cbeginning : Cal P w K mg base 3 "beginning" (sp_beginning K D)) (cshown : Cal P w K mg base 6 "shown" (sp_shown K D)) (cacted : Cal P w K mg base 5 "acted" (sp_acted K D)) : Cal P w K mg base 7 "check_part" (sp_check_part K D) := by
  have sc := sc_check_part
  refine mk_cal F sc len3 (fun _ _ _ _ _ _ us hl => match us, hl with | [_, _, _], _ => rfl) (fun f cdv A outer s H vs Q E hr h => ?_)
  obtain ⟨a0, a1, a2, rfl, h⟩ := h
  refine ⟨_, (pss_cons (ps_expr (pe_c ccheck_roles hr (by decide) rfl (pa_cons (pv 0) (pa_cons (pv 1) pa_nil))))
  (pss_cons (ps_if (pt_not (pt_val (pe_c cis_claim hr (by decide) rfl (pa_cons (pe_side O (hr.mono (by decide)) (pv 0)) (pa_cons (pv 2) pa_nil))))) (pss_one (ps_ret pe_bl)) pss_nil)
  (pss_cons (ps_asg (pv 2) (pg_tup rfl (pgs_cons (pg_name (i := 3) sc.nd rfl (.inl rfl)) (pgs_cons (pg_name (i := 4) sc.nd rfl (.inl rfl)) pgs_nil))))
  (pss_cons (ps_par (i := 5) (j := 6) rfl sc.nd rfl rfl (by decide) rfl rfl (pa_cons (pe_c cbeginning hr (by decide) rfl (pa_cons (pv 0) (pa_cons (pv 3) pa_nil))) (pa_cons (pe_c cbeginning hr (by decide) rfl (pa_cons (pv 1) (pa_cons (pv 3) pa_nil))) pa_nil)) (by rfl))
  (pss_cons (ps_for PassesOwn.never rfl (pi_enum rfl B.enumerate_ (pa_cons (pv 4) pa_nil)) (pg_tup rfl (pgs_cons (pg_name (i := 7) sc.nd rfl (.inl rfl)) (pgs_cons (pg_name (i := 8) sc.nd rfl (.inl rfl)) pgs_nil))) (pss_cons (ps_if (pt_cmpR (op_neD hr.units) (pe_c cshown hr (by decide) rfl (pa_cons (pv 0) (pa_cons (pv 3) (pa_cons (pv 5) pa_nil)))) (pe_c cshown hr (by decide) rfl (pa_cons (pv 1) (pa_cons (pv 3) (pa_cons (pv 6) pa_nil)))) (nomark _)) (pss_one (ps_ret pe_bl)) pss_nil)
  (pss_cons (ps_set (i := 5) sc.nd rfl (.inl rfl) (pe_c cacted hr (by decide) rfl (pa_cons (pv 0) (pa_cons (pv 3) (pa_cons (pv 5) (pa_cons (pv 8) pa_nil))))))
  (pss_cons (ps_set (i := 6) sc.nd rfl (.inl rfl) (pe_c cacted hr (by decide) rfl (pa_cons (pv 1) (pa_cons (pv 3) (pa_cons (pv 6) (pa_cons (pv 8) pa_nil))))))
  (pss_one (ps_if (PW.pt (pw_or (pt_cmpR op_is0 (pv 5) pe_non (nomark _)) (pw_or1 (pt_cmpR op_is0 (pv 6) pe_non (nomark _))))) (pss_cons (ps_set (i := 9) sc.nd rfl (.inl rfl) (pe_or (pe_cmpR op_is1 (pv 5) pe_non (nomark _)) (pe_one (pe_cmpR op_is1 (pv 6) pe_non (nomark _)))))
  (pss_one (ps_ret (pe_and (pe_cmpR (op_neTS hr.units0) (pv 8) (pe_gc rfl T.TIMEOUT) (nomark _)) (pe_and (pe_cmpR op_eq (pe_op op_add (pv 7) pe_int) (pe_callB call_lenS rfl B.len_ (by decide +kernel) (pa_cons (pv 4) pa_nil)) (nomark _)) (pe_one (pv 9))))))) pss_nil))))))
  (pss_one (ps_ret (pe_cmpR (op_neD hr.units) (pe_c cshown hr (by decide) rfl (pa_cons (pv 0) (pa_cons (pv 3) (pa_cons (pv 5) pa_nil)))) (pe_c cshown hr (by decide) rfl (pa_cons (pv 1) (pa_cons (pv 3) (pa_cons (pv 6) pa_nil)))) (nomark _))))))))), ?_⟩
  obtain ⟨o1, o2, cl, ch, st, cal, ms, nm, k1, calm1, rs1, k2, calm2, rs2, L, vs, rfl, rfl, rfl, N, O1, O2, hcl, hch, hst, hm, hL1, hL, hv, hE, hT, q⟩ := h
  have z1 : ∀ x, x % k1 < k1 := fun x => Nat.mod_lt x O1.k1
  have z2 : ∀ x, x % k2 < k2 := fun x => Nat.mod_lt x O2.k1
  walk_at "rd"
  refine ⟨o1, o2, _, _, _, _, _, _, _, rfl, rfl, O1.role, O2.role, ?_⟩
  walk_at "rd"
  refine r_side O1.role ?_
  walk_at "rd"
  refine ⟨cal, cl, ch, st, chL cal L, vs, nm, rfl, rfl, N.gn, hcl, hch, chL_down _ _, (chL_len cal hL).1, (chL_len cal hL).2, hst, hv, fun H1 s1 => ?_⟩
  walk_at "rd"
  refine if_f rfl ?_
  walk_at "rd"
  refine r_gtup (.of (s1 _ _ hcl)) rfl ?_
  walk_at "rdn"
  refine begin_pre (L := L) (nm := nm) (O1.same s1) (s1 _ _ hch) fun H2 l0 s2 hl0 => ?_
  have s12 := s1.trans s2
  walk_at "rdn"
  refine begin_pre (L := L) (nm := nm) (O2.same s12) (s12 _ _ hch) fun H3 r0 s3 hr0 => ?_
  have s13 := s12.trans s3
  have hl0 := hl0.same s3
  walk_at "rd"
  refine r_enum ?_
  walk_at "rd"
  refine ⟨st, vs, rfl, .of (s13 _ _ hst), ?_⟩
  have step1 : ∀ j, (j % k1 + 1) % k1 = (j + 1) % k1 := fun j => Nat.mod_add_mod j k1 1
  have step2 : ∀ j, (j % k2 + 1) % k2 = (j + 1) % k2 := fun j => Nat.mod_add_mod j k2 1
  refine for_it (walk_enum (xs := vs)) (fun j σ H' => j ≤ L ∧ Same H H' ∧ ∃ l r v7 v8, EndAt H' cal (md ms (j % k1)) nm L j l ∧ EndAt H' cal (md ms (j % k2)) nm L j r ∧
    σ = [some (.ref o1), some (.ref o2), some (.ref cl), some (.ref ch), some (.ref st), some (.ref l), some (.ref r), v7, v8, none]) ⟨Nat.zero_le _, s13, l0, r0, none, none, by rw [Nat.zero_mod]; exact hl0, by rw [Nat.zero_mod]; exact hr0, rfl⟩ (fun _ _ _ _ h => .of (h.2.1 _ _ hst)) ?_ ?_
  · rintro j x σ H8 H4 hj ⟨hjL, s4, l, r, v7, v8, hl, hr', rfl⟩ ⟨T1, x1, x2, rfl, hT1, rfl, e1, e2⟩
    have e2 : vs[j]? = some x2 := e2
    obtain rfl : V.int (j : Nat) = x1 := Option.some.inj e1
    have s5 := same_upd (o := .tup [.int (j : Nat), x2]) hT1
    have eT : (upd H8 T1 (.tup [.int (j : Nat), x2])) T1 = some (.tup [.int (j : Nat), x2]) := upd_same
    generalize upd H8 T1 (.tup [.int (j : Nat), x2]) = H5 at s5 eT
    replace s4 := s4.trans s5
    replace hl := hl.same s5
    replace hr' := hr'.same s5
    have hx := (hv x2 (List.mem_of_getElem? e2)).same s4
    refine r_gtup (.of eT) rfl ?_
    walk_at "rdn"
    refine shown_pre N (O1.same s4) (s4 _ _ hch) hl (z1 j) hjL hL fun H6 t1 s6 g1 => ?_
    have s46 := s4.trans s6
    walk_at "rdn"
    refine shown_pre N (O2.same s46) (s46 _ _ hch) (hr'.same s6) (z2 j) hjL hL fun H7 t2 s7 g2 => ?_
    refine r_neShown N.gn (g1.same s7) g2 ?_
    have s47 := s46.trans s7
    have s67 := s6.trans s7
    walk_at "rd"
    by_cases hjE : j = L
    · subst hjE
      refine if_t (bne_iff_ne.mpr hT) ?_
      walk_at "rd"
      have : vs.length ≠ j := by omega
      rw [decide_eq_false this] at q
      exact q _ s47
    · have hlt : j < L := by omega
      refine if_f (by rw [hE j hlt]; exact bne_self_eq_false' _) ?_
      walk_at "rdn"
      refine acted_pre N (O1.same s47) (s47 _ _ hch) (hl.same s67) (z1 j) hlt hL (hx.same s67) fun H9 l' s9 hl' => ?_
      have s49 := s47.trans s9
      rw [step1] at hl'
      walk_at "rdn"
      refine acted_pre N (O2.same s49) (s49 _ _ hch) ((hr'.same s67).same s9) (z2 j) hlt hL ((hx.same s67).same s9) fun Ha r' sa hr2 => ?_
      rw [step2] at hr2
      walk_at "rd"
      refine if_f rfl ?_
      walk_at "rd"
      refine if_f rfl ?_
      exact ⟨hlt, s49.trans sa, l', r', _, _, hl'.same sa, hr2, rfl⟩
  · rintro σ H4 ⟨hjL, s4, l, r, v7, v8, hl, hr', rfl⟩
    walk_at "rdn"
    refine shown_pre N (O1.same s4) (s4 _ _ hch) hl (z1 _) hjL hL fun H6 t1 s6 g1 => ?_
    have s46 := s4.trans s6
    walk_at "rdn"
    refine shown_pre N (O2.same s46) (s46 _ _ hch) (hr'.same s6) (z2 _) hjL hL fun H7 t2 s7 g2 => ?_
    refine r_neShown N.gn (g1.same s7) g2 ?_
    have h : (cm ms calm1 (vs.length % k1) != cm ms calm2 (vs.length % k2)) = decide (vs.length = L) := by
      by_cases e : vs.length = L
      · rw [decide_eq_true e, e]
        exact bne_iff_ne.mpr hT
      · rw [decide_eq_false e, hE _ (by omega)]
        exact bne_self_eq_false' _
    rw [h]
    exact q _ (s46.trans s7)
end
end K67
-- deps: CheckPart
namespace K67
open PySem PySem.Spec PyProof.Rows L2
/-- a method of the text: where it stands -/
structure Mdf (K : PySem.W.Frag) (C : Addr) (m q : Str) (i j : Nat) (dvs : List V) (kws : List (Str × V)) : Prop where
  ex : ∃ f fd, FunD K m q (defArgs (inClass (top i) j)) (defBody (inClass (top i) j)) (defScope (inClass (top i) j)) dvs kws f fd ∧ PySem.W.findIn K (.ref C) m = some (some (.ref f)) ∧ PySem.W.isFn K (.ref f) = true
/-- .. that keeps a promise; Bd: how its arguments are bound -/
structure MthOk (P : Program) (w : World) (K : PySem.W.Frag) (mg : Str → Option Value) (base : Heap) (k : Nat) (C : Addr) (m : Str) (ps : List Str) (sp : Sp) (Bd : FuncData → Prop) : Prop where
  ex : ∃ f fd, FnOk P w K mg base CX0 k f fd ps sp ∧ PySem.W.findIn K (.ref C) m = some (some (.ref f)) ∧ PySem.W.isFn K (.ref f) = true ∧ Bd fd
section
variable {P : Program} {w : World} {K : PySem.W.Frag} {mg : Str → Option Value} {base : Heap} {D : Adr}
theorem mk_mth {C : Addr} {m q : Str} {i j : Nat} {dvs : List V} {kws : List (Str × V)} {N ps : List Str} {k : Nat} {sp : Sp} {Bd : FuncData → Prop} (F : Mdf K C m q i j dvs kws) (S : FnScope N ps (defScope (inClass (top i) j))) (len : ∀ vs H Q E, sp vs H Q E → vs.length = ps.length)
    (hbody : ∀ (f : Addr) (cdv : Value) (A : Around) (outer : List Env) (s : Shared) (H : Hp) (vs : List V) (Q : VK) (E : XK), Room k (A.deeper (envOfC q (defScope (inClass (top i) j)) s.heap.objs.size f cdv)) → sp vs H Q E →
      ∃ t, PSs (cxOf CX0 P w K mg base N q (defScope (inClass (top i) j)) f cdv A outer s H E).nox (defBody (inClass (top i) j)) t ∧ t { nx := fun _ H' => Q .non H', rt := Q } (start N vs) H)
    (hbd : ∀ f fd, FunD K m q (defArgs (inClass (top i) j)) (defBody (inClass (top i) j)) (defScope (inClass (top i) j)) dvs kws f fd → Bd fd) : MthOk P w K mg base (k + 1) C m ps sp Bd := by
  obtain ⟨f, fd, F, h1, h2⟩ := F.ex
  refine ⟨f, fd, F.ok S len fun cdv A outer s H vs Q E hr h => ?_, h1, h2, hbd f fd F⟩
  obtain ⟨t, g1, g2⟩ := hbody f cdv A outer s H vs Q E hr h
  exact ⟨t, g1.nox, g2⟩
abbrev sp_is_name_or_none (K : PySem.W.Frag) (D : Adr) : Sp := Sp1 fun a H Q => (a = .non ∧ Q (.bl true) H) ∨ (∃ z, a = .str z ∧ Good z ∧ ∀ H', Same H H' → Q (.bl true) H') ∨ (a = .str "timeout" ∧ Q (.bl false) H)
theorem sc_is_name_or_none : FnScope ["value"] ["value"] (defScope (top 24)) := ⟨rfl, rfl, rfl, by decide +kernel, rfl, by decide +kernel, by decide +kernel⟩
theorem ok_is_name_or_none (F : Df K mg "is_name_or_none" 24) (cis_name : Cal P w K mg base 1 "is_name" (sp_is_name K D)) : Cal P w K mg base 2 "is_name_or_none" (sp_is_name_or_none K D) := by
  have sc := sc_is_name_or_none
  refine mk_cal F sc len1 (fun _ _ _ _ _ _ us hl => match us, hl with | [_], _ => rfl) (fun f cdv A outer s H vs Q E hr h => ?_)
  obtain ⟨a0, rfl, h⟩ := h
  refine ⟨_, (pss_one (ps_ret (pe_or (pe_cmpR op_is0 (pv 0) pe_non (nomark _)) (pe_one (pe_c cis_name hr (by decide) rfl (pa_cons (pv 0) pa_nil)))))), ?_⟩
  rcases h with ⟨rfl, q⟩ | ⟨z, rfl, gz, q⟩ | ⟨rfl, q⟩
  · walk_at "rd"
    refine if_t rfl ?_
    exact q
  · walk_at "rd"
    refine if_f rfl ?_
    walk_at "rd"
    exact .inl ⟨z, rfl, gz, q⟩
  · walk_at "rd"
    refine if_f rfl ?_
    walk_at "rd"
    exact .inr ⟨rfl, q⟩
/-- a rule's fields that the text takes -/
structure RowOk (m h mv th : Str) (snd : V) : Prop where
  m : Good m
  h : h = "timeout" ∨ Good h
  mv : mv = "down" ∨ mv = "stay"
  th : Good th
  snd : snd = .non ∨ ∃ z, snd = .str z ∧ Good z
def allT : List Str := (["any", "same", "older", "below"] : List Str) ++ (["any", "have", "lack", "held", "better", "meet", "none"] : List Str)
def allM : List Str := (["stay", "down", "there"] : List Str) ++ (["stay", "take", "pick", "drop"] : List Str)
abbrev sp_are_fields (K : PySem.W.Frag) (D : Adr) : Sp := Sp6 fun a b c d e f H Q => ∃ m h mv th snd, a = .str m ∧ b = .str h ∧ c = .str "any" ∧ d = .str th ∧ e = .str mv ∧ f = snd ∧ RowOk m h mv th snd ∧ ∀ H', Same H H' → Q (.bl true) H'
theorem nm_or {z : V} {H : Hp} {Q : VK} (h : z = .non ∨ ∃ y, z = .str y ∧ Good y) (q : ∀ H', Same H H' → Q (.bl true) H') : sp_is_name_or_none K D [z] H Q E0 := by
  refine sp1 ?_
  rcases h with h | ⟨y, e, g⟩
  · exact .inl ⟨h, q H (Same.refl _)⟩
  · exact .inr (.inl ⟨y, e, g, q⟩)
theorem r_catT {a b : Addr} {xs ys : List Str} {H : Hp} {Q : VK} (ha : SqT K H a (xs.map V.str)) (hb : SqT K H b (ys.map V.str)) (hx : xs ≠ []) (hy : ys ≠ []) (hz : xs.length + ys.length ≤ 1000) (q : ∀ p, H p = none → Q (.ref p) (upd H p (.tup ((xs ++ ys).map V.str)))) : rCatT K (.ref a) (.ref b) H Q := by
  refine ⟨a, b, _, _, rfl, rfl, ha, hb, fun z => hx (List.map_eq_nil_iff.mp z), szK (by rw [List.length_map, List.length_map]; exact hz), fun z => absurd (List.map_eq_nil_iff.mp z) hy, fun _ p hp => ?_⟩
  rw [← List.map_append]
  exact q p hp
theorem sc_are_fields : FnScope ["mode", "heard", "which", "then", "move", "send"] ["mode", "heard", "which", "then", "move", "send"] (defScope (top 25)) := ⟨rfl, rfl, rfl, by decide +kernel, rfl, by decide +kernel, by decide +kernel⟩
theorem ok_are_fields (F : Df K mg "are_fields" 25) (T : Txt mg D) (Z : Ks K D) (cis_name_or_none : Cal P w K mg base 2 "is_name_or_none" (sp_is_name_or_none K D)) (cis_word : Cal P w K mg base 1 "is_word" (sp_is_word K D)) : Cal P w K mg base 3 "are_fields" (sp_are_fields K D) := by
  have sc := sc_are_fields
  refine mk_cal F sc len6 (fun _ _ _ _ _ _ us hl => match us, hl with | [_, _, _, _, _, _], _ => rfl) (fun f cdv A outer s H vs Q E hr h => ?_)
  obtain ⟨a0, a1, a2, a3, a4, a5, rfl, h⟩ := h
  refine ⟨_, (pss_cons (ps_if (PW.pt (pw_or (pt_not (pt_val (pe_c cis_name_or_none hr (by decide) rfl (pa_cons (pv 0) pa_nil)))) (pw_or (pt_not (pt_val (pe_c cis_name_or_none hr (by decide) rfl (pa_cons (pv 3) pa_nil)))) (pw_or1 (pt_not (pt_val (pe_c cis_name_or_none hr (by decide) rfl (pa_cons (pv 5) pa_nil)))))))) (pss_one (ps_ret pe_bl)) pss_nil)
  (pss_cons (ps_if (PW.pt (pw_and (pt_not (pt_val (pe_c cis_name_or_none hr (by decide) rfl (pa_cons (pv 1) pa_nil)))) (pw_and1 (pt_not (pt_val (pe_c cis_word hr (by decide) rfl (pa_cons (pv 1) (pa_cons (pe_tup (pa_cons (pe_gc rfl T.TIMEOUT) pa_nil)) pa_nil)))))))) (pss_one (ps_ret pe_bl)) pss_nil)
  (pss_one (ps_ret (pe_and (pe_c cis_word hr (by decide) rfl (pa_cons (pv 2) (pa_cons (pe_op op_catT (pe_gc rfl T.CALLER_TESTS) (pe_gc rfl T.HOST_TESTS)) pa_nil))) (pe_one (pe_c cis_word hr (by decide) rfl (pa_cons (pv 4) (pa_cons (pe_op op_catT (pe_gc rfl T.CALLER_MOVES) (pe_gc rfl T.HOST_MOVES)) pa_nil))))))))), ?_⟩
  obtain ⟨m, h, mv, th, snd, rfl, rfl, rfl, rfl, rfl, rfl, G, q⟩ := h
  walk_at "rdn"
  refine nm_or (.inr ⟨m, rfl, G.m⟩) fun H1 s1 => ?_
  walk_at "rd"
  refine if_f rfl ?_
  walk_at "rdn"
  refine nm_or (.inr ⟨th, rfl, G.th⟩) fun H2 s2 => ?_
  walk_at "rd"
  refine if_f rfl ?_
  walk_at "rdn"
  refine nm_or G.snd fun H3 s3 => ?_
  walk_at "rd"
  refine if_f rfl ?_
  have s13 := (s1.trans s2).trans s3
  have rest : ∀ {H4 : Hp} {Q' : VK}, Same H H4 → True := fun _ => trivial
  walk_at "rd"
  rcases G.h with rfl | gh
  · refine .inr (.inr ⟨rfl, ?_⟩)
    walk_at "rd"
    refine if_t rfl ?_
    walk_at "rd"
    refine ⟨sz1, fun p hp => ?_⟩
    have s4 := same_upd' (o := .tup [.str "timeout"]) s13 hp
    walk_at "rd"
    refine ⟨_, p, ["timeout"], rfl, rfl, .of upd_same, ?_⟩
    walk_at "rd"
    refine if_f (by decide +kernel) ?_
    walk_at "rd"
    refine r_catT (Z.ct _) (Z.ht _) (by decide) (by decide) (by decide) fun p2 hp2 => ?_
    have s5 := same_upd' (o := .tup (allT.map V.str)) s4 hp2
    walk_at "rd"
    refine ⟨_, p2, _, rfl, rfl, .of upd_same, ?_⟩
    walk_at "rd"
    refine if_t (by decide +kernel) ?_
    walk_at "rd"
    refine r_catT (Z.cm _) (Z.hm _) (by decide) (by decide) (by decide) fun p3 hp3 => ?_
    have s6 := same_upd' (o := .tup (allM.map V.str)) s5 hp3
    walk_at "rd"
    refine ⟨_, p3, _, rfl, rfl, .of upd_same, ?_⟩
    rw [show decide (mv ∈ ((["stay", "down", "there"] : List Str) ++ (["stay", "take", "pick", "drop"] : List Str))) = true by rcases G.mv with e | e <;> subst e <;> decide +kernel]
    exact q _ s6
  · refine .inr (.inl ⟨h, rfl, gh, fun H4 s4' => ?_⟩)
    have s4 := s13.trans s4'
    walk_at "rd"
    refine if_f rfl ?_
    walk_at "rd"
    refine if_f rfl ?_
    walk_at "rd"
    refine r_catT (Z.ct _) (Z.ht _) (by decide) (by decide) (by decide) fun p2 hp2 => ?_
    have s5 := same_upd' (o := .tup (allT.map V.str)) s4 hp2
    walk_at "rd"
    refine ⟨_, p2, _, rfl, rfl, .of upd_same, ?_⟩
    walk_at "rd"
    refine if_t (by decide +kernel) ?_
    walk_at "rd"
    refine r_catT (Z.cm _) (Z.hm _) (by decide) (by decide) (by decide) fun p3 hp3 => ?_
    have s6 := same_upd' (o := .tup (allM.map V.str)) s5 hp3
    walk_at "rd"
    refine ⟨_, p3, _, rfl, rfl, .of upd_same, ?_⟩
    rw [show decide (mv ∈ ((["stay", "down", "there"] : List Str) ++ (["stay", "take", "pick", "drop"] : List Str))) = true by rcases G.mv with e | e <;> subst e <;> decide +kernel]
    exact q _ s6
end
end K67
-- deps: Rules
namespace K67
open PySem PySem.Spec PyProof.Rows L2
abbrev ruleP : List Str := ["self", "mode", "heard", "which", "then", "move", "send"]
abbrev ruleD : List V := [.str "any"]
abbrev ruleK : List (Str × V) := [("then", .non), ("move", .str "stay"), ("send", .non)]
abbrev ruleKs : List Str := ["then", "move", "send"]
def ruleBd (K : PySem.W.Frag) (fd : FuncData) : Prop := KBn K fd ruleP 4 ruleKs (fun us ws => us ++ ws) (fun vs zs => vs ++ zs)
/-- everything but what stands at x -/
def Off (x : Addr) (H H' : Hp) : Prop := ∀ a o, H a = some o → a ≠ x → H' a = some o
section
variable {P : Program} {w : World} {K : PySem.W.Frag} {mg : Str → Option Value} {base : Heap} {D : Adr}
theorem r_sfld {ta tv : TE} {f : Str} {E : Ends} {σ : L2.St} {H : Hp} (q : tv σ H fun y H1 => ta σ H1 fun x H2 => ∃ a C dx fs, x = .ref a ∧ H2 a = some (.ins C dx fs) ∧ Cls K C ∧ NoAttr K C f ∧ fs.length < 1000 ∧ E.nx σ (upd H2 a (.ins C dx (putF f y fs)))) : sFld K ta tv f E σ H := q
def sp_Rule_init (D : Adr) : Sp := fun vs H Q _ => ∃ x dx m h mv th snd, vs = [.ref x, .str m, .str h, .str "any", .str th, .str mv, snd] ∧ H x = some (.ins D.cr dx []) ∧ RowOk m h mv th snd ∧ ∀ H', Off x H H' → RuleAt D.cr H' x (Row m h mv th snd) → Q .non H'
theorem ok_Rule_init (F : Mdf K D.cr "__init__" "Rule.__init__" 26 0 ruleD ruleK) (C : Cls K D.cr) (n : NoAttr K D.cr "fields") (care_fields : Cal P w K mg base 3 "are_fields" (sp_are_fields K D)) : MthOk P w K mg base 4 D.cr "__init__" ruleP (sp_Rule_init D) (ruleBd K) := by
  have sc : FnScope ruleP ruleP (defScope (inClass (top 26) 0)) := ⟨rfl, rfl, rfl, by decide +kernel, rfl, by decide +kernel, by decide +kernel⟩
  refine mk_mth F sc (fun vs H Q E h => by obtain ⟨x, dx, m, h, mv, th, snd, rfl, _⟩ := h; rfl) (fun f cdv A outer s H vs Q E hr h => ?_) ?_
  · obtain ⟨x, dx, m, h, mv, th, snd, rfl, hx, G, q⟩ := h
    refine ⟨_, (pss_cons (ps_if (pt_not (pt_val (pe_c care_fields hr (by decide) rfl (pa_cons (pv 1) (pa_cons (pv 2) (pa_cons (pv 3) (pa_cons (pv 4) (pa_cons (pv 5) (pa_cons (pv 6) pa_nil))))))))) (pss_one ps_never) pss_nil)
  (pss_one (ps_fld (pv 0) (pe_tup (pa_cons (pv 1) (pa_cons (pv 2) (pa_cons (pv 3) (pa_cons (pv 4) (pa_cons (pv 5) (pa_cons (pv 6) pa_nil))))))) rfl))), ?_⟩
    walk_at "rd"
    refine ⟨m, h, mv, th, snd, rfl, rfl, rfl, rfl, rfl, rfl, G, fun H1 s1 => ?_⟩
    walk_at "rd"
    refine if_f rfl ?_
    walk_at "rd"
    dsimp only
    refine r_sfld ?_
    walk_at "rd"
    refine ⟨sz6, fun t ht => ?_⟩
    have s2 := same_upd' (o := .tup (Row m h mv th snd)) s1 ht
    have et : (upd H1 t (.tup (Row m h mv th snd))) t = some (.tup (Row m h mv th snd)) := upd_same
    walk_at "rd"
    refine ⟨x, D.cr, dx, [], rfl, s2 _ _ hx, C, n, by decide, ?_⟩
    have nt : t ≠ x := fun e => by rw [e, s1 _ _ hx] at ht; cases ht
    refine q _ (fun a o e ne => ?_) ⟨dx, t, _, upd_same, rfl, by rw [upd_ne nt]; exact et⟩
    rw [upd_ne ne]
    exact s2 _ _ e
  · intro f fd F
    obtain ⟨its, mv, h⟩ := F.kbinds (ps := ruleP) 4 ruleKs [] (fun us _ _ ws => us ++ ws) (by simp) (by simp) (fun _ z => nomatch z) (fun r1 _ _ r4 => r1.append r4) (fun T D' doc pm an cdv ct us its mv ws l1 l2 l3 l4 => by
      match us, its, mv, ws, l1, l2, l3, l4 with
      | [a, b, c, d], [e], [], [x, y, z], _, _, _, _ => exact ⟨_, rfl, rfl⟩)
    exact h
/-- a rule is made -/
structure RuleMk (P : Program) (w : World) (K : PySem.W.Frag) (mg : Str → Option Value) (base : Heap) (D : Adr) : Prop where
  ex : ∃ f fd, FnOk P w K mg base CX0 4 f fd ruleP (sp_Rule_init D) ∧ Mk K D.cr f ∧ ruleBd K fd
theorem mk_rule (O : MthOk P w K mg base 4 D.cr "__init__" ruleP (sp_Rule_init D) (ruleBd K)) (m1 : PySem.W.makesIn K D.cr = true) (m2 : PySem.W.keepIn K (.ref D.cr) = true) : RuleMk P w K mg base D := by
  obtain ⟨f, fd, F, h1, h2, h3⟩ := O.ex
  exact ⟨f, fd, F, ⟨m1, h1, h2, m2⟩, h3⟩
def tRule (D : Adr) (t tk : TA) : TE := tMakeK D.cr 3 3 (sp_Rule_init D) (fun vs zs => vs ++ zs) E0 t tk
theorem pe_rule {X : Cx} {p pos : Pos} {e : Expr} {es : List Expr} {kws : List Keyword} {t tk : TA} (M : RuleMk X.prog X.w X.K X.mg X.base D) (T : Gv X.mg "Rule" (.ref D.cr)) (hr : Room 5 X.A) (hg : Gl X "Rule") (ha : PA X (e :: es) t) (hkw : PK X kws tk)
    (hall : (backToKw pos (keywordEach kws X.env)).all (·.1.isSome) = true := by rfl) (hks : (backToKw pos (keywordEach kws X.env)).filterMap (·.1) = ruleKs := by rfl)
    (he : starEach (e :: es) X.env = (false, eval e X.env) :: starEach es X.env := by rfl) (hpl : ((backTo pos (starEach (e :: es) X.env)).any (·.1) || (backToKw pos (keywordEach kws X.env)).any (·.1.isNone)) = false := by rfl) :
    PE X (.Call (.Name "Rule" p) (e :: es) kws pos) (tRule D t tk) := by
  obtain ⟨f, fd, F, M, b⟩ := M.ex
  obtain ⟨u, hm, r⟩ := T
  obtain rfl : u = Value.ref D.cr := r
  exact pe_makeK (ks := ruleKs) M F hr hg hm b pass0 ha hkw hall hks (by decide) he hpl
def MkAt (D : Adr) (vs zs : List V) (H : Hp) (Q : VK) : Prop := vs.length = 3 ∧ zs.length = 3 ∧ ∀ x dx, H x = none → H dx = none → dx ≠ x → sp_Rule_init D ((V.ref x :: vs) ++ zs) (upd (upd H dx (.own x)) x (.ins D.cr dx [])) (fun v H3 => v = .non ∧ Q (.ref x) H3) E0
theorem r_rule {t tk : TA} {σ : L2.St} {H : Hp} {Q : VK} (q : t σ H fun vs H1 => tk σ H1 fun zs H2 => MkAt D vs zs H2 Q) : tRule D t tk σ H Q := q
theorem r_mkat {m h mv th : Str} {snd : V} {H : Hp} {Q : VK} (G : RowOk m h mv th snd) (q : ∀ H' x, Same H H' → RuleAt D.cr H' x (Row m h mv th snd) → Q (.ref x) H') : MkAt D [.str m, .str h, .str "any"] [.str th, .str mv, snd] H Q := by
  refine ⟨rfl, rfl, fun x dx hx hdx ne => ⟨x, dx, m, h, mv, th, snd, rfl, upd_same, G, fun H' o r => ⟨rfl, q H' x (fun a u e => ?_) r⟩⟩⟩
  have n1 : a ≠ x := ne_of_none e hx
  refine o a u ?_ n1
  rw [upd_ne n1, upd_ne (ne_of_none e hdx)]
  exact e
end
end K67
-- deps: RuleMake
namespace K67
open PySem PySem.Spec PyProof.Rows L2
/-! ### len(set(texts)), texts all different -/
section
variable {prog : Program} {w : World} {A : Around}
theorem take_new {xs : List Str} (nd : xs.Nodup) {i : Nat} (h : i < xs.length) : (xs.take i).any (· == xs[i]) = false := by
  refine List.any_eq_false.mpr fun y hy e => ?_
  obtain ⟨j, hj⟩ := List.mem_iff_getElem?.mp hy
  have hji : j < i := by
    have := (List.getElem?_eq_some_iff.mp hj).1
    rw [List.length_take] at this
    omega
  rw [List.getElem?_take, if_pos hji] at hj
  have e' : y = xs[i] := eq_of_beq e
  rw [e'] at hj
  exact absurd (nd_ix nd hj (List.getElem?_eq_getElem h)) (by omega)
theorem take_more {xs : List Str} {i : Nat} (h : i < xs.length) (y : Str) : (xs.take (i + 1)).any (· == y) = ((xs.take i).any (· == y) || decide (y = xs[i])) := by
  rw [List.take_add_one, List.getElem?_eq_getElem h, List.any_append]
  congr 1
  show (xs[i] == y || false) = decide (y = xs[i])
  rw [Bool.or_false]
  by_cases e : y = xs[i]
  · rw [e, decide_eq_true rfl]
    exact beq_self_eq_true _
  · rw [decide_eq_false e]
    exact beq_eq_false_iff_ne.mpr fun z => e z.symm
theorem fill_set {Rr : Result → Shared → Prop} {it : Addr} {fp wr : List Addr} {G : Array GenState → Array GenState → Prop} {n : Nat} {Pv : Nat → Value → Prop} {St : Nat → Shared → Prop} (W : WalksS prog w A.in1 it fp wr G n Pv St) (a : Addr) (af : a ∉ fp)
    (xs : List Str) (nd : xs.Nodup) (ln : xs.length = n) (bd : n + 1 < scanBound) (hv : ∀ i v (h : i < xs.length), Pv i v → ∃ t, v = .str xs[i] t) :
    ∀ (k i : Nat) (s : Shared), n = i + k → St i s → s.heap.SetOf (PySem.strKind prog w) a (fun y => (xs.take i).any (· == y)) i →
      (∀ s', Moved (a :: wr) G s s' → s'.heap.SetOf (PySem.strKind prog w) a (fun y => (xs.take n).any (· == y)) n → Rr (.ok (.ret .none)) s') →
      codeAny (model prog w) A (.builtin "set.update.loop" ⟨[.ref a, .ref it], []⟩) Rr s := by
  have aw : a ∉ wr := fun z => af (W.sub _ z)
  have at' : ∀ {s s' : Shared} {S : Str → Bool} {m : Nat}, Moved wr G s s' → s.heap.SetOf (PySem.strKind prog w) a S m → s'.heap.SetOf (PySem.strKind prog w) a S m := fun mv hs =>
    let ⟨o, es, ep, t, ho, r⟩ := hs; ⟨o, es, ep, t, mv.heap a _ aw ho, r⟩
  intro k
  induction k with
  | zero =>
    intro i s e st hs fin
    obtain rfl : n = i := e
    refine codeAny_builtin PyProof.Rows.F.entry_set_update_loop ?_
    rw [PySem.Around.under_plainId (id := "set.update.loop") PyProof.Rows.F.plain_set_update_loop]
    refine wpAny_bind (W.done s _ _ st fun s' mv => ?_)
    exact wpAny_pure (fin s' (mv.mono fun b hb => List.mem_cons_of_mem a hb) (at' mv hs))
  | succ k ih =>
    intro i s e st hs fin
    have lt : i < xs.length := by omega
    refine codeAny_builtin PyProof.Rows.F.entry_set_update_loop ?_
    rw [PySem.Around.under_plainId (id := "set.update.loop") PyProof.Rows.F.plain_set_update_loop]
    refine wpAny_bind (W.item i s _ _ (by omega) st fun v s' pv st' mv => ?_)
    obtain ⟨t, rfl⟩ := hv i v lt pv
    have hs' := at' mv hs
    refine wpAny_bind (wpAny_holding ?_)
    unfold setAdd
    refine wpAny_holding (wpAny_bind ((PySem.strKind prog w).pyHash (k := xs[i]) (strKind_is _ _ _ _) ?_))
    refine wpAny_setAddHashed_of (knd := PySem.strKind prog w) (k := xs[i]) (s := { s' with toks := s'.toks + 1 }) (strKind_is _ _ _ _) rfl hs' (by omega) fun h' sb hs2 => ?_
    have hs3 : h'.SetOf (PySem.strKind prog w) a (fun y => (xs.take (i + 1)).any (· == y)) (i + 1) := PyProof.Rows.SetOf_congr hs2 (fun y => (take_more lt y).symm) (by rw [take_new nd lt]; rfl)
    have off : ∀ b ∈ fp, b ≠ a := fun b hb z => af (z ▸ hb)
    refine wpAny_pure ⟨plainId_quiet PyProof.Rows.F.plain_set_update_loop _, ih (i + 1) _ (by omega) (W.frame _ s' _ _ st' (Nat.le_succ _) fun b hb o eo => (sb.2 b (off b hb)).trans eo) hs3 fun s2 mv2 hs4 => fin s2 ?_ hs4⟩
    exact Moved.trans W.gtrans ((mv.mono fun b hb => List.mem_cons_of_mem a hb).then_heap (Nat.le_succ _) fun b o nb eo => (sb.2 b fun z => nb (z ▸ List.mem_cons_self ..)).trans eo) mv2
/-- what the new set is like, and the heap below it -/
def SetDone (prog : Program) (w : World) (s : Shared) (xs : List Str) (h' : Heap) : Prop := h'.SetOf (PySem.strKind prog w) s.heap.objs.size (fun y => (xs.take xs.length).any (· == y)) xs.length ∧ ∀ b o, b < s.heap.objs.size → s.heap.get? b = some o → h'.get? b = some o
theorem text_at {us : List Value} {xs : List Str} (h : StrsAre us xs) : ∀ i v (hi : i < xs.length), us[i]? = some v → ∃ t, v = .str xs[i] t := by
  induction h with
  | nil =>
    intro i v hi
    exact absurd hi (Nat.not_lt_zero i)
  | cons x t _ ih =>
    intro i v hi e
    cases i with
    | zero => exact ⟨t, (Option.some.inj e).symm⟩
    | succ i => exact ih i v (Nat.lt_of_succ_lt_succ hi) e
/-- the body of its __init__, the empty set freshly laid -/
theorem fill_new {E : Value → Shared → Prop} {s : Shared} {l : Addr} {items : Array Value} {xs : List Str} (calm : A.handled = none) (hl : s.heap.IsList l items) (hx : StrsAre items.toList xs) (nd : xs.Nodup) (few : xs.length < 1000) (led : Bool) :
    wpAny (model prog w) A.in1 (Builtin.«set.__init__» ⟨[.ref s.heap.objs.size, .ref l], []⟩) (GQ.FinOf prog w A (wants (fun r s2 => r = .none ∧ ∃ h' tk, s2 = { s with heap := h', toks := tk } ∧ SetDone prog w s xs h') E))
      (fun e s' => wants (fun r s2 => r = .none ∧ ∃ h' tk, s2 = { s with heap := h', toks := tk } ∧ SetDone prog w s xs h') E (.error e) s') { s with heap := s.heap.push { cls := .type "set", dict := none, data := .set #[] 0 (.fresh 0 0 led) } } := by
  obtain ⟨⟨c0, d0, dat, sl0⟩, ho, hc, m, hd⟩ := hl
  simp only at hc hd
  subst hc hd
  have hl0 : l < s.heap.objs.size := Heap.lt_size ho
  have put := Heap.get?_push_size s.heap (o := { cls := .type "set", dict := none, data := .set #[] 0 (.fresh 0 0 led) }) rfl
  have keepL : (s.heap.push { cls := .type "set", dict := none, data := .set #[] 0 (.fresh 0 0 led) }).get? l = some { cls := .type "list", dict := d0, data := .seq items m, slots := sl0 } := Heap.get?_push_of_some _ ho
  have isL : (s.heap.push { cls := .type "set", dict := none, data := .set #[] 0 (.fresh 0 0 led) }).IsList l items := ⟨_, keepL, rfl, m, rfl⟩
  have f1 := PySem.F.sub_list_set
  have f2 := PySem.F.sub_list_frozenset
  have f3 : (Value.type "list" == Value.type "dict") = false := by decide
  unfold Builtin.«set.__init__» noKeywords Builtin.Frozenset.updateFrom
  generalize ePI : pyIter = PI
  wp_walk
  subst ePI
  refine wpAny_pyIter_list isL (wpAny_bind (wpAny_runValue ?_))
  have c3 : A.in1.in1.handled = none := by simp [calm]
  have nI : l ≠ (s.heap.push { cls := .type "set", dict := none, data := .set #[] 0 (.fresh 0 0 led) }).objs.size := by
    rw [Heap.size_push]
    exact Nat.ne_of_lt (Nat.lt_succ_of_lt hl0)
  have sz : xs.length = items.size := by rw [← StrsAre.len_eq hx, Array.length_toList]
  refine fill_set (n := items.size) ((Walks.list c3 _ l nI items).toS) s.heap.objs.size ?notIn xs nd sz (by unfold scanBound; omega) (fun i v hi e => text_at hx i v hi (by rw [Array.getElem?_toList]; exact e)) items.size 0 _ (by omega) ?st ?start fun s2 mv hs => ?done
  case st => exact ⟨⟨_, Heap.get?_push_size _ rfl, rfl, rfl⟩, isL.push _⟩
  case notIn =>
    rw [Heap.size_push]
    simp only [List.mem_cons, List.not_mem_nil, or_false, not_or]
    exact ⟨Nat.ne_of_lt (Nat.lt_succ_self _), Nat.ne_of_gt hl0⟩
  case start =>
    exact PyProof.Rows.SetOf_congr ((PyProof.Rows.setObjOf_fresh (knd := PySem.strKind prog w) led).setOf (Heap.get?_push_of_some _ put) (by unfold scanBound; omega)) (fun _ => rfl) rfl
  case done =>
    obtain ⟨h2, g2, d2, k2, o2⟩ := s2
    obtain rfl : g2 = s.gens := mv.gens
    obtain rfl : d2 = s.drawn := mv.drawn
    obtain rfl : o2 = s.os := mv.os
    rw [← sz] at hs
    refine wpAny_pure (wpAny_pure ⟨rfl, h2, k2, rfl, hs, fun b o hb e => ?_⟩)
    refine mv.heap b o ?_ (Heap.get?_push_of_some _ (Heap.get?_push_of_some _ e))
    rw [Heap.size_push]
    simp only [List.mem_cons, List.not_mem_nil, or_false, not_or]
    exact ⟨Nat.ne_of_lt hb, Nat.ne_of_lt (Nat.lt_succ_of_lt hb)⟩
set_option maxHeartbeats 8000000 in
theorem set_texts {E Q : Value → Shared → Prop} {s : Shared} {l : Addr} {items : Array Value} {xs : List Str} (calm : A.handled = none) (hl : s.heap.IsList l items) (hx : StrsAre items.toList xs) (nd : xs.Nodup) (few : xs.length < 1000)
    (h : ∀ h' tk, SetDone prog w s xs h' → Q (.ref s.heap.objs.size) { s with heap := h', toks := tk }) : wpAny (model prog w) A (call (.type "set") [.ref l]) Q E s := by
  obtain ⟨c0, c1, r1⟩ := PySem.F.called_set.mro
  have r2 := PySem.F.called_set.made
  have r3 := PySem.F.called_set.sub
  have r4 := PySem.F.called_set.notType
  have r5 := PySem.F.called_set.canCreate
  have r6 := PySem.F.typeCall_set_1 (.ref l)
  refine wpAny_call (codeAny_of_tree (wpAny_pure ⟨Code.quiet_builtin _ (by decide +kernel), codeAny_builtin PySem.F.entry_type_call ?_⟩))
  rw [Around.under_plain (weight_type_call_type "set" [.ref l] []) rfl]
  repeat (any_goals (first | assumption | wp_step))
  refine codeAny_mono (code_set_new_1 (E := E) (.ref l) (Q₁ := fun v s1 => ∃ led : Bool, v = .ref s.heap.objs.size ∧ s1 = { s with heap := s.heap.push { cls := .type "set", dict := none, data := .set #[] 0 (.fresh 0 0 led) } }) fun led => ⟨led, rfl, rfl⟩) fun r s1 hr => ?_
  match r, hr with
  | .error e, hr => exact hr
  | .ok .next, hr => exact False.elim hr
  | .ok .brk, hr => exact False.elim hr
  | .ok .cont, hr => exact False.elim hr
  | .ok (.ret v), hr =>
    obtain ⟨led, rfl, rfl⟩ := hr
    have isS : Shared.TypeIs { s with heap := s.heap.push { cls := .type "set", dict := none, data := .set #[] 0 (.fresh 0 0 led) } } (.ref s.heap.objs.size) "set" := ⟨_, Heap.get?_push_size _ rfl, rfl⟩
    have r7 := PySem.F.called_set.init.lookup
    have r8 := PySem.F.called_set.init.bind (.ref s.heap.objs.size)
    repeat (any_goals (first | assumption | wp_step))
    refine codeAny_mono (codeAny_call_builtin PySem.F.called_set.init.plain PySem.F.entry_set_init (check_set_init_1 isS (fill_new (prog := prog) (w := w) (A := A.in1) (E := E) (by simp [calm]) hl hx nd few led))) fun r2 s2 hr2 => ?_
    match r2, hr2 with
    | .error e, hr2 => exact hr2
    | .ok .next, hr2 => exact False.elim hr2
    | .ok .brk, hr2 => exact False.elim hr2
    | .ok .cont, hr2 => exact False.elim hr2
    | .ok (.ret v2), hr2 =>
      obtain ⟨rfl, h', tk, rfl, hd⟩ := hr2
      repeat (any_goals (first | assumption | wp_step))
      exact h _ _ hd
end
section
variable {X : Cx}
/-- len(set(xs)), the texts of the list xs all different -/
def tSetN (K : PySem.W.Frag) (ta : TE) : TE := fun σ H Q => ta σ H fun x H1 => ∃ l, ∃ xs : List Str, x = .ref l ∧ SqL K H1 l (xs.map V.str) ∧ xs.Nodup ∧ xs.length ≤ 100 ∧ Q (.int xs.length) H1
theorem pe_lenSetN {a : Expr} {ta : TE} {p p2 q pos : Pos} (calm : X.calm = true) (g1 : Gl X "len") (m1 : X.mg "len" = none) (g2 : Gl X "set") (m2 : X.mg "set" = none) (ha : PE X a ta) (sa : starEach [a] X.env = (false, eval a X.env) :: starEach [] X.env := by rfl) :
    PE X (.Call (.Name "len" p) [.Call (.Name "set" p2) [a] [] q] [] pos) (tSetN X.K ta) := by
  refine ⟨fun pins s σ H Q I h => Call_ (ld_blt I g1 m1 boot_len (callWith_builtin1 (PyProof.Rows.args_cons (Call_ (ld_blt I g2 m2 boot_set ?_)) rfl) rfl rfl))⟩
  refine callWith_type1 (PyProof.Rows.args_cons (thn (ha.run pins s σ H _ I h) fun v s1 ⟨x, H1, I1, rx, l, xs, ex, hl, nd, few, q1⟩ => PyProof.Rows.args_nil ?_) sa) sa rfl
  subst ex
  cases rx
  obtain ⟨its, rv, pl, _⟩ := I1.list hl
  refine set_texts (I1.ok.hd calm) pl.isList (xs := xs) (by simpa using rv.strs) nd (by omega) fun h' tk ⟨so, keep⟩ => PyProof.Rows.args_nil ?_
  obtain ⟨o, es, ep, t, e1, e2, e3, _, _, _, e4, e5⟩ := so
  have I2 : Inv X pins σ H1 { s1 with heap := h', toks := tk } := I1.kept fun b o e => keep b o (Heap.lt_size e) e
  exact call_len_set e1 e2 e3 e4 (by rw [e5]; omega) ⟨.int xs.length, H1, I2.tok _, ⟨_, by rw [e5]⟩, q1⟩
theorem r_setN {K : PySem.W.Frag} {ta : TE} {σ : L2.St} {H : Hp} {Q : VK} (q : ta σ H fun x H1 => ∃ l, ∃ xs : List Str, x = .ref l ∧ SqL K H1 l (xs.map V.str) ∧ xs.Nodup ∧ xs.length ≤ 100 ∧ Q (.int xs.length) H1) : tSetN K ta σ H Q := q
end
end K67
-- deps: SetStr
namespace K67
open PySem PySem.Spec PyProof.Rows L2
section
variable {P : Program} {w : World} {K : PySem.W.Frag} {mg : Str → Option Value} {base : Heap} {D : Adr}
abbrev sp_fits_caller (K : PySem.W.Frag) (D : Adr) : Sp := Sp1 fun a H Q => ∃ r m h th z, a = .ref r ∧ RuleAt D.cr H r (Row m h "down" th (.str z)) ∧ Q (.bl true) H
theorem sc_fits_caller : FnScope ["rule"] ["rule"] (defScope (top 27)) := ⟨rfl, rfl, rfl, by decide +kernel, rfl, by decide +kernel, by decide +kernel⟩
theorem ok_fits_caller (F : Df K mg "fits_caller" 27) (T : Txt mg D) (Z : Ks K D) (R : RuleC P w K mg base D.cr) : Cal P w K mg base 3 "fits_caller" (sp_fits_caller K D) := by
  have sc := sc_fits_caller
  refine mk_cal F sc len1 (fun _ _ _ _ _ _ us hl => match us, hl with | [_], _ => rfl) (fun f cdv A outer s H vs Q E hr h => ?_)
  obtain ⟨a0, rfl, h⟩ := h
  refine ⟨_, (pss_cons (ps_if (PW.pt (pw_or (pt_cmpR op_notIn_seq (pe_R2 R (hr.mono (by decide)) (pv 0)) (pe_gc rfl T.CALLER_TESTS) rfl) (pw_or1 (pt_cmpR op_notIn_seq (pe_R4 R (hr.mono (by decide)) (pv 0)) (pe_gc rfl T.CALLER_MOVES) rfl)))) (pss_one (ps_ret pe_bl)) pss_nil)
  (pss_cons (ps_if (PW.pt (pw_and (pt_cmpR op_eq (pe_R4 R (hr.mono (by decide)) (pv 0)) pe_str (nomark _)) (pw_and1 (pt_cmpR op_is0 (pe_R5 R (hr.mono (by decide)) (pv 0)) pe_non (nomark _))))) (pss_one (ps_ret pe_bl)) pss_nil)
  (pss_one (ps_ret (pe_or (pe_cmpR op_ne (pe_R4 R (hr.mono (by decide)) (pv 0)) pe_str (nomark _)) (pe_one (pe_cmpR op_eq (pe_R2 R (hr.mono (by decide)) (pv 0)) pe_str (nomark _)))))))), ?_⟩
  obtain ⟨r, m, h, th, z, rfl, hR, q⟩ := h
  walk_at "rd"
  refine r_R hR rfl ?_
  walk_at "rd"
  refine r_ninS (.inr (Z.ct _)) ?_
  walk_at "rd"
  refine if_f (by decide +kernel) ?_
  walk_at "rd"
  refine r_R hR rfl ?_
  walk_at "rd"
  refine r_ninS (.inr (Z.cm _)) ?_
  walk_at "rd"
  refine if_f (by decide +kernel) ?_
  walk_at "rd"
  refine r_R hR rfl ?_
  walk_at "rd"
  refine if_t (by decide +kernel) ?_
  walk_at "rd"
  refine r_R hR rfl ?_
  walk_at "rd"
  refine if_f rfl ?_
  walk_at "rd"
  refine r_R hR rfl ?_
  walk_at "rd"
  refine if_t (by decide +kernel) ?_
  exact q
abbrev sp_fits_host (K : PySem.W.Frag) (D : Adr) : Sp := Sp1 fun a H Q => ∃ r m h th snd, a = .ref r ∧ RuleAt D.cr H r (Row m h "stay" th snd) ∧ Q (.bl true) H
theorem sc_fits_host : FnScope ["rule"] ["rule"] (defScope (top 28)) := ⟨rfl, rfl, rfl, by decide +kernel, rfl, by decide +kernel, by decide +kernel⟩
theorem ok_fits_host (F : Df K mg "fits_host" 28) (T : Txt mg D) (Z : Ks K D) (R : RuleC P w K mg base D.cr) : Cal P w K mg base 3 "fits_host" (sp_fits_host K D) := by
  have sc := sc_fits_host
  refine mk_cal F sc len1 (fun _ _ _ _ _ _ us hl => match us, hl with | [_], _ => rfl) (fun f cdv A outer s H vs Q E hr h => ?_)
  obtain ⟨a0, rfl, h⟩ := h
  refine ⟨_, (pss_cons (ps_if (PW.pt (pw_or (pt_cmpR op_notIn_seq (pe_R2 R (hr.mono (by decide)) (pv 0)) (pe_gc rfl T.HOST_TESTS) rfl) (pw_or1 (pt_cmpR op_notIn_seq (pe_R4 R (hr.mono (by decide)) (pv 0)) (pe_gc rfl T.HOST_MOVES) rfl)))) (pss_one (ps_ret pe_bl)) pss_nil)
  (pss_cons (ps_if (PW.pt (pw_and (pt_cmpR op_eq (pe_R4 R (hr.mono (by decide)) (pv 0)) pe_str (nomark _)) (pw_and1 (pt_cmpR op_notIn_seq (pe_R2 R (hr.mono (by decide)) (pv 0)) (pe_tup (pa_cons pe_str (pa_cons pe_str pa_nil))) rfl)))) (pss_one (ps_ret pe_bl)) pss_nil)
  (pss_one (ps_ret (pe_or (pe_cmpR op_ne (pe_R4 R (hr.mono (by decide)) (pv 0)) pe_str (nomark _)) (pe_one (pe_cmpR op_eq (pe_R2 R (hr.mono (by decide)) (pv 0)) pe_str (nomark _)))))))), ?_⟩
  obtain ⟨r, m, h, th, snd, rfl, hR, q⟩ := h
  walk_at "rd"
  refine r_R hR rfl ?_
  walk_at "rd"
  refine r_ninS (.inr (Z.ht _)) ?_
  walk_at "rd"
  refine if_f (by decide +kernel) ?_
  walk_at "rd"
  refine r_R hR rfl ?_
  walk_at "rd"
  refine r_ninS (.inr (Z.hm _)) ?_
  walk_at "rd"
  refine if_f (by decide +kernel) ?_
  walk_at "rd"
  refine r_R hR rfl ?_
  walk_at "rd"
  refine if_f (by decide +kernel) ?_
  walk_at "rd"
  refine if_f rfl ?_
  walk_at "rd"
  refine r_R hR rfl ?_
  walk_at "rd"
  refine if_t (by decide +kernel) ?_
  exact q
abbrev sp_fits_side (K : PySem.W.Frag) (D : Adr) : Sp := Sp2 fun a b H Q => ∃ r cal ms nm k i, a = .ref r ∧ b = .str (sideS cal) ∧ RuleAt D.cr H r (ringRow cal ms nm k i) ∧ Q (.bl true) H
theorem sc_fits_side : FnScope ["rule", "side"] ["rule", "side"] (defScope (top 29)) := ⟨rfl, rfl, rfl, by decide +kernel, rfl, by decide +kernel, by decide +kernel⟩
theorem ok_fits_side (F : Df K mg "fits_side" 29) (T : Txt mg D) (R : RuleC P w K mg base D.cr) (cfits_caller : Cal P w K mg base 3 "fits_caller" (sp_fits_caller K D)) (cfits_host : Cal P w K mg base 3 "fits_host" (sp_fits_host K D)) : Cal P w K mg base 4 "fits_side" (sp_fits_side K D) := by
  have sc := sc_fits_side
  refine mk_cal F sc len2 (fun _ _ _ _ _ _ us hl => match us, hl with | [_, _], _ => rfl) (fun f cdv A outer s H vs Q E hr h => ?_)
  obtain ⟨a0, a1, rfl, h⟩ := h
  refine ⟨_, (pss_cons (ps_if (PW.pt (pw_and (pt_cmpR op_eq (pe_R1 R (hr.mono (by decide)) (pv 0)) (pe_gc rfl T.TIMEOUT) (nomark _)) (pw_and1 (pt_cmpR op_ne (pe_R2 R (hr.mono (by decide)) (pv 0)) pe_str (nomark _))))) (pss_one (ps_ret pe_bl)) pss_nil)
  (pss_cons (ps_if (pt_cmpR op_eq (pv 1) pe_str (nomark _)) (pss_one (ps_ret (pe_c cfits_caller hr (by decide) rfl (pa_cons (pv 0) pa_nil)))) pss_nil)
  (pss_one (ps_ret (pe_c cfits_host hr (by decide) rfl (pa_cons (pv 0) pa_nil)))))), ?_⟩
  obtain ⟨r, cal, ms, nm, k, i, rfl, rfl, hR, q⟩ := h
  have h2 : (ringRow cal ms nm k i)[2]? = some (.str "any") := by cases cal <;> rfl
  obtain ⟨hd, h1⟩ : ∃ z, (ringRow cal ms nm k i)[1]? = some (.str z) := by cases cal <;> exact ⟨_, rfl⟩
  walk_at "rd"
  refine r_R hR h1 ?_
  walk_at "rd"
  refine if_both2 ?_ (fun z => ?_)
  · walk_at "rd"
    refine if_f rfl ?_
    walk_at "rd"
    cases cal
    · refine if_f (by decide +kernel) ?_
      walk_at "rd"
      exact ⟨r, _, _, _, _, rfl, hR, q⟩
    · refine if_t (by decide +kernel) ?_
      walk_at "rd"
      exact ⟨r, _, _, _, _, rfl, hR, q⟩
  · walk_at "rd"
    refine r_R hR h2 ?_
    walk_at "rd"
    refine if_f (by decide +kernel) ?_
    exact z
abbrev sp_are_settled (K : PySem.W.Frag) (D : Adr) : Sp := Sp2 fun a b H Q => ∃ f l, ∃ calm : List Str, a = .str f ∧ b = .ref l ∧ H l = some (.lst (calm.map V.str)) ∧ (∀ z ∈ calm, Good z) ∧ calm.Nodup ∧ f ∉ calm ∧ calm.length ≤ 6 ∧ ∀ H', Same H H' → Q (.bl true) H'
theorem sc_are_settled : FnScope ["first", "settled", "mode"] ["first", "settled"] (defScope (top 32)) := ⟨rfl, rfl, rfl, by decide +kernel, rfl, by decide +kernel, by decide +kernel⟩
theorem ok_are_settled (F : Df K mg "are_settled" 32) (B : Bl mg) (cis_name : Cal P w K mg base 1 "is_name" (sp_is_name K D)) : Cal P w K mg base 2 "are_settled" (sp_are_settled K D) := by
  have sc := sc_are_settled
  refine mk_cal F sc len2 (fun _ _ _ _ _ _ us hl => match us, hl with | [_, _], _ => rfl) (fun f cdv A outer s H vs Q E hr h => ?_)
  obtain ⟨a0, a1, rfl, h⟩ := h
  refine ⟨_, (pss_cons (ps_if (PW.pt (pw_or (pt_not (pt_val (pe_callB call_isiT rfl B.isinstance_ (by decide +kernel) (pa_cons (pv 1) (pa_cons (pe_tup (pa_cons (pe_bltn (v := .ty "list") rfl B.list_ (by decide +kernel) rfl) (pa_cons (pe_bltn (v := .ty "tuple") rfl B.tuple_ (by decide +kernel) rfl) pa_nil))) pa_nil))))) (pw_or1 (pt_cmpR (op_neD hr.units) (pe_lc (own := [("mode", 2)]) (g := gName 2) rfl sc.nd (pi_list (pv 1)) (blkOk_by (own := [("mode", 2)]) (N := ["first", "settled", "mode"]) (sc := defScope (top 32)) (by decide +kernel)) (fun _ _ _ _ _ => pg_name (i := 2) sc.nd rfl (Or.inl rfl)) (fun _ _ _ _ _ => pts_one (pt_not (pt_val (pe_c cis_name hr (by decide) rfl (pa_cons (pv 2) pa_nil))))) (fun _ _ _ _ _ => (pv 2))) (pe_lst pa_nil) (nomark _))))) (pss_one (ps_ret pe_bl)) pss_nil)
  (pss_one (ps_ret (pe_and (pe_cmpR op_notIn_seq (pv 0) (pv 1) rfl) (pe_one (pe_cmpR op_eq (pe_lenSetN rfl rfl B.len_ rfl B.set_ (pv 1)) (pe_callB call_lenS rfl B.len_ (by decide +kernel) (pa_cons (pv 1) pa_nil)) (nomark _))))))), ?_⟩
  obtain ⟨f, l, calm, rfl, rfl, hl, hg, nd, hf, h6, q⟩ := h
  walk_at "rd"
  refine ⟨sz2, fun tp htp => ?_⟩
  have s1 := same_upd (o := .tup [.ty "list", .ty "tuple"]) htp
  walk_at "rd"
  refine ⟨.ref l, tp, _, .type "list", [.type "list", .type "tuple"], true, rfl, upd_same, .cons (.ty _) (.cons (.ty _) .nil), .base (.lst (s1 _ _ hl)), kitAny_cons (b := true) (kit_ty (by decide +kernel)) (fun z => Bool.noConfusion z) (fun _ => rfl), ?_⟩
  walk_at "rd"
  refine if_f rfl ?_
  generalize upd H tp (.tup [.ty "list", .ty "tuple"]) = H1 at s1
  walk_at "rd"
  refine ⟨l, rfl, ⟨_, .of (s1 _ _ hl)⟩, fun p hp => ?_⟩
  refine lc_list (xs := calm.map V.str) (fun i H' => Same H H' ∧ H' p = some (.lst [])) ⟨same_upd' s1 hp, upd_same⟩ (fun _ _ _ h => .of (h.1 _ _ hl)) ?_ ?_
  · rintro i x H2 hx ⟨s2, e2⟩
    obtain ⟨z, hz, rfl⟩ := List.mem_map.mp (List.mem_of_getElem? hx)
    walk_at "rd"
    refine ⟨rfl, ?_⟩
    walk_at "rd"
    refine .inl ⟨z, rfl, hg z hz, fun H3 s3 => ?_⟩
    walk_at "rd"
    exact if_f rfl ⟨s2.trans s3, s3 _ _ e2⟩
  · rintro H2 ⟨s2, e2⟩
    walk_at "rd"
    refine ⟨sz0, fun p4 hp4 => ?_⟩
    have s4 := same_upd (o := .lst []) hp4
    have s24 := s2.trans s4
    refine ⟨.list [], .list [], .lst (.of (s4 _ _ e2)) .nil, .lst (.of upd_same) .nil, rfl, rfl, ?_⟩
    walk_at "rd"
    refine if_f rfl ?_
    walk_at "rd"
    refine r_ninS (.inl (.of (s24 _ _ hl))) ?_
    walk_at "rd"
    refine if_t (by rw [decide_eq_false hf]; rfl) ?_
    walk_at "rd"
    refine r_setN ?_
    walk_at "rd"
    refine ⟨l, calm, rfl, .of (s24 _ _ hl), nd, by omega, ?_⟩
    walk_at "rd"
    refine r_lenL (.of (s24 _ _ hl)) ?_
    walk_at "rd"
    rw [List.length_map, decide_eq_true rfl]
    exact q _ s24
/-- the rules of a ring, as a list of instances -/
def RowsAt (D : Adr) (H : Hp) (cal : Bool) (ms : List Str) (nm : Str) (k : Nat) (rs : List Addr) : Prop := ∀ (i : Nat) (r : Addr), rs[i]? = some r → RuleAt D.cr H r (ringRow cal ms nm k i)
theorem RowsAt.same {H H' : Hp} {cal : Bool} {ms : List Str} {nm : Str} {k : Nat} {rs : List Addr} (s : Same H H') (h : RowsAt D H cal ms nm k rs) : RowsAt D H' cal ms nm k rs := fun i r e => (h i r e).same s
abbrev sp_are_parts (K : PySem.W.Frag) (D : Adr) : Sp := Sp4 fun a b c d H Q => ∃ cal f l, ∃ rs : List Addr, ∃ ms nm k s, ∃ calm : List Str, a = .str (sideS cal) ∧ b = .str f ∧ c = .ref l ∧ d = .ref s ∧ Good f ∧ H l = some (.lst (rs.map V.ref)) ∧ RowsAt D H cal ms nm k rs ∧ rs.length ≤ 6 ∧
  H s = some (.lst (calm.map V.str)) ∧ (∀ z ∈ calm, Good z) ∧ calm.Nodup ∧ f ∉ calm ∧ calm.length ≤ 6 ∧ ∀ H', Same H H' → Q (.bl true) H'
theorem sc_are_parts : FnScope ["side", "first", "rules", "settled", "rule"] ["side", "first", "rules", "settled"] (defScope (top 33)) := ⟨rfl, rfl, rfl, by decide +kernel, rfl, by decide +kernel, by decide +kernel⟩
theorem ok_are_parts (F : Df K mg "are_parts" 33) (B : Bl mg) (T : Txt mg D) (Z : Ks K D) (cis_word : Cal P w K mg base 1 "is_word" (sp_is_word K D)) (cis_name : Cal P w K mg base 1 "is_name" (sp_is_name K D)) (cfits_side : Cal P w K mg base 4 "fits_side" (sp_fits_side K D)) (care_settled : Cal P w K mg base 2 "are_settled" (sp_are_settled K D)) : Cal P w K mg base 5 "are_parts" (sp_are_parts K D) := by
  have sc := sc_are_parts
  refine mk_cal F sc len4 (fun _ _ _ _ _ _ us hl => match us, hl with | [_, _, _, _], _ => rfl) (fun f cdv A outer s H vs Q E hr h => ?_)
  obtain ⟨a0, a1, a2, a3, rfl, h⟩ := h
  refine ⟨_, (pss_cons (ps_if (PW.pt (pw_or (pt_not (pt_val (pe_c cis_word hr (by decide) rfl (pa_cons (pv 0) (pa_cons (pe_gc rfl T.SIDES) pa_nil))))) (pw_or (pt_not (pt_val (pe_c cis_name hr (by decide) rfl (pa_cons (pv 1) pa_nil)))) (pw_or1 (pt_not (pt_val (pe_callB call_isi rfl B.isinstance_ (by decide +kernel) (pa_cons (pv 2) (pa_cons (pe_bltn (v := .ty "list") rfl B.list_ (by decide +kernel) rfl) pa_nil))))))))) (pss_one (ps_ret pe_bl)) pss_nil)
  (pss_cons (ps_if (pt_cmpR (op_neD hr.units) (pe_lc (own := [("rule", 4)]) (g := gName 4) rfl sc.nd (pi_list (pv 2)) (blkOk_by (own := [("rule", 4)]) (N := ["side", "first", "rules", "settled", "rule"]) (sc := defScope (top 33)) (by decide +kernel)) (fun _ _ _ _ _ => pg_name (i := 4) sc.nd rfl (Or.inl rfl)) (fun _ _ _ _ _ => pts_one (PW.pt (pw_or (pt_not (pt_val (pe_callB (show CallR _ _ (rIsi K) from call_isi) rfl B.isinstance_ (by decide +kernel) (pa_cons (pv 4) (pa_cons (pe_gc rfl T.Rule) pa_nil))))) (pw_or1 (pt_not (pt_val (pe_c cfits_side hr (by decide) rfl (pa_cons (pv 4) (pa_cons (pv 0) pa_nil))))))))) (fun _ _ _ _ _ => (pv 4))) (pe_lst pa_nil) (nomark _)) (pss_one (ps_ret pe_bl)) pss_nil)
  (pss_one (ps_ret (pe_c care_settled hr (by decide) rfl (pa_cons (pv 1) (pa_cons (pv 3) pa_nil))))))), ?_⟩
  obtain ⟨cal, f, l, rs, ms, nm, k, s, calm, rfl, rfl, rfl, rfl, gf, hl, hrs, h6, hs, hg, nd, hf, hc6, q⟩ := h
  walk_at "rd"
  refine ⟨_, D.sd, ["caller", "host"], rfl, rfl, Z.sd _, ?_⟩
  walk_at "rd"
  refine if_f (by cases cal <;> decide +kernel) ?_
  walk_at "rd"
  refine .inl ⟨f, rfl, gf, fun H1 s1 => ?_⟩
  walk_at "rd"
  refine if_f rfl ?_
  walk_at "rd"
  refine r_isi (b := true) (.ty _) (.base (.lst (s1 _ _ hl))) (kit_ty (by decide +kernel)) ?_
  walk_at "rd"
  refine if_f rfl ?_
  walk_at "rd"
  refine ⟨l, rfl, ⟨_, .of (s1 _ _ hl)⟩, fun p hp => ?_⟩
  refine lc_list (xs := rs.map V.ref) (fun i H' => Same H H' ∧ H' p = some (.lst [])) ⟨same_upd' s1 hp, upd_same⟩ (fun _ _ _ h => .of (h.1 _ _ hl)) ?_ ?_
  · rintro i x H2 hx ⟨s2, e2⟩
    obtain ⟨r, hr1, rfl⟩ := map_ref hx
    have hR := (hrs i r hr1).same s2
    obtain ⟨dx, t, fs, e3, _⟩ := id hR
    walk_at "rd"
    refine ⟨rfl, ?_⟩
    walk_at "rd"
    refine r_isiC Z.rl e3 ?_
    walk_at "rd"
    refine if_f rfl ?_
    walk_at "rd"
    refine ⟨r, cal, ms, nm, k, i, rfl, rfl, hR, ?_⟩
    walk_at "rd"
    exact if_f rfl ⟨s2, e2⟩
  · rintro H2 ⟨s2, e2⟩
    walk_at "rd"
    refine ⟨sz0, fun p4 hp4 => ?_⟩
    have s4 := same_upd (o := .lst []) hp4
    have s24 := s2.trans s4
    refine ⟨.list [], .list [], .lst (.of (s4 _ _ e2)) .nil, .lst (.of upd_same) .nil, rfl, rfl, ?_⟩
    walk_at "rd"
    refine if_f rfl ?_
    walk_at "rd"
    exact ⟨f, s, calm, rfl, rfl, s24 _ _ hs, hg, nd, hf, hc6, fun H3 s3 => q _ (s24.trans s3)⟩
end
end K67
-- deps: RoleParts
namespace K67
open PySem PySem.Spec PyProof.Rows L2
/-! ### != of two instances of a class with an own __eq__ and no __ne__ -/
section
open PySem.W
variable {prog : Program} {w : World} {A : Around} {E : Value → Shared → Prop} {s : Shared} {K : Frag} {x y C f : Addr} {ox oy : Obj} {od od' : Option Obj}
/-- a special method that the class has from object -/
theorem special_obj {M : Model} {name : Str} {id : String} {args : List Value} {Q : Option Value → Shared → Prop} (X : K.In s.heap) (I : InstAt s.heap x ox C od) (hs : findIn K (.ref C) name = some (some (.builtin id)))
    (hb : ∀ self, bindSpecial (.builtin id) self = pure (.builtin id, [self])) (h : wpAny M A (call (.builtin id) (.ref x :: args)) (fun v => Q (some v)) E s) : wpAny M A (callSpecialIfBound? (.ref x) name args) Q E s := by
  simp only [callSpecialIfBound?, bindSpecialIfBound?]
  refine wpAny_holding (wpAny_bind (wpAny_bind (wpAny_bind (I.type.here ((looks_findIn X hs).here ?_)))))
  have go : wpAny M A (call (.builtin id) ([.ref x] ++ args) >>= fun v => pure (some v)) Q E s := wpAny_bind (wpAny_mono h (fun _ _ z => wpAny_pure z) fun _ _ z => z)
  refine wpAny_bind (wpAny_askSetting (wpAny_ite ?_))
  split
  · exact wpAny_bind ((Looks.of_pure (hb _)).here (wpAny_pure (by exact go)))
  · exact wpAny_tryCatch (wpAny_bind ((Looks.of_pure (hb _)).here (wpAny_pure (by exact go))))
theorem ne_own {Q : Value → Shared → Prop} (hu : A.units + 1 < cLine) (X : K.In s.heap) (I : InstAt s.heap x ox C od) (J : InstAt s.heap y oy C od') (hne : findIn K (.ref C) "__ne__" = some (some (.builtin "object.__ne__"))) (hm : mroIn K C (.type "object") = some true)
    (heq : findIn K (.ref C) "__eq__" = some (some (.ref f))) (hf : isFn K (.ref f) = true) (h : wpAny (model prog w) A.in1 (call (.ref f) [.ref x, .ref y]) (fun v s' => ∃ b, v = .bool b ∧ Q (.bool (!b)) s') E s) :
    wpAny (model prog w) A (compareOp .NotEq (.ref x) (.ref y)) Q E s := by
  show wpAny (model prog w) A (richCompare .NotEq (.ref x) (.ref y)) Q E s
  unfold richCompare
  simp only [oneThing_ref]
  refine wpAny_holding (wpAny_bind (wpAny_cRoomFor (Nat.lt_of_succ_lt hu) ?_))
  rw [cmpInfo_NotEq]
  dsimp only
  refine wpAny_bind (I.type.here (wpAny_bind (J.type.here ?_)))
  rw [show (Value.ref C != Value.ref C) = false from bne_self_eq_false' _]
  simp only [Bool.false_eq_true, if_false]
  refine wpAny_bind (wpAny_pure ?_)
  simp only [Bool.false_eq_true, if_false]
  simp only [tryCompare]
  refine wpAny_bind (wpAny_bind (special_obj X I hne PySem.F.slot_object_ne.bind (wpAny_call (codeAny_call_builtin PySem.F.slot_object_ne.plain F.cmpEntry_ne (check_slot (i := "object.__ne__") (owner := "object") (n := "__ne__") (by decide +kernel) (by decide +kernel) (I.type.andThen (looks_mroIn X hm)) (F.cmpArgs_ne _ _) ?_)))))
  unfold Builtin.«object.__ne__»
  have e0 : A.in1.units < cLine := hu
  have back : wpAny (model prog w) A.in1 (callSpecialIfBound? (.ref x) (Str.ofString "__eq__") [.ref y]) (fun r s' => ∃ b, r = some (.bool b) ∧ Q (.bool (!b)) s') E s := ifBound_K X I heq hf (wpAny_mono h (fun r s' hr => by
    obtain ⟨b, rfl, q⟩ := hr
    exact ⟨b, rfl, q⟩) fun _ _ z => z)
  refine wpAny_bind (m := slotArgs "__ne__" 1 _) (wpAny_pure ?_)
  refine wpAny_bind (m := cRoomFor _ _) (wpAny_cRoomFor e0 ?_)
  refine wpAny_bind (m := callSpecialIfBound? (.ref x) (Str.ofString "__eq__") [.ref y]) (wpAny_mono back (fun r s' hr => ?_) fun _ _ z => z)
  obtain ⟨b, rfl, q⟩ := hr
  refine wpAny_bind (m := truthy (.bool b)) (wpAny_truthy_bool ?_)
  exact wpAny_pure (wpAny_pure (wpAny_pure q))
end
/-- the objects that are seen to be equal: != says False -/
def rNeG (Dq : Eqv) : R2 := fun x y H Q => Dq x y H ∧ ∀ H', Same H H' → Q (.bl false) H'
/-- what != of such instances rests on -/
structure NeC (K : PySem.W.Frag) (C f : Addr) : Prop where
  ne : PySem.W.findIn K (.ref C) "__ne__" = some (some (.builtin "object.__ne__"))
  eq : PySem.W.findIn K (.ref C) "__eq__" = some (some (.ref f))
  fn : PySem.W.isFn K (.ref f) = true
  ob : PySem.W.mroIn K C (.type "object") = some true
theorem op_neOwn {X : Cx} {CX : CXT} {n : Nat} {C f : Addr} {fd : FuncData} {ps : List Str} {R : Addr → Addr → Hp → Prop} {E : XK} (F : FnOk X.prog X.w X.K X.mg X.base CX n f fd ps (spEq R)) (N : NeC X.K C f) (hb : Binds X.K fd ps []) (hx : Passes CX X E) (hr : Room (n + 1) X.A) :
    OpR X (compareOp .NotEq) (rNeG (DIns C R)) := by
  intro pins s σ H x y u v Q I rx ry hq
  obtain ⟨⟨a, b, dx, dy, fs, gs, rfl, rfl, ha, hb', r⟩, q⟩ := hq
  cases rx
  cases ry
  obtain ⟨_, J1, _⟩ := ins_get I.hok ha
  obtain ⟨_, J2, _⟩ := ins_get I.hok hb'
  obtain ⟨o1, J1, _⟩ := J1.look
  obtain ⟨o2, J2, _⟩ := J2.look
  obtain ⟨m, hF⟩ := I.fr
  have hu : X.A.units + 1 < cLine := hu_of hr
  refine ne_own hu I.kIn J1 J2 N.ne N.ob N.eq N.fn ?_
  have sp : spEq R [.ref a, .ref b] H (fun v H' => v = .bl true ∧ Same H H') E := ⟨a, b, rfl, r, fun H' e => ⟨rfl, e⟩⟩
  have e0 : Env0 X.prog X.w X.K X.mg X.base X.A.in1 X.stack s H := by
    have e := I.env0
    exact ⟨e.frames, e.mod, e.bs, e.bsz, e.funs, e.frf, e.hok, e.bare⟩
  have hl := F.len _ _ _ _ sp
  refine wpAny_call (codeAny_mono (F.run X.A.in1 X.stack s H ⟨[.ref a, .ref b], []⟩ [.ref a, .ref b] [.ref a, .ref b] _ E hr.in1 e0 (by
    have := hb s [.ref a, .ref b] I.kIn (by simpa using hl)
    simpa using this) (.cons rfl (.cons rfl .nil)) sp) fun r s' hq => ?_)
  match r, hq with
  | .error e, hq => exact hx pins σ H s e s' I hq
  | .ok .next, hq => exact False.elim hq
  | .ok .brk, hq => exact False.elim hq
  | .ok .cont, hq => exact False.elim hq
  | .ok (.ret w), hq =>
    obtain ⟨z, H', I', rz, ez, ex⟩ := I.after hq
    subst ez
    cases rz
    exact ⟨true, rfl, .bl false, H', I', rfl, q H' ex⟩
end K67
-- deps: NeOwn
namespace K67
open PySem PySem.Spec PyProof.Rows L2
abbrev roleP : List Str := ["self", "side", "first", "rules", "settled"]
section
variable {P : Program} {w : World} {K : PySem.W.Frag} {mg : Str → Option Value} {base : Heap} {D : Adr}
/-- two rules alike -/
def RuleSame (D : Adr) : Addr → Addr → Hp → Prop := fun a b H => ∃ m h mv th snd, RowOk m h mv th snd ∧ RuleAt D.cr H a (Row m h mv th snd) ∧ RuleAt D.cr H b (Row m h mv th snd)
theorem ruleSame_mon : ∀ a b H H', Ext H H' → RuleSame D a b H → RuleSame D a b H' := fun _ _ _ _ e ⟨m, h, mv, th, snd, g, h1, h2⟩ => ⟨m, h, mv, th, snd, g, h1.same e, h2.same e⟩
abbrev eqBd (K : PySem.W.Frag) : FuncData → Prop := fun fd => Binds K fd ["self", "other"] []
abbrev EqOk (P : Program) (w : World) (K : PySem.W.Frag) (mg : Str → Option Value) (base : Heap) (k : Nat) (C : Addr) (R : Addr → Addr → Hp → Prop) : Prop := MthOk P w K mg base k C "__eq__" ["self", "other"] (spEq R) (eqBd K)
theorem spEq_len {R : Addr → Addr → Hp → Prop} : ∀ vs H Q E, spEq R vs H Q E → vs.length = 2 := by
  rintro vs H Q E ⟨a, b, rfl, _⟩
  rfl
def sndDt (v : V) : PyData := match v with
  | .str z => .str z
  | _ => .none
def rowD (m h mv th : Str) (snd : V) : PyData := .tuple [.str m, .str h, .str "any", .str th, .str mv, sndDt snd]
theorem RowOk.dp {m h mv th : Str} {snd : V} (g : RowOk m h mv th snd) {H : Hp} {t : Addr} (e : SqT K H t (Row m h mv th snd)) : Dp K H (.ref t) (rowD m h mv th snd) := by
  refine .tup e (.cons (.str _) (.cons (.str _) (.cons (.str _) (.cons (.str _) (.cons (.str _) (.cons ?_ .nil))))))
  rcases g.snd with rfl | ⟨z, rfl, _⟩
  · exact .non
  · exact .str z
theorem RowOk.shaped {m h mv th : Str} {snd : V} (g : RowOk m h mv th snd) : SeqAt.shaped (rowD m h mv th snd) = true := by
  have e1 := ok_good g.m
  have e2 : PyData.canLay0 (.str h) = true := by
    rcases g.h with rfl | gh
    · decide +kernel
    · exact ok_good gh
  have e3 := ok_good g.th
  have e4 : PyData.canLay0 (.str mv) = true := by
    rcases g.mv with rfl | rfl <;> decide +kernel
  have e5 : PyData.canLay0 (.str "any") = true := by decide +kernel
  unfold SeqAt.shaped rowD
  rw [Bool.and_eq_true]
  rcases g.snd with rfl | ⟨z, rfl, gz⟩
  · refine ⟨?_, rfl⟩
    simp only [PyData.canLay0, PyData.canLayAll0] at e1 e2 e3 e4 e5 ⊢
    simp only [e1, e2, e3, e4, e5, sndDt, PyData.canLay0, Bool.and_self]
  · have e6 := ok_good gz
    refine ⟨?_, rfl⟩
    simp only [PyData.canLay0, PyData.canLayAll0] at e1 e2 e3 e4 e5 e6 ⊢
    simp only [e1, e2, e3, e4, e5, e6, sndDt, PyData.canLay0, Bool.and_self]
theorem eqv_row (m h mv th : Str) (snd : V) : PyData.eqv (rowD m h mv th snd) (rowD m h mv th snd) = true := by
  unfold rowD sndDt
  split <;> simp [PyData.eqv, PyData.eqvAll]
theorem r_fld {ta : TE} {f : Str} {σ : L2.St} {H : Hp} {Q : VK} (q : ta σ H fun x H1 => ∃ a C dx fs v, x = .ref a ∧ H1 a = some (.ins C dx fs) ∧ Cls K C ∧ NoAttr K C f ∧ fs.lookup f = some v ∧ Q v H1) : tFld K ta f σ H Q := q
theorem ok_Rule_eq (F : Mdf K D.cr "__eq__" "Rule.__eq__" 26 7 [] []) (C : Cls K D.cr) (n : NoAttr K D.cr "fields") (B : Bl mg) (T : Txt mg D) (Z : Ks K D) : EqOk P w K mg base 1 D.cr (RuleSame D) := by
  have sc : FnScope ["self", "other"] ["self", "other"] (defScope (inClass (top 26) 7)) := ⟨rfl, rfl, rfl, by decide +kernel, rfl, by decide +kernel, by decide +kernel⟩
  refine mk_mth F sc spEq_len (fun f cdv A outer s H vs Q E hr h => ?_) fun f fd F => F.bindsN (fun _ _ _ _ _ _ us hl => match us, hl with | [_, _], _ => rfl)
  obtain ⟨a, b, rfl, ⟨m, h, mv, th, snd, g, ⟨dx, t, fs, h1, h2, h3⟩, ⟨dy, u, gs, h4, h5, h6⟩⟩, q⟩ := h
  refine ⟨_, (pss_one (ps_ret (pe_and (pe_callB call_isi rfl B.isinstance_ (by decide +kernel) (pa_cons (pv 1) (pa_cons (pe_gc rfl T.Rule) pa_nil))) (pe_one (pe_cmpR (op_eqD hr.units) (pe_fld (pv 0) rfl) (pe_fld (pv 1) rfl) (nomark _)))))), ?_⟩
  walk_at "rd"
  refine r_isiC Z.rl h4 ?_
  walk_at "rd"
  refine if_t rfl ?_
  walk_at "rd"
  refine r_fld ?_
  walk_at "rd"
  refine ⟨a, D.cr, dx, fs, _, rfl, h1, C, n, h2, ?_⟩
  refine r_fld ?_
  walk_at "rd"
  refine ⟨b, D.cr, dy, gs, _, rfl, h4, C, n, h5, ?_⟩
  refine ⟨rowD m h mv th snd, rowD m h mv th snd, g.dp (.of h3), g.dp (.of h6), g.shaped, g.shaped, ?_⟩
  rw [eqv_row]
  exact q _ (Same.refl _)
/-- t == u, both tuples of rules -/
theorem op_tab {X : Cx} (M : EqOk X.prog X.w X.K X.mg X.base 1 D.cr (RuleSame D)) (hr : Room 2 X.A) : OpR X (compareOp .Eq) (rEqG (DTup X.K (DIns D.cr (RuleSame D)))) := by
  obtain ⟨f, fd, F, h1, h2, h3⟩ := M.ex
  exact op_eqG (rcG_tup (mon_ins ruleSame_mon) (eqG_ins F h1 h2 h3 pass0)) hr
/-- two roles alike -/
def RoleSame (D : Adr) : Addr → Addr → Hp → Prop := fun a b H => ∃ cal f rs1 rs2 calm, Good f ∧ (∀ z ∈ calm, Good z) ∧ calm.length ≤ 6 ∧ RoleAt D.co H a (sideS cal) f rs1 calm ∧ RoleAt D.co H b (sideS cal) f rs2 calm ∧ rs1.length = rs2.length ∧
  ∀ (i : Nat) r1 r2, rs1[i]? = some r1 → rs2[i]? = some r2 → RuleSame D r1 r2 H
theorem roleSame_mon : ∀ a b H H', Ext H H' → RoleSame D a b H → RoleSame D a b H' := fun _ _ _ _ e ⟨cal, f, rs1, rs2, calm, g1, g2, g3, h1, h2, h3, h4⟩ =>
  ⟨cal, f, rs1, rs2, calm, g1, g2, g3, h1.same e, h2.same e, h3, fun i r1 r2 a b => ruleSame_mon _ _ _ _ e (h4 i r1 r2 a b)⟩
def strsD (zs : List Str) : List PyData := zs.map PyData.str
theorem dpa_strs {H : Hp} : ∀ zs : List Str, DpAll K H (zs.map V.str) (strsD zs)
  | [] => .nil
  | z :: zs => .cons (.str z) (dpa_strs zs)
theorem lay_strs : ∀ {zs : List Str}, (∀ z ∈ zs, PyData.canLay0 (.str z) = true) → PyData.canLayAll0 (strsD zs) = true
  | [], _ => rfl
  | z :: zs, h => by
    show (PyData.canLay0 (.str z) && PyData.canLayAll0 (strsD zs)) = true
    rw [h z (List.mem_cons_self ..), lay_strs fun y hy => h y (List.mem_cons_of_mem _ hy)]
    rfl
theorem deep_strs : ∀ zs : List Str, PyData.depthAll (strsD zs) ≤ 1
  | [] => Nat.zero_le _
  | z :: zs => Nat.max_le.mpr ⟨(show (0 : Nat) ≤ 1 from Nat.zero_le _), deep_strs zs⟩
theorem eqv_strs : ∀ zs : List Str, PyData.eqvAll (strsD zs) (strsD zs) = true
  | [] => rfl
  | z :: zs => by
    show ((z == z) && PyData.eqvAll (strsD zs) (strsD zs)) = true
    rw [eqv_strs zs, beq_self_eq_true]
    rfl
theorem sh_strs {zs : List Str} (h : ∀ z ∈ zs, PyData.canLay0 (.str z) = true) : SeqAt.shaped (.tuple (strsD zs)) = true ∧ SeqAt.shaped (.list (strsD zs)) = true := by
  have e : PyData.depthAll (strsD zs) + 1 ≤ 64 := by have := deep_strs zs; omega
  unfold SeqAt.shaped
  rw [Bool.and_eq_true, Bool.and_eq_true]
  exact ⟨⟨lay_strs h, decide_eq_true e⟩, ⟨lay_strs h, decide_eq_true e⟩⟩
theorem r_eqStrs {a b : Addr} {zs : List Str} {H : Hp} {Q : VK} (h : ∀ z ∈ zs, PyData.canLay0 (.str z) = true) (h1 : SqT K H a (zs.map V.str)) (h2 : SqT K H b (zs.map V.str)) (q : Q (.bl true) H) : rEqD K (.ref a) (.ref b) H Q := by
  refine ⟨.tuple (strsD zs), .tuple (strsD zs), .tup h1 (dpa_strs zs), .tup h2 (dpa_strs zs), (sh_strs h).1, (sh_strs h).1, ?_⟩
  rw [show PyData.eqv (.tuple (strsD zs)) (.tuple (strsD zs)) = PyData.eqvAll (strsD zs) (strsD zs) from by simp only [PyData.eqv], eqv_strs]
  exact q
theorem lay_side (cal : Bool) : PyData.canLay0 (.str (sideS cal)) = true := by cases cal <;> decide +kernel
theorem ok_Role_eq (F : Mdf K D.co "__eq__" "Role.__eq__" 34 5 [] []) (C : Cls K D.co) (n1 : NoAttr K D.co "ends") (n2 : NoAttr K D.co "table") (n3 : NoAttr K D.co "calm") (B : Bl mg) (T : Txt mg D) (Z : Ks K D) (ER : EqOk P w K mg base 1 D.cr (RuleSame D)) : EqOk P w K mg base 4 D.co (RoleSame D) := by
  have sc : FnScope ["self", "other"] ["self", "other"] (defScope (inClass (top 34) 5)) := ⟨rfl, rfl, rfl, by decide +kernel, rfl, by decide +kernel, by decide +kernel⟩
  refine mk_mth F sc spEq_len (fun f cdv A outer s H vs Q E hr h => ?_) fun f fd F => F.bindsN (fun _ _ _ _ _ _ us hl => match us, hl with | [_, _], _ => rfl)
  obtain ⟨a, b, rfl, ⟨cal, fi, rs1, rs2, calm, gf, gc, gl, O1, O2, hl, hp⟩, q⟩ := h
  obtain ⟨dx, fs, t1, t2, t3, h1, e1, e2, e3, h2, h3, h4⟩ := O1.ex
  obtain ⟨dy, gs, u1, u2, u3, k1, f1, f2, f3, k2, k3, k4⟩ := O2.ex
  refine ⟨_, (pss_cons (ps_if (pt_not (pt_val (pe_callB call_isi rfl B.isinstance_ (by decide +kernel) (pa_cons (pv 1) (pa_cons (pe_gc rfl T.Role) pa_nil))))) (pss_one (ps_ret pe_bl)) pss_nil)
  (pss_one (ps_ret (pe_and (pe_cmpR (op_eqD hr.units) (pe_fld (pv 0) rfl) (pe_fld (pv 1) rfl) (nomark _)) (pe_and (pe_cmpR (op_tab ER (hr.mono (by decide))) (pe_fld (pv 0) rfl) (pe_fld (pv 1) rfl) (nomark _)) (pe_one (pe_cmpR (op_eqD hr.units) (pe_fld (pv 0) rfl) (pe_fld (pv 1) rfl) (nomark _)))))))), ?_⟩
  walk_at "rd"
  refine r_isiC Z.ro k1 ?_
  walk_at "rd"
  refine if_f rfl ?_
  walk_at "rd"
  refine r_fld ?_
  walk_at "rd"
  refine ⟨a, D.co, dx, fs, _, rfl, h1, C, n1, e1, ?_⟩
  refine r_fld ?_
  walk_at "rd"
  refine ⟨b, D.co, dy, gs, _, rfl, k1, C, n1, f1, ?_⟩
  refine r_eqStrs (zs := [sideS cal, fi]) (fun z hz => ?_) (.of h2) (.of k2) ?_
  · rcases List.mem_cons.mp hz with rfl | hz
    · exact lay_side cal
    · rw [List.mem_singleton.mp hz]
      exact ok_good gf
  walk_at "rd"
  refine if_t rfl ?_
  walk_at "rd"
  refine r_fld ?_
  walk_at "rd"
  refine ⟨a, D.co, dx, fs, _, rfl, h1, C, n2, e2, ?_⟩
  refine r_fld ?_
  walk_at "rd"
  refine ⟨b, D.co, dy, gs, _, rfl, k1, C, n2, f2, ?_⟩
  refine ⟨⟨t2, u2, _, _, rfl, rfl, .of h3, .of k3, by rw [List.length_map, List.length_map]; exact hl, fun i x y hx hy => ?_⟩, fun H1 s1 => ?_⟩
  · obtain ⟨r1, hr1, rfl⟩ := map_ref hx
    obtain ⟨r2, hr2, rfl⟩ := map_ref hy
    have sm := hp i r1 r2 hr1 hr2
    obtain ⟨m, h, mv, th, snd, g, ⟨da, ta, fa, a1, _⟩, ⟨db, tb, fb, b1, _⟩⟩ := id sm
    exact ⟨r1, r2, da, db, fa, fb, rfl, rfl, a1, b1, sm⟩
  walk_at "rd"
  refine if_t rfl ?_
  walk_at "rd"
  refine r_fld ?_
  walk_at "rd"
  refine ⟨a, D.co, dx, fs, _, rfl, s1 _ _ h1, C, n3, e3, ?_⟩
  refine r_fld ?_
  walk_at "rd"
  refine ⟨b, D.co, dy, gs, _, rfl, s1 _ _ k1, C, n3, f3, ?_⟩
  refine r_eqStrs (zs := calm) (fun z hz => ok_good (gc z hz)) (.of (s1 _ _ h4)) (.of (s1 _ _ k4)) ?_
  exact q _ s1
/-- x != y, both roles -/
theorem op_roleNe {X : Cx} (M : EqOk X.prog X.w X.K X.mg X.base 4 D.co (RoleSame D) ∧ InC X.K D.co ∧ PySem.W.findIn X.K (.ref D.co) "__ne__" = some (some (.builtin "object.__ne__"))) (hr : Room 5 X.A) : OpR X (compareOp .NotEq) (rNeG (DIns D.co (RoleSame D))) := by
  obtain ⟨⟨f, fd, F, h1, h2, h3⟩, I, h4⟩ := M
  exact op_neOwn F ⟨h4, h1, h2, I.hm⟩ h3 pass0 hr
end
end K67
-- deps: RoleMake
namespace K67
open PySem PySem.Spec PyProof.Rows L2
section
variable {P : Program} {w : World} {K : PySem.W.Frag} {mg : Str → Option Value} {base : Heap} {D : Adr}
/-- what a role is made of -/
structure PartsOk (D : Adr) (H : Hp) (cal : Bool) (f : Str) (l : Addr) (rs : List Addr) (ms : List Str) (nm : Str) (k : Nat) (s : Addr) (calm : List Str) : Prop where
  gf : Good f
  lr : H l = some (.lst (rs.map V.ref))
  rows : RowsAt D H cal ms nm k rs
  r6 : rs.length ≤ 6
  ls : H s = some (.lst (calm.map V.str))
  gc : ∀ z ∈ calm, Good z
  nd : calm.Nodup
  nf : f ∉ calm
  c6 : calm.length ≤ 6
def sp_Role_init (D : Adr) : Sp := fun vs H Q _ => ∃ x dx cal f l rs ms nm k s calm, vs = [.ref x, .str (sideS cal), .str f, .ref l, .ref s] ∧ H x = some (.ins D.co dx []) ∧ PartsOk D H cal f l rs ms nm k s calm ∧
  ∀ H' ys, Off x H H' → ys.Perm calm → RoleAt D.co H' x (sideS cal) f rs ys → Q .non H'
theorem Off.trans {x : Addr} {H H1 H2 : Hp} (a : Off x H H1) (b : Off x H1 H2) : Off x H H2 := fun c o e n => b c o (a c o e n) n
theorem Off.same {x : Addr} {H H1 : Hp} (s : Same H H1) : Off x H H1 := fun c o e _ => s c o e
theorem Off.put {x : Addr} {H : Hp} {u : HO} : Off x H (upd H x u) := fun c o e n => by rw [upd_ne n]; exact e
theorem ok_Role_init {e0 : Addr} (F : Mdf K D.co "__init__" "Role.__init__" 34 0 [.ref e0] []) (C : Cls K D.co) (n1 : NoAttr K D.co "ends") (n2 : NoAttr K D.co "table") (n3 : NoAttr K D.co "calm") (B : Bl mg) (care_parts : Cal P w K mg base 5 "are_parts" (sp_are_parts K D)) :
    MthOk P w K mg base 6 D.co "__init__" roleP (sp_Role_init D) (fun fd => Binds K fd roleP []) := by
  have sc : FnScope ["self", "side", "first", "rules", "settled", "mode"] roleP (defScope (inClass (top 34) 0)) := ⟨rfl, rfl, rfl, by decide +kernel, rfl, by decide +kernel, by decide +kernel⟩
  refine mk_mth F sc (fun vs H Q E h => by obtain ⟨x, dx, cal, f, l, rs, ms, nm, k, s, calm, rfl, _⟩ := h; rfl) (fun f cdv A outer s H vs Q E hr h => ?_) ?_
  · obtain ⟨x, dx, cal, fi, l, rs, ms, nm, k, st, calm, rfl, hx, G, q⟩ := h
    refine ⟨_, (pss_cons (ps_if (pt_not (pt_val (pe_c care_parts hr (by decide) rfl (pa_cons (pv 1) (pa_cons (pv 2) (pa_cons (pv 3) (pa_cons (pv 4) pa_nil))))))) (pss_one ps_never) pss_nil)
  (pss_cons (ps_fld (pv 0) (pe_tup (pa_cons (pv 1) (pa_cons (pv 2) pa_nil))) rfl)
  (pss_cons (ps_fld (pv 0) (pe_callTy call_tpl rfl B.tuple_ (by decide +kernel) (pa_cons (pv 3) pa_nil)) rfl)
  (pss_one (ps_fld (pv 0) (pe_callTy call_tpl rfl B.tuple_ (by decide +kernel) (pa_cons (pe_callB cr_sortedS rfl B.sorted_ (by decide +kernel) (pa_cons (pe_lc (own := [("mode", 5)]) (g := gName 5) (tt := tYes) rfl sc.nd (pi_list (pv 4)) (blkOk_by (own := [("mode", 5)]) (N := ["self", "side", "first", "rules", "settled", "mode"]) (sc := defScope (inClass (top 34) 0)) (by decide +kernel)) (fun _ _ _ _ _ => pg_name (i := 5) sc.nd rfl (Or.inl rfl)) (fun _ _ _ _ _ => pts_nil) (fun _ _ _ _ _ => (pe_callTy call_strS rfl B.str_ (by decide +kernel) (pa_cons (pv 5) pa_nil)))) pa_nil)) pa_nil)) rfl))))), ?_⟩
    walk_at "rd"
    refine ⟨cal, fi, l, rs, ms, nm, k, st, calm, rfl, rfl, rfl, rfl, G.gf, G.lr, G.rows, G.r6, G.ls, G.gc, G.nd, G.nf, G.c6, fun H1 s1 => ?_⟩
    walk_at "rd"
    refine if_f rfl ?_
    walk_at "rd"
    dsimp only
    refine r_sfld ?_
    walk_at "rd"
    refine ⟨sz2, fun t1 ht1 => ?_⟩
    have s2 := same_upd' (o := .tup [.str (sideS cal), .str fi]) s1 ht1
    have et1 : (upd H1 t1 (.tup [.str (sideS cal), .str fi])) t1 = some (.tup [.str (sideS cal), .str fi]) := upd_same
    generalize upd H1 t1 (.tup [.str (sideS cal), .str fi]) = H2 at s2 et1
    have hx2 := s2 _ _ hx
    walk_at "rd"
    refine ⟨x, D.co, dx, [], rfl, hx2, C, n1, by decide, ?_⟩
    have nx : ∀ {a : Addr} {o : HO}, H2 a = some o → (o ≠ .ins D.co dx []) → a ≠ x := fun e ne z => by
      rw [z, hx2] at e
      exact ne (Option.some.inj e).symm
    have o3 : Off x H (upd H2 x (.ins D.co dx (putF "ends" (.ref t1) []))) := (Off.same s2).trans .put
    have nl : l ≠ x := ne_of G.lr hx fun z => by cases z
    have ns : st ≠ x := ne_of G.ls hx fun z => by cases z
    have et1' := Off.put (x := x) (u := .ins D.co dx (putF "ends" (.ref t1) [])) _ _ et1 (ne_of et1 hx2 fun z => by cases z)
    have hx3 : (upd H2 x (.ins D.co dx (putF "ends" (.ref t1) []))) x = some (.ins D.co dx [("ends", .ref t1)]) := upd_same
    generalize upd H2 x (.ins D.co dx (putF "ends" (.ref t1) [])) = H3 at o3 et1' hx3
    walk_at "rd"
    dsimp only
    refine r_sfld ?_
    walk_at "rd"
    refine r_tplL (.of (o3 _ _ G.lr nl)) fun t2 ht2 => ?_
    have s4 := same_upd (o := .tup (rs.map V.ref)) ht2
    have et2 : (upd H3 t2 (.tup (rs.map V.ref))) t2 = some (.tup (rs.map V.ref)) := upd_same
    generalize upd H3 t2 (.tup (rs.map V.ref)) = H4 at s4 et2
    have hx4 := s4 _ _ hx3
    walk_at "rd"
    refine ⟨x, D.co, dx, _, rfl, hx4, C, n2, (show 1 < 1000 by decide), ?_⟩
    have p2 : ∀ {a : Addr} {xs : List V}, H4 a = some (.tup xs) → (upd H4 x (.ins D.co dx (putF "table" (.ref t2) [("ends", .ref t1)]))) a = some (.tup xs) := fun e => Off.put _ _ e (ne_of e hx4 fun z => by cases z)
    have o5 : Off x H (upd H4 x (.ins D.co dx (putF "table" (.ref t2) [("ends", .ref t1)]))) := (o3.trans (.same s4)).trans .put
    have et1'' := p2 (s4 _ _ et1')
    have et2' := p2 et2
    have hx5 : (upd H4 x (.ins D.co dx (putF "table" (.ref t2) [("ends", .ref t1)]))) x = some (.ins D.co dx [("ends", .ref t1), ("table", .ref t2)]) := upd_same
    generalize upd H4 x (.ins D.co dx (putF "table" (.ref t2) [("ends", .ref t1)])) = H5 at o5 et1'' et2' hx5
    walk_at "rd"
    dsimp only
    refine r_sfld ?_
    walk_at "rd"
    refine ⟨st, rfl, ⟨_, .of (o5 _ _ G.ls ns)⟩, fun pl hpl => ?_⟩
    have hls := o5 _ _ G.ls ns
    refine lc_list (xs := calm.map V.str) (fun i H' => Same H5 H' ∧ H' pl = some (.lst ((calm.take i).map V.str))) ⟨same_upd hpl, upd_same⟩ (fun _ _ _ h => .of (h.1 _ _ hls)) ?_ ?_
    · rintro i y H6 hy ⟨s6, e6⟩
      obtain ⟨z, hz, rfl⟩ : ∃ z, calm[i]? = some z ∧ y = V.str z := by
        rw [List.getElem?_map] at hy
        cases e : calm[i]? with
        | none => rw [e] at hy; cases hy
        | some r => rw [e] at hy; exact ⟨r, rfl, (Option.some.inj hy).symm⟩
      walk_at "rd"
      refine ⟨rfl, ?_⟩
      walk_at "rd"
      refine if_t rfl ?_
      walk_at "rd"
      refine ⟨_, e6, small1000 (by rw [List.length_map, List.length_take]; have := G.c6; omega), same_set s6 hpl, ?_⟩
      rw [upd_same, List.take_add_one, hz, List.map_append]
      rfl
    · rintro H6 ⟨s6, e6⟩
      rw [List.length_map, List.take_length] at e6
      walk_at "rd"
      refine r_sortedS e6 (by have := G.c6; omega) fun ys p hP _ hp => ?_
      have s7 := same_upd' (o := .lst (ys.map V.str)) s6 hp
      walk_at "rd"
      refine r_tplL (.of upd_same) fun t3 ht3 => ?_
      have s8 := same_upd' (o := .tup (ys.map V.str)) s7 ht3
      have et3 : (upd (upd H6 p (.lst (ys.map V.str))) t3 (.tup (ys.map V.str))) t3 = some (.tup (ys.map V.str)) := upd_same
      generalize upd (upd H6 p (.lst (ys.map V.str))) t3 (.tup (ys.map V.str)) = H8 at s8 et3
      have hx8 := s8 _ _ hx5
      walk_at "rd"
      refine ⟨x, D.co, dx, _, rfl, hx8, C, n3, (show 2 < 1000 by decide), ?_⟩
      have p3 : ∀ {a : Addr} {xs : List V}, H8 a = some (.tup xs) → (upd H8 x (.ins D.co dx (putF "calm" (.ref t3) [("ends", .ref t1), ("table", .ref t2)]))) a = some (.tup xs) := fun e => Off.put _ _ e (ne_of e hx8 fun z => by cases z)
      refine q _ ys ((o5.trans (.same s8)).trans .put) hP ⟨dx, _, t1, t2, t3, upd_same, rfl, rfl, rfl, p3 (s8 _ _ et1''), p3 (s8 _ _ et2'), p3 et3⟩
  · intro f fd F
    obtain ⟨ds, r, b⟩ := F.binds1 (ps := roleP) 5 1 (by simp) rfl (fun T kV doc pm an cdv ct us its l1 l2 => by
      match us, its, l1, l2 with
      | [a, b, c, d, e], [g], _, _ => exact ⟨_, rfl, rfl⟩)
    cases r
    exact b
/-- a role is made -/
structure RoleMk (P : Program) (w : World) (K : PySem.W.Frag) (mg : Str → Option Value) (base : Heap) (D : Adr) : Prop where
  ex : ∃ f fd, FnOk P w K mg base CX0 6 f fd roleP (sp_Role_init D) ∧ Mk K D.co f ∧ Binds K fd roleP []
theorem mk_role (O : MthOk P w K mg base 6 D.co "__init__" roleP (sp_Role_init D) (fun fd => Binds K fd roleP [])) (m1 : PySem.W.makesIn K D.co = true) (m2 : PySem.W.keepIn K (.ref D.co) = true) : RoleMk P w K mg base D := by
  obtain ⟨f, fd, F, h1, h2, h3⟩ := O.ex
  exact ⟨f, fd, F, ⟨m1, h1, h2, m2⟩, h3⟩
def tRole (D : Adr) (t : TA) : TE := tMake D.co (sp_Role_init D) [] E0 t
theorem pe_role {X : Cx} {p pos : Pos} {e : Expr} {es : List Expr} {t : TA} (M : RoleMk X.prog X.w X.K X.mg X.base D) (T : Gv X.mg "Role" (.ref D.co)) (hr : Room 7 X.A) (hg : Gl X "Role") (ha : PA X (e :: es) t)
    (he : starEach (e :: es) X.env = (false, eval e X.env) :: starEach es X.env := by rfl) (hpl : (backTo pos (starEach es X.env)).any (·.1) = false := by rfl) : PE X (.Call (.Name "Role" p) (e :: es) [] pos) (tRole D t) := by
  obtain ⟨f, fd, F, M, b⟩ := M.ex
  obtain ⟨u, hm, r⟩ := T
  obtain rfl : u = Value.ref D.co := r
  exact pe_make M F hr hg hm b .nil pass0 ha (by decide) he hpl
def RoAt (D : Adr) (vs : List V) (H : Hp) (Q : VK) : Prop := ∀ x dx, H x = none → H dx = none → dx ≠ x → sp_Role_init D (V.ref x :: (vs ++ [])) (upd (upd H dx (.own x)) x (.ins D.co dx [])) (fun v H3 => v = .non ∧ Q (.ref x) H3) E0
theorem r_role {t : TA} {σ : L2.St} {H : Hp} {Q : VK} (q : t σ H fun vs H1 => RoAt D vs H1 Q) : tRole D t σ H Q := q
theorem PartsOk.same {H H' : Hp} {cal : Bool} {f : Str} {l : Addr} {rs : List Addr} {ms : List Str} {nm : Str} {k : Nat} {s : Addr} {calm : List Str} (e : Same H H') (G : PartsOk D H cal f l rs ms nm k s calm) : PartsOk D H' cal f l rs ms nm k s calm :=
  ⟨G.gf, e _ _ G.lr, G.rows.same e, G.r6, e _ _ G.ls, G.gc, G.nd, G.nf, G.c6⟩
theorem r_roat {cal : Bool} {f : Str} {l : Addr} {rs : List Addr} {ms : List Str} {nm : Str} {k : Nat} {s : Addr} {calm : List Str} {H : Hp} {Q : VK} (G : PartsOk D H cal f l rs ms nm k s calm) (q : ∀ H' x ys, Same H H' → ys.Perm calm → RoleAt D.co H' x (sideS cal) f rs ys → Q (.ref x) H') :
    RoAt D [.str (sideS cal), .str f, .ref l, .ref s] H Q := by
  intro x dx hx hdx ne
  have s1 : Same H (upd (upd H dx (.own x)) x (.ins D.co dx [])) := fun a u e => by
    rw [upd_ne (ne_of_none e hx), upd_ne (ne_of_none e hdx)]
    exact e
  refine ⟨x, dx, cal, f, l, rs, ms, nm, k, s, calm, rfl, upd_same, G.same s1, fun H' ys o hP r => ⟨rfl, q H' x ys (fun a u e => ?_) hP r⟩⟩
  exact o a u (s1 _ _ e) (ne_of_none e hx)
end
end K67
-- deps: RoleMake2
namespace K67
open PySem PySem.Spec PyProof.Rows L2
section
variable {P : Program} {w : World} {K : PySem.W.Frag} {mg : Str → Option Value} {base : Heap} {D : Adr}
/-- ** of a large base -/
theorem op_powB {X : Cx} : OpR X (binaryOp .Pow) (rI (fun i j => 0 ≤ j ∧ (Builtin.Int.intBits i : Int) * j ≤ 2 ^ 27) fun i j => .int (i ^ j.toNat)) := opI fun _ _ _ _ _ _ _ hc q => PyProof.Rows.pow_int hc.1 hc.2 q
theorem r_rI {C : Int → Int → Prop} {f : Int → Int → V} {i j : Int} {H : Hp} {Q : VK} (c : C i j) (q : Q (f i j) H) : rI C f (.int i) (.int j) H Q := ⟨i, j, rfl, rfl, c, q⟩
/-- a purse of the law: its numbers, at most c draws by number so far -/
def Purse (H : Hp) (p : Addr) (c : Nat) : Prop := ∃ x y t : Int, H p = some (.lst [.int x, .int y, .int t]) ∧ 0 ≤ x ∧ 0 ≤ y ∧ y < 2147483629 ∧ 0 ≤ t ∧ t ≤ (c : Nat)
theorem Purse.same {H H' : Hp} {p : Addr} {c : Nat} (s : Same H H') (h : Purse H p c) : Purse H' p c := let ⟨x, y, t, e, r⟩ := h; ⟨x, y, t, s _ _ e, r⟩
theorem Purse.more {H : Hp} {p : Addr} {c d : Nat} (h : Purse H p c) (l : c ≤ d) : Purse H p d := let ⟨x, y, t, e, a, b, b', c1, c2⟩ := h; ⟨x, y, t, e, a, b, b', c1, by omega⟩
abbrev sp_law_purse (K : PySem.W.Frag) (D : Adr) : Sp := Sp2 fun a b H Q => ∃ l, ∃ ns : List Int, ∃ i : Nat, a = .ref l ∧ b = .int i ∧ SqL K H l (ns.map V.int) ∧ ∀ H' p, H p = none → Same H H' → Purse H' p 0 → Q (.ref p) H'
theorem pow18 : CPow 10 18 := ⟨by decide, by decide, by decide⟩
theorem pow40 : CPow 10 40 := ⟨by decide, by decide, by decide⟩
theorem pow400 : (0 : Int) ≤ 10 ∧ (Builtin.Int.intBits ((10 : Int) ^ (40 : Int).toNat) : Int) * 10 ≤ 2 ^ 27 := by decide +kernel
theorem big_pos : (0 : Int) < ((10 : Int) ^ (40 : Int).toNat) ^ (10 : Int).toNat := by decide +kernel
theorem sc_law_purse : FnScope ["_law_script", "_law_at", "_law_cell"] ["_law_script", "_law_at"] (defScope (top 63)) := ⟨rfl, rfl, rfl, by decide +kernel, rfl, by decide +kernel, by decide +kernel⟩
theorem ok_law_purse (F : Df K mg "_law_purse" 63) (B : Bl mg) : Cal P w K mg base 1 "_law_purse" (sp_law_purse K D) := by
  have sc := sc_law_purse
  refine mk_cal F sc len2 (fun _ _ _ _ _ _ us hl => match us, hl with | [_, _], _ => rfl) (fun f cdv A outer s H vs Q E hr h => ?_)
  obtain ⟨a0, a1, rfl, h⟩ := h
  refine ⟨_, (pss_cons (ps_set (i := 2) sc.nd rfl (.inl rfl) pe_int)
  (pss_cons (ps_if (pt_cmpR op_lt (pv 1) (pe_callB call_lenS rfl B.len_ (by decide +kernel) (pa_cons (pv 0) pa_nil)) (nomark _)) (pss_one (ps_set (i := 2) sc.nd rfl (.inl rfl) (pe_ix ix_list (pv 0) (pv 1) (fun _ _ => rfl)))) pss_nil)
  (pss_one (ps_ret (pe_lst (pa_cons (pe_op op_mod (pe_callTy call_intI rfl B.int_ (by decide +kernel) (pa_cons (pe_callB (call_mx rfl) rfl B.max_ (by decide +kernel) (pa_cons (pe_op op_sub (pv 2) (pe_op op_pow pe_int pe_int)) (pa_cons pe_int pa_nil))) pa_nil)) (pe_op op_powB (pe_op op_pow pe_int pe_int) pe_int)) (pa_cons (pe_op op_mod (pe_callTy call_intI rfl B.int_ (by decide +kernel) (pa_cons (pv 2) pa_nil)) pe_int) (pa_cons pe_int pa_nil)))))))), ?_⟩
  obtain ⟨l, ns, i, rfl, rfl, hl, q⟩ := h
  have fin : ∀ cell : Int, tRet (tLst (tCons (tOp (rI (fun _ j => 0 < j) fun i j => .int (i % j)) (tCB rIntI (tCons (tCB rMx (tCons (tOp (rI0 fun i j => .int (i - j)) (tVar 2) (tOp (rI CPow fun i j => .int (i ^ j.toNat)) (tC (.int 10)) (tC (.int 18)))) (tCons (tC (.int 0)) tNil))) tNil)) (tOp (rI (fun i j => 0 ≤ j ∧ (Builtin.Int.intBits i : Int) * j ≤ 2 ^ 27) fun i j => .int (i ^ j.toNat)) (tOp (rI CPow fun i j => .int (i ^ j.toNat)) (tC (.int 10)) (tC (.int 40))) (tC (.int 10)))) (tCons (tOp (rI (fun _ j => 0 < j) fun i j => .int (i % j)) (tCB rIntI (tCons (tVar 2) tNil)) (tC (.int 2147483629))) (tCons (tC (.int 0)) tNil)))) { nx := fun _ H' => Q .non H', rt := Q } [some (.ref l), some (.int i), some (.int cell)] H := fun cell => by
    walk_at "rd"
    refine r_rI pow18 ?_
    walk_at "rd"
    refine r_rI pow40 ?_
    walk_at "rd"
    refine r_rI pow400 ?_
    walk_at "rd"
    refine r_rI big_pos ?_
    walk_at "rd"
    refine r_rI (by decide) ?_
    walk_at "rd"
    refine ⟨sz3, fun p hp => ?_⟩
    refine q _ p hp (same_upd hp) ⟨_, _, 0, upd_same, Int.emod_nonneg _ (Int.ne_of_gt big_pos), Int.emod_nonneg _ (by decide), Int.emod_lt_of_pos _ (by decide), by decide, by decide⟩
  walk_at "rd"
  refine r_lenL hl ?_
  walk_at "rd"
  rw [List.length_map]
  by_cases h : i < ns.length
  · refine if_t (decide_eq_true (by omega)) ?_
    walk_at "rd"
    refine r_ixL hl (at_of (j := i) rfl (by rw [List.getElem?_map, List.getElem?_eq_getElem h]; rfl)) ?_
    exact fin _
  · refine if_f (decide_eq_false (by omega)) ?_
    exact fin 0
abbrev sp_law_draw (K : PySem.W.Frag) (D : Adr) : Sp := Sp2 fun a b H Q => ∃ p, ∃ m : Int, ∃ c : Nat, a = .ref p ∧ b = .int m ∧ 1 ≤ m ∧ m ≤ 1000 ∧ Purse H p c ∧ c ≤ 1000 ∧ ∀ d H', 0 ≤ d → d < m → Off p H H' → Purse H' p (c + 1) → Q (.int d) H'
theorem sc_law_draw : FnScope ["_law_purse_here", "_law_many", "_law_drawn", "_law_turn", "_law_number"] ["_law_purse_here", "_law_many"] (defScope (top 64)) := ⟨rfl, rfl, rfl, by decide +kernel, rfl, by decide +kernel, by decide +kernel⟩
theorem ok_law_draw (F : Df K mg "_law_draw" 64) (B : Bl mg) : Cal P w K mg base 1 "_law_draw" (sp_law_draw K D) := by
  have sc := sc_law_draw
  refine mk_cal F sc len2 (fun _ _ _ _ _ _ us hl => match us, hl with | [_, _], _ => rfl) (fun f cdv A outer s H vs Q E hr h => ?_)
  obtain ⟨a0, a1, rfl, h⟩ := h
  refine ⟨_, (pss_cons (ps_if (pt_cmpR op_gt (pe_ix ix_list (pv 0) pe_int (fun _ _ => rfl)) pe_int (nomark _)) (pss_cons (ps_set (i := 2) sc.nd rfl (.inl rfl) (pe_op op_mod (pe_callTy call_intI rfl B.int_ (by decide +kernel) (pa_cons (pe_ix ix_list (pv 0) pe_int (fun _ _ => rfl)) pa_nil)) (pv 1)))
  (pss_cons (ps_asg (pe_op op_fdiv (pe_ix ix_list (pv 0) pe_int (fun _ _ => rfl)) (pv 1)) (pg_sub (pv 0) pe_int set_list))
  (pss_one (ps_ret (pv 2))))) pss_nil)
  (pss_cons (ps_set (i := 3) sc.nd rfl (.inl rfl) (pe_op op_add (pe_ix ix_list (pv 0) pe_int (fun _ _ => rfl)) pe_int))
  (pss_cons (ps_asg (pv 3) (pg_sub (pv 0) pe_int set_list))
  (pss_cons (ps_set (i := 4) sc.nd rfl (.inl rfl) (pe_op op_mod (pe_callTy call_intI rfl B.int_ (by decide +kernel) (pa_cons (pe_op op_mul (pe_op op_add (pe_ix ix_list (pv 0) pe_int (fun _ _ => rfl)) (pe_op op_mul pe_int (pv 3))) (pe_op op_add (pe_op op_mul (pv 3) (pv 3)) pe_int)) pa_nil)) pe_int))
  (pss_cons (ps_set (i := 4) sc.nd rfl (.inl rfl) (pe_op op_mod (pe_callTy call_intI rfl B.int_ (by decide +kernel) (pa_cons (pe_op op_add (pe_op op_mul (pv 4) (pv 4)) (pv 3)) pa_nil)) pe_int))
  (pss_one (ps_ret (pe_op op_mod (pe_op op_fdiv (pe_op op_mod (pe_callTy call_intI rfl B.int_ (by decide +kernel) (pa_cons (pe_op op_mul (pv 4) pe_int) pa_nil)) pe_int) pe_int) (pv 1))))))))), ?_⟩
  obtain ⟨p, m, c, rfl, rfl, m1, m2, ⟨x, y, t, hp, x0, y0, y1, t0, t1⟩, hc, q⟩ := h
  walk_at "rd"
  refine r_ixL (.of hp) (at_of (j := 0) rfl rfl) ?_
  walk_at "rd"
  by_cases hx : x > 0
  · refine if_t (decide_eq_true hx) ?_
    walk_at "rd"
    refine r_ixL (.of hp) (at_of (j := 0) rfl rfl) ?_
    walk_at "rd"
    refine r_rI (show 0 < m by omega) ?_
    walk_at "rd"
    refine r_ixL (.of hp) (at_of (j := 0) rfl rfl) ?_
    walk_at "rd"
    refine r_rI ⟨by omega, by omega⟩ ?_
    walk_at "rd"
    refine r_sub ?_
    walk_at "rd"
    refine ⟨p, _, 0, 0, rfl, rfl, hp, rfl, ?_⟩
    walk_at "rd"
    refine q _ _ (Int.emod_nonneg _ (by omega)) (Int.emod_lt_of_pos _ (by omega)) .put ⟨x / m, y, t, upd_same, Int.ediv_nonneg (by omega) (by omega), y0, y1, t0, by omega⟩
  · refine if_f (decide_eq_false hx) ?_
    walk_at "rd"
    refine r_ixL (.of hp) (at_of (j := 2) rfl rfl) ?_
    walk_at "rd"
    refine r_sub ?_
    walk_at "rd"
    refine ⟨p, _, 2, 2, rfl, rfl, hp, rfl, ?_⟩
    have hp2 : (upd H p (.lst [.int x, .int y, .int (t + 1)])) p = some (.lst [.int x, .int y, .int (t + 1)]) := upd_same
    have e2 : ([.int x, .int y, .int t] : List V).set 2 (.int (t + 1)) = [.int x, .int y, .int (t + 1)] := rfl
    rw [e2]
    walk_at "rd"
    refine r_ixL (.of hp2) (at_of (j := 1) rfl rfl) ?_
    walk_at "rd"
    refine r_rI (.inl ⟨by decide, by decide⟩) ?_
    walk_at "rd"
    refine r_rI (.inl ⟨by omega, by omega⟩) ?_
    walk_at "rd"
    have tt : (t + 1) * (t + 1) ≤ 1001 * 1001 := Int.mul_le_mul (by omega) (by omega) (by omega) (by decide)
    have tt0 : 0 ≤ (t + 1) * (t + 1) := Int.mul_nonneg (by omega) (by omega)
    refine r_rI (.inr ⟨by omega, by omega⟩) ?_
    walk_at "rd"
    refine r_rI (show (0 : Int) < 2147483629 by decide) ?_
    walk_at "rd"
    generalize hn1 : (y + 104729 * (t + 1)) * ((t + 1) * (t + 1) + 7919) % 2147483629 = n1
    have n1a : 0 ≤ n1 := by rw [← hn1]; exact Int.emod_nonneg _ (by decide)
    have n1b : n1 < 2147483629 := by rw [← hn1]; exact Int.emod_lt_of_pos _ (by decide)
    refine r_rI (.inl ⟨by omega, by omega⟩) ?_
    walk_at "rd"
    refine r_rI (show (0 : Int) < 2147483587 by decide) ?_
    walk_at "rd"
    generalize hn2 : (n1 * n1 + (t + 1)) % 2147483587 = n2
    have n2a : 0 ≤ n2 := by rw [← hn2]; exact Int.emod_nonneg _ (by decide)
    have n2b : n2 < 2147483587 := by rw [← hn2]; exact Int.emod_lt_of_pos _ (by decide)
    refine r_rI (.inl ⟨by omega, by omega⟩) ?_
    walk_at "rd"
    refine r_rI (show (0 : Int) < 2147483647 by decide) ?_
    walk_at "rd"
    refine r_rI (by constructor <;> decide) ?_
    walk_at "rd"
    refine r_rI (show 0 < m by omega) ?_
    refine q _ _ (Int.emod_nonneg _ (by omega)) (Int.emod_lt_of_pos _ (by omega)) .put ⟨x, y, t + 1, upd_same, x0, y0, y1, by omega, by omega⟩
abbrev sp_law_pick (K : PySem.W.Frag) (D : Adr) : Sp := Sp2 fun a b H Q => ∃ p l xs, ∃ c : Nat, a = .ref p ∧ b = .ref l ∧ H l = some (.lst xs) ∧ l ≠ p ∧ 1 ≤ xs.length ∧ xs.length ≤ 1000 ∧ Purse H p c ∧ c ≤ 1000 ∧ ∀ v H', v ∈ xs → Off p H H' → Purse H' p (c + 1) → Q v H'
theorem sc_law_pick : FnScope ["_law_purse_here", "_law_items"] ["_law_purse_here", "_law_items"] (defScope (top 65)) := ⟨rfl, rfl, rfl, by decide +kernel, rfl, by decide +kernel, by decide +kernel⟩
theorem ok_law_pick (F : Df K mg "_law_pick" 65) (B : Bl mg) (c_law_draw : Cal P w K mg base 1 "_law_draw" (sp_law_draw K D)) : Cal P w K mg base 2 "_law_pick" (sp_law_pick K D) := by
  have sc := sc_law_pick
  refine mk_cal F sc len2 (fun _ _ _ _ _ _ us hl => match us, hl with | [_, _], _ => rfl) (fun f cdv A outer s H vs Q E hr h => ?_)
  obtain ⟨a0, a1, rfl, h⟩ := h
  refine ⟨_, (pss_one (ps_ret (pe_ix ix_list (pv 1) (pe_c c_law_draw hr (by decide) rfl (pa_cons (pv 0) (pa_cons (pe_callB call_lenS rfl B.len_ (by decide +kernel) (pa_cons (pv 1) pa_nil)) pa_nil))) (fun _ _ => rfl)))), ?_⟩
  obtain ⟨p, l, xs, c, rfl, rfl, hl, nl, x1, x2, hP, hc, q⟩ := h
  walk_at "rd"
  refine r_lenL (.of hl) ?_
  walk_at "rd"
  refine ⟨p, xs.length, c, rfl, rfl, by omega, by omega, hP, hc, fun d H1 d0 d1 o hP1 => ?_⟩
  obtain ⟨j, rfl⟩ := Int.eq_ofNat_of_zero_le d0
  have hj : j < xs.length := by omega
  refine r_ixL (.of (o _ _ hl nl)) (at_of (j := j) rfl (List.getElem?_eq_getElem hj)) ?_
  exact q _ _ (List.getElem_mem hj) o hP1
end
end K67
-- deps: Purse
namespace K67
open PySem PySem.Spec PyProof.Rows L2
/-! ### the plain law of the drawn names -/
def vows : List Str := ["a", "e", "o", "s", "z"]
def vowC : List Nat := [97, 101, 111, 115, 122]
theorem app_cps (a b : Str) : (a ++ b).cps.toList = a.cps.toList ++ b.cps.toList := by
  show (a.cps ++ b.cps).toList = _
  rw [Array.toList_append]
theorem app_len (a b : Str) : (a ++ b).length = a.length + b.length := by
  show (a.cps ++ b.cps).size = _
  rw [Array.size_append]
  rfl
theorem len_cps (a : Str) : a.cps.toList.length = a.length := Array.length_toList
theorem vow_one {y : Str} (h : y ∈ vows) : y.length = 1 ∧ ∀ c ∈ y.cps.toList, c ∈ vowC := by
  simp only [vows, List.mem_cons, List.not_mem_nil, or_false] at h
  rcases h with rfl | rfl | rfl | rfl | rfl <;> exact ⟨by decide +kernel, by decide +kernel⟩
theorem join_vows : ∀ ys : List Str, (∀ y ∈ ys, y ∈ vows) → (Str.join Str.empty ys).length = ys.length ∧ ∀ c ∈ (Str.join Str.empty ys).cps.toList, c ∈ vowC
  | [], _ => ⟨rfl, fun c h => absurd (show c ∈ ([] : List Nat) from h) List.not_mem_nil⟩
  | [x], h => ⟨(vow_one (h x (List.mem_cons_self ..))).1, (vow_one (h x (List.mem_cons_self ..))).2⟩
  | x :: y :: r, h => by
    have h1 := vow_one (h x (List.mem_cons_self ..))
    have h2 := join_vows (y :: r) fun z hz => h z (List.mem_cons_of_mem _ hz)
    have e : Str.join Str.empty (x :: y :: r) = x ++ Str.empty ++ Str.join Str.empty (y :: r) := rfl
    have z0 : Str.empty.length = 0 := rfl
    refine ⟨by rw [e, app_len, app_len, h1.1, h2.1, z0, List.length_cons (a := x)]; omega, fun c hc => ?_⟩
    rw [e, app_cps, app_cps] at hc
    rcases List.mem_append.mp hc with hc | hc
    · rcases List.mem_append.mp hc with hc | hc
      · exact h1.2 c hc
      · exact absurd (show c ∈ ([] : List Nat) from hc) List.not_mem_nil
    · exact h2.2 c hc
/-- the k-th name: the tail cut, a letter between, an "a" more where k is odd -/
def nameK (tail : Str) (cut : Nat) (pl : Nat) (k : Nat) : Str := cutS tail none (some cut) ++ (⟨#[97 + pl]⟩ : Str) ++ cutS tail (some cut) none ++ (if k % 2 = 1 then ("a" : Str) else Str.empty)
theorem nameK_cps {tail : Str} {cut pl k : Nat} (h : cut ≤ tail.length) : (nameK tail cut pl k).cps.toList = tail.cps.toList.take cut ++ ([97 + pl] ++ (tail.cps.toList.drop cut ++ (if k % 2 = 1 then [97] else []))) := by
  unfold nameK
  rw [app_cps, app_cps, app_cps, List.append_assoc, List.append_assoc]
  have e1 : (cutS tail none (some cut)).cps.toList = tail.cps.toList.take cut := by
    unfold cutS
    rw [HT.sIx_none, HT.sIx_nat, List.drop_zero, Nat.sub_zero, Nat.min_eq_left h]
  have e2 : (cutS tail (some cut) none).cps.toList = tail.cps.toList.drop cut := by
    unfold cutS
    rw [HT.sIx_none, HT.sIx_nat, Nat.min_eq_left h]
    show List.take _ _ = _
    rw [List.take_of_length_le (by rw [List.length_drop, len_cps]; exact Nat.le_refl _)]
  rw [e1, e2]
  congr 3
  split <;> rfl
theorem nameK_len {tail : Str} {cut pl k : Nat} (h : cut ≤ tail.length) : (nameK tail cut pl k).length = tail.length + 1 + k % 2 := by
  rw [← len_cps, nameK_cps h, List.length_append, List.length_append, List.length_append, List.length_take, List.length_drop, len_cps, Nat.min_eq_left h]
  have : (if k % 2 = 1 then [97] else ([] : List Nat)).length = k % 2 := by
    by_cases e : k % 2 = 1
    · rw [if_pos e, e]
      rfl
    · rw [if_neg e]
      show 0 = _
      omega
  rw [this]
  show cut + (1 + _) = _
  omega
def timeoutC : List Nat := [116, 105, 109, 101, 111, 117, 116]
theorem nameK_good {tail : Str} {cut pl k : Nat} (h : cut ≤ tail.length) (ht : ∀ c ∈ tail.cps.toList, c ∈ vowC) (h5 : tail.length ≤ 5) (hp : pl < 26) : Good (nameK tail cut pl k) := by
  have hl := nameK_len (pl := pl) (k := k) h
  have hc := nameK_cps (pl := pl) (k := k) h
  have vr : ∀ c ∈ vowC, 97 ≤ c ∧ c ≤ 122 := by decide
  refine ⟨fun e => ?_, by omega, by omega, fun c hm => ?_⟩
  · have l7 : (nameK tail cut pl k).length = 7 := by rw [e]; decide +kernel
    have hk : k % 2 = 1 := by omega
    have e2 : timeoutC = (nameK tail cut pl k).cps.toList := by rw [e]; decide +kernel
    have e3 : (nameK tail cut pl k).cps.toList = (tail.cps.toList.take cut ++ ([97 + pl] ++ tail.cps.toList.drop cut)) ++ [97] := by rw [hc, if_pos hk, List.append_assoc, List.append_assoc]
    rw [e3] at e2
    have e4 := congrArg (fun z : List Nat => z.getLast?) e2
    simp only [List.getLast?_concat] at e4
    exact absurd e4 (by decide)
  · rw [hc] at hm
    rcases List.mem_append.mp hm with hm | hm
    · exact vr c (ht c (List.mem_of_mem_take hm))
    · rcases List.mem_append.mp hm with hm | hm
      · rw [List.mem_singleton.mp hm]
        omega
      · rcases List.mem_append.mp hm with hm | hm
        · exact vr c (ht c (List.mem_of_mem_drop hm))
        · split at hm
          · rw [List.mem_singleton.mp hm]
            omega
          · exact absurd hm List.not_mem_nil
theorem nameK_inj {tail : Str} {cut p1 p2 j k : Nat} (h : cut ≤ tail.length) (e : nameK tail cut p1 j = nameK tail cut p2 k) : p1 = p2 ∧ j % 2 = k % 2 := by
  have hl := congrArg Str.length e
  rw [nameK_len h, nameK_len h] at hl
  have hc := congrArg (fun z : Str => z.cps.toList) e
  simp only [nameK_cps h] at hc
  have hc := List.append_cancel_left hc
  injection hc with hc _
  exact ⟨by omega, by omega⟩
def stepOk (st : Nat) : Prop := st = 1 ∨ st = 3 ∨ st = 5 ∨ st = 7 ∨ st = 9 ∨ st = 11
theorem place_inj {s st j k : Nat} (h : stepOk st) (hj : j < 6) (hk : k < 6) (e : (s + st * j) % 26 = (s + st * k) % 26) : j = k := by
  rcases h with rfl | rfl | rfl | rfl | rfl | rfl <;> omega
end K67
-- deps: LawNames
namespace K67
open PySem PySem.Spec PyProof.Rows L2
section
variable {P : Program} {w : World} {K : PySem.W.Frag} {mg : Str → Option Value} {base : Heap} {D : Adr}
/-- z * k, k 0 or 1 -/
def rMulS : R2 := fun x y H Q => ∃ z k, x = .str z ∧ y = .int k ∧ ((k = 0 ∧ Q (.str Str.empty) H) ∨ (k = 1 ∧ Q (.str z) H))
theorem op_mulS {X : Cx} : OpR X (binaryOp .Mult) rMulS := by
  intro pins s σ H x y v u Q I rx ry h
  obtain ⟨z, k, rfl, rfl, h⟩ := h
  obtain ⟨t, rfl⟩ := rx
  obtain ⟨t', rfl⟩ := ry
  rcases h with ⟨rfl, q⟩ | ⟨rfl, q⟩
  · exact PySem.P.mul_str_none (by decide) (by decide) ⟨.str Str.empty, H, I.tok _, ⟨_, rfl⟩, q⟩
  · refine PySem.P.mul_str (by decide) (fun _ z => absurd z (by simp)) (fun _ z => absurd z (by simp)) ?_
    rw [if_neg (by decide), if_pos (by simp)]
    exact ⟨.str z, H, I, ⟨_, rfl⟩, q⟩
theorem r_mulS {z : Str} {k : Nat} {H : Hp} {Q : VK} (q : Q (.str (if k % 2 = 1 then z else Str.empty)) H) : rMulS (.str z) (.int ((k : Int) - 2 * ((k : Int) / 2))) H Q := by
  refine ⟨z, _, rfl, rfl, ?_⟩
  by_cases h : k % 2 = 1
  · rw [if_pos h] at q
    exact .inr ⟨by omega, q⟩
  · rw [if_neg h] at q
    exact .inl ⟨by omega, q⟩
theorem r_join {r : V → List V → Hp → VK → Prop} {to te : TE} {σ : L2.St} {H : Hp} {Q : VK} (q : to σ H fun x H1 => (∃ a, x = .str a) ∧ te σ H1 fun y H2 => r x [y] H2 Q) : tM1 r to te σ H Q := q
theorem Off.set {p d : Addr} {H H' : Hp} {u : HO} (o : Off p H H') (h : H d = none) : Off p H (upd H' d u) := fun a v e n => by
  rw [upd_ne (ne_of_none e h)]
  exact o a v e n
theorem Purse.put {p d : Addr} {H : Hp} {c : Nat} {u : HO} (h : Purse H p c) (n : p ≠ d) : Purse (upd H d u) p c := by
  obtain ⟨x, y, t, e, r⟩ := h
  exact ⟨x, y, t, by rw [upd_ne n]; exact e, r⟩
theorem Purse.ne {p d : Addr} {H : Hp} {c : Nat} (h : Purse H p c) (e : H d = none) : p ≠ d := by
  obtain ⟨x, y, t, e1, _⟩ := h
  exact ne_of_none e1 e
theorem sum_vows : ∀ ys : List Str, (∀ y ∈ ys, y ∈ vows) → (ys.map (·.length)).sum = ys.length
  | [], _ => rfl
  | y :: r, h => by
    rw [List.map_cons, List.sum_cons, sum_vows r fun z hz => h z (List.mem_cons_of_mem _ hz), (vow_one (h y (List.mem_cons_self ..))).1, List.length_cons]
    omega
theorem r_ixS {z : Str} {i : Int} {c : Nat} {H : Hp} {Q : VK} (l : z.length ≤ sizeLine) (e : atI z.cps.toList i = some c) (q : Q (.str ⟨#[c]⟩) H) : rIxS (.str z) (.int i) H Q := ⟨z, i, c, rfl, rfl, l, e, q⟩
theorem r_slS {z : Str} {lo hi : Option Int} {H : Hp} {Q : VK} (l : z.length ≤ sizeLine) (q : Q (.str (cutS z lo hi)) H) : rSlS (.str z) lo hi H Q := ⟨z, rfl, l, q⟩
theorem abc_at {i : Nat} (h : i < 26) : ("abcdefghijklmnopqrstuvwxyz" : Str).cps.toList[i]? = some (97 + i) := by
  have e : (List.range 26).all (fun i => ("abcdefghijklmnopqrstuvwxyz" : Str).cps.toList[i]? == some (97 + i)) = true := by decide +kernel
  exact eq_of_beq (List.all_eq_true.mp e i (List.mem_range.mpr h))
theorem nodup_range {n : Nat} {f : Nat → Str} (h : ∀ j k, j < n → k < n → f j = f k → j = k) : ((List.range n).map f).Nodup := by
  refine List.pairwise_map.mpr ?_
  refine (List.nodup_range (n := n)).imp_of_mem ?_
  intro a b ha hb ne e
  exact ne (h a b (List.mem_range.mp ha) (List.mem_range.mp hb) e)
abbrev sp_law_names (K : PySem.W.Frag) (D : Adr) : Sp := Sp2 fun a b H Q => ∃ p, ∃ n c : Nat, a = .ref p ∧ b = .int n ∧ n ≤ 6 ∧ Purse H p c ∧ c ≤ 900 ∧
  ∀ H' r (zs : List Str), Off p H H' → Purse H' p (c + 10) → H' r = some (.lst (zs.map V.str)) → r ≠ p → zs.length = n → zs.Nodup → (∀ z ∈ zs, Good z) → Q (.ref r) H'
theorem sc_law_names : FnScope ["_law_purse_here", "_law_many", "_law_tail", "_law_cut", "_law_start", "_law_step", "_law_letters", "_law_places", "_law_k", "_law_at", "_law_turn"] ["_law_purse_here", "_law_many"] (defScope (top 66)) := ⟨rfl, rfl, rfl, by decide +kernel, rfl, by decide +kernel, by decide +kernel⟩
theorem ok_law_names (F : Df K mg "_law_names" 66) (B : Bl mg) (c_law_draw : Cal P w K mg base 1 "_law_draw" (sp_law_draw K D)) (c_law_pick : Cal P w K mg base 2 "_law_pick" (sp_law_pick K D)) : Cal P w K mg base 3 "_law_names" (sp_law_names K D) := by
  have sc := sc_law_names
  refine mk_cal F sc len2 (fun _ _ _ _ _ _ us hl => match us, hl with | [_, _], _ => rfl) (fun f cdv A outer s H vs Q E hr h => ?_)
  obtain ⟨a0, a1, rfl, h⟩ := h
  refine ⟨_, (pss_cons (ps_set (i := 2) sc.nd rfl (.inr rfl) (pe_join pe_str (pe_lc (own := [("_law_turn", 10)]) (g := gName 10) (tt := tYes) rfl sc.nd (pi_range1 rfl B.range_ (pa_cons (pe_c c_law_draw hr (by decide) rfl (pa_cons (pv 0) (pa_cons pe_int pa_nil))) pa_nil)) (blkOk_by (own := [("_law_turn", 10)]) (N := ["_law_purse_here", "_law_many", "_law_tail", "_law_cut", "_law_start", "_law_step", "_law_letters", "_law_places", "_law_k", "_law_at", "_law_turn"]) (sc := defScope (top 66)) (by decide +kernel)) (fun _ _ _ _ _ => pg_name (i := 10) sc.nd rfl (Or.inl rfl)) (fun _ _ _ _ _ => pts_nil) (fun _ _ _ _ _ => (pe_c c_law_pick hr (by decide) rfl (pa_cons (pv 0) (pa_cons (pe_lst (pa_cons pe_str (pa_cons pe_str (pa_cons pe_str (pa_cons pe_str (pa_cons pe_str pa_nil)))))) pa_nil)))))))
  (pss_cons (ps_set (i := 3) sc.nd rfl (.inr rfl) (pe_c c_law_draw hr (by decide) rfl (pa_cons (pv 0) (pa_cons (pe_op op_add (pe_callB call_lenT rfl B.len_ (by decide +kernel) (pa_cons (pv 2) pa_nil)) pe_int) pa_nil))))
  (pss_cons (ps_asg (pe_tup (pa_cons (pe_c c_law_draw hr (by decide) rfl (pa_cons (pv 0) (pa_cons pe_int pa_nil))) (pa_cons (pe_c c_law_pick hr (by decide) rfl (pa_cons (pv 0) (pa_cons (pe_lst (pa_cons pe_int (pa_cons pe_int (pa_cons pe_int (pa_cons pe_int (pa_cons pe_int (pa_cons pe_int pa_nil))))))) pa_nil))) pa_nil))) (pg_tup rfl (pgs_cons (pg_name (i := 4) sc.nd rfl (.inr rfl)) (pgs_cons (pg_name (i := 5) sc.nd rfl (.inr rfl)) pgs_nil))))
  (pss_cons (ps_set (i := 6) sc.nd rfl (.inr rfl) pe_str)
  (pss_cons (ps_setLc (i := 7) (own := [("_law_k", 8)]) (g := gName 8) (tt := tYes) rfl sc.nd rfl rfl (sw_true rfl rfl rfl (by decide +kernel)) (pi_range1 rfl B.range_ (pa_cons (pv 1) pa_nil)) (blkOk_by (own := [("_law_k", 8)]) (N := ["_law_purse_here", "_law_many", "_law_tail", "_law_cut", "_law_start", "_law_step", "_law_letters", "_law_places", "_law_k", "_law_at", "_law_turn"]) (sc := defScope (top 66)) (by decide +kernel)) (fun _ _ _ _ _ => pg_name (i := 8) sc.nd rfl (Or.inl rfl)) (fun _ _ _ _ _ => pts_nil) (fun _ _ _ _ _ => (pe_op op_mod (pe_callTy call_intI rfl B.int_ (by decide +kernel) (pa_cons (pe_op op_add (pv 4) (pe_op op_mul (pv 5) (pv 8))) pa_nil)) pe_int)))
  (pss_one (ps_ret (pe_lc (own := [("_law_k", 8), ("_law_at", 9)]) (g := gTup K 2 (gCons (gName 8) (gCons (gName 9) gNil))) (tt := tYes) rfl sc.nd (pi_enum rfl B.enumerate_ (pa_cons (pv 7) pa_nil)) (blkOk_by (own := [("_law_k", 8), ("_law_at", 9)]) (N := ["_law_purse_here", "_law_many", "_law_tail", "_law_cut", "_law_start", "_law_step", "_law_letters", "_law_places", "_law_k", "_law_at", "_law_turn"]) (sc := defScope (top 66)) (by decide +kernel)) (fun _ _ _ _ _ => (pg_tup rfl (pgs_cons (pg_name (i := 8) sc.nd rfl (.inl rfl)) (pgs_cons (pg_name (i := 9) sc.nd rfl (.inl rfl)) pgs_nil)))) (fun _ _ _ _ _ => pts_nil) (fun _ _ _ _ _ => (pe_op op_addT (pe_op op_addT (pe_op op_addT (pe_slice sl_str (pv 2) po_none (po_some (pv 3))) (pe_ix ix_str (pv 6) (pv 9) (fun _ _ => rfl))) (pe_slice sl_str (pv 2) (po_some (pv 3)) po_none)) (pe_op op_mulS pe_str (pe_op op_sub (pv 8) (pe_op op_mul pe_int (pe_op op_fdiv (pv 8) pe_int)))))))))))))), ?_⟩
  obtain ⟨p, n, c, rfl, rfl, hn, hP, hc, q⟩ := h
  walk_at "rd"
  refine r_join ?_
  walk_at "rd"
  refine ⟨⟨_, rfl⟩, ?_⟩
  walk_at "rd"
  refine ⟨p, 6, c, rfl, rfl, by decide, by decide, hP, by omega, fun d H1 d0 d1 o1 P1 => ?_⟩
  obtain ⟨m, rfl⟩ := Int.eq_ofNat_of_zero_le d0
  refine ⟨_, rfl, by omega, by omega, fun pl hpl => ?_⟩
  have npl := P1.ne hpl
  refine lc_range (fun i H' => Off p H1 H' ∧ Purse H' p (c + 1 + i) ∧ ∃ ys : List Str, H' pl = some (.lst (ys.map V.str)) ∧ ys.length = i ∧ ∀ y ∈ ys, y ∈ vows) ⟨.same (same_upd hpl), P1.put npl, [], upd_same, rfl, fun _ z => absurd z List.not_mem_nil⟩ ?_ ?_
  · rintro i H2 hi ⟨o2, P2, ys, e2, l2, v2⟩
    have hi : i < 6 := by omega
    walk_at "rd"
    refine ⟨rfl, ?_⟩
    walk_at "rd"
    refine if_t rfl ?_
    walk_at "rd"
    refine ⟨szK (by simp), fun l hl => ?_⟩
    have s3 := same_upd (o := .lst [.str "a", .str "e", .str "o", .str "s", .str "z"]) hl
    walk_at "rd"
    refine ⟨p, l, [.str "a", .str "e", .str "o", .str "s", .str "z"], c + 1 + i, rfl, rfl, upd_same, (P2.ne hl).symm, Nat.le_of_ble_eq_true rfl, Nat.le_of_ble_eq_true rfl, P2.same s3, by omega, fun v H4 hv o4 P4 => ?_⟩
    obtain ⟨z, hz, rfl⟩ : ∃ z, z ∈ vows ∧ v = V.str z := by
      have : v ∈ vows.map V.str := hv
      obtain ⟨z, hz, e⟩ := List.mem_map.mp this
      exact ⟨z, hz, e.symm⟩
    have e4 := o4 _ _ (s3 _ _ e2) npl.symm
    refine ⟨_, e4, small1000 (by rw [List.length_map]; omega), ((o2.trans (.same s3)).trans o4).set hpl, P4.put npl, ys ++ [z], by rw [upd_same, List.map_append]; rfl, by rw [List.length_append, l2]; rfl, fun y hy => ?_⟩
    rcases List.mem_append.mp hy with h | h
    · exact v2 y h
    · rw [List.mem_singleton.mp h]
      exact hz
  · rintro H2 ⟨o2, P2, ys, e2, l2, v2⟩
    have hm : ys.length ≤ 5 := by omega
    have hj := join_vows ys v2
    refine ⟨_, pl, ys, rfl, rfl, .inl (.of e2), by rw [sum_vows ys v2, show (Str.ofString "").length = 0 from rfl]; omega, ?_⟩
    rw [TL.join_eq, show Str.ofString "" = Str.empty from rfl]
    generalize Str.join Str.empty ys = tail at hj
    have h5 : tail.length ≤ 5 := by omega
    have sz5 : tail.length ≤ sizeLine := Nat.le_trans h5 (by decide)
    have o12 := o1.trans o2
    have P2 := P2.more (show c + 1 + (((m : Nat) : Int).toNat) ≤ c + 6 by omega)
    generalize hP2 : c + 6 = c2 at P2
    clear e2 hpl npl
    walk_at "rd"
    refine r_lenT sz5 ?_
    walk_at "rd"
    refine ⟨p, (tail.length : Int) + 1, c2, rfl, rfl, by omega, by omega, P2, by omega, fun d3 H3 d30 d31 o3 P3 => ?_⟩
    obtain ⟨cut, rfl⟩ := Int.eq_ofNat_of_zero_le d30
    have hcut : cut ≤ tail.length := by omega
    walk_at "rd"
    refine ⟨p, 26, c2 + 1, rfl, rfl, by decide, by decide, P3, by omega, fun d4 H4 d40 d41 o4 P4 => ?_⟩
    obtain ⟨st, rfl⟩ := Int.eq_ofNat_of_zero_le d40
    walk_at "rd"
    refine ⟨szK (by simp), fun l hl => ?_⟩
    have s5 := same_upd (o := .lst [.int 1, .int 3, .int 5, .int 7, .int 9, .int 11]) hl
    walk_at "rd"
    refine ⟨p, l, [.int 1, .int 3, .int 5, .int 7, .int 9, .int 11], c2 + 2, rfl, rfl, upd_same, (P4.ne hl).symm, Nat.le_of_ble_eq_true rfl, Nat.le_of_ble_eq_true rfl, P4.same s5, by omega, fun v H6 hv o6 P6 => ?_⟩
    obtain ⟨sp, hsp, rfl⟩ : ∃ sp : Nat, stepOk sp ∧ v = V.int sp := by
      simp only [List.mem_cons, List.not_mem_nil, or_false] at hv
      rcases hv with e | e | e | e | e | e
      · exact ⟨1, .inl rfl, e⟩
      · exact ⟨3, .inr (.inl rfl), e⟩
      · exact ⟨5, .inr (.inr (.inl rfl)), e⟩
      · exact ⟨7, .inr (.inr (.inr (.inl rfl))), e⟩
      · exact ⟨9, .inr (.inr (.inr (.inr (.inl rfl)))), e⟩
      · exact ⟨11, .inr (.inr (.inr (.inr (.inr rfl)))), e⟩
    have o36 := ((o12.trans o3).trans o4).trans ((Off.same s5).trans o6)
    clear s5 hl o6 o4 o3 P4 P3
    walk_at "rd"
    refine ⟨sz2, fun t ht => ?_⟩
    have s7 := same_upd (o := .tup [.int st, .int sp]) ht
    have et : (upd H6 t (.tup [.int st, .int sp])) t = some (.tup [.int st, .int sp]) := upd_same
    have o7 := o36.trans (.same s7)
    have P7 := P6.same s7
    generalize upd H6 t (.tup [.int st, .int sp]) = H7 at et o7 P7
    refine r_gtup (.of et) rfl ?_
    walk_at "rd"
    refine ⟨_, rfl, by omega, by omega, fun pp hpp => ?_⟩
    have npp := P7.ne hpp
    generalize hP8 : c2 + 3 = c3 at P7
    have c3le : c3 ≤ c + 10 := by omega
    have P7 : Purse H7 p c3 := P7
    refine lc_range (fun i H' => Off p H7 H' ∧ Purse H' p c3 ∧ H' pp = some (.lst ((List.range i).map fun k => .int (((st + sp * k) % 26 : Nat) : Int)))) ⟨.same (same_upd hpp), P7.put npp, upd_same⟩ ?_ ?_
    · rintro i H8 hi ⟨o8, P8, e8⟩
      have hi : i < 6 := by omega
      walk_at "rd"
      refine ⟨rfl, ?_⟩
      walk_at "rd"
      refine if_t rfl ?_
      walk_at "rd"
      refine r_rI (.inr ⟨by omega, by omega⟩) ?_
      walk_at "rd"
      refine r_rI (show (0 : Int) < 26 by decide) ?_
      refine ⟨_, e8, small1000 (by rw [List.length_map, List.length_range]; omega), o8.set hpp, P8.put npp, ?_⟩
      rw [upd_same, range_succ_map]
      congr 5
      show ((st : Int) + (sp : Int) * (0 + (i : Int))) % 26 = (((st + sp * i) % 26 : Nat) : Int)
      rw [Int.zero_add, Int.natCast_emod, Int.natCast_add, Int.natCast_mul]
      rfl
    · rintro H8 ⟨o8, P8, e8⟩
      rw [show ((n : Nat) : Int).toNat = n from rfl] at e8
      walk_at "rd"
      refine r_enum ?_
      walk_at "rd"
      refine ⟨pp, _, rfl, .of e8, fun rr hrr => ?_⟩
      have nrr := P8.ne hrr
      have o08 := o7.trans o8
      refine lc_it (walk_enum (xs := (List.range n).map fun k => .int (((st + sp * k) % 26 : Nat) : Int))) (fun i H' => Off p H8 H' ∧ Purse H' p c3 ∧ H' pp = some (.lst ((List.range n).map fun k => .int (((st + sp * k) % 26 : Nat) : Int))) ∧ H' rr = some (.lst (((List.range i).map fun k => nameK tail cut ((st + sp * k) % 26) k).map V.str)))
        ⟨.same (same_upd hrr), P8.put nrr, same_upd hrr _ _ e8, upd_same⟩ (fun _ _ _ h => .of h.2.2.1) ?_ ?_
      · rintro i x H9 Ha hi ⟨o9, P9, e9, e10⟩ ⟨T1, x1, x2, rfl, hT1, rfl, f1, f2⟩
        rw [List.length_map, List.length_range] at hi
        obtain rfl : V.int (i : Nat) = x1 := Option.some.inj f1
        have f2 : ((List.range n).map fun k => V.int (((st + sp * k) % 26 : Nat) : Int))[i]? = some x2 := f2
        rw [List.getElem?_map, List.getElem?_range hi] at f2
        obtain rfl := Option.some.inj f2
        have sT := same_upd (o := .tup [.int (i : Nat), .int (((st + sp * i) % 26 : Nat) : Int)]) hT1
        have eT : (upd H9 T1 (.tup [.int (i : Nat), .int (((st + sp * i) % 26 : Nat) : Int)])) T1 = some (.tup [.int (i : Nat), .int (((st + sp * i) % 26 : Nat) : Int)]) := upd_same
        refine r_gtup (.of eT) rfl ?_
        generalize upd H9 T1 (.tup [.int (i : Nat), .int (((st + sp * i) % 26 : Nat) : Int)]) = Hb at sT eT
        walk_at "rd"
        refine ⟨rfl, ?_⟩
        walk_at "rd"
        refine if_t rfl ?_
        walk_at "rd"
        refine r_slice ?_
        walk_at "rd"
        refine ⟨_, rfl, ?_⟩
        refine ⟨_, rfl, ?_⟩
        refine r_slS sz5 ?_
        walk_at "rd"
        refine r_ixS (by decide +kernel) (atI_nat (abc_at (Nat.mod_lt _ (by decide)))) ?_
        have lenA : (cutS tail none (some (cut : Int))).length ≤ 5 := by
          show (List.take _ (List.drop _ tail.cps.toList)).toArray.size ≤ 5
          rw [List.size_toArray, List.length_take, List.length_drop, len_cps]
          omega
        have lenB : (cutS tail (some (cut : Int)) none).length ≤ 5 := by
          show (List.take _ (List.drop _ tail.cps.toList)).toArray.size ≤ 5
          rw [List.size_toArray, List.length_take, List.length_drop, len_cps]
          omega
        have l1 : ∀ q : Nat, (⟨#[q]⟩ : Str).length = 1 := fun _ => rfl
        refine r_addT (by rw [l1]; exact szK (by omega)) ?_
        walk_at "rd"
        refine r_slice ?_
        walk_at "rd"
        refine ⟨_, rfl, ?_⟩
        refine ⟨_, rfl, ?_⟩
        dsimp only [tNoPart]
        refine r_slS sz5 ?_
        walk_at "rd"
        refine r_addT (by rw [app_len, l1]; exact szK (by omega)) ?_
        walk_at "rd"
        refine r_rI ⟨by decide, by decide⟩ ?_
        walk_at "rd"
        refine r_rI (.inl ⟨by decide, by decide⟩) ?_
        walk_at "rd"
        refine r_mulS ?_
        have lenC : (if i % 2 = 1 then Str.ofString "a" else Str.empty).length ≤ 1 := by split <;> decide
        refine r_addT (by rw [app_len, app_len, l1]; exact szK (by omega)) ?_
        have e11 := sT _ _ e10
        refine ⟨_, e11, small1000 (by rw [List.length_map, List.length_map, List.length_range]; omega), (o9.trans (.same sT)).set hrr, (P9.same sT).put nrr, ?_, ?_⟩
        · rw [upd_ne (ne_of_none e8 hrr)]
          exact sT _ _ e9
        · rw [upd_same, List.range_succ, List.map_append, List.map_append]
          rfl
      · rintro H9 ⟨o9, P9, e9, e10⟩
        rw [List.length_map, List.length_range] at e10
        refine q _ rr _ (o08.trans o9) (P9.more c3le) e10 nrr.symm (by rw [List.length_map, List.length_range]) ?_ fun z hz => ?_
        · refine nodup_range fun j k hj hk e => ?_
          obtain ⟨e1, _⟩ := nameK_inj hcut e
          exact place_inj hsp (by omega) (by omega) e1
        · obtain ⟨k, hk, rfl⟩ := List.mem_map.mp hz
          exact nameK_good hcut hj.2 h5 (Nat.mod_lt _ (by decide))
end
end K67
-- deps: LawNames2
namespace K67
open PySem PySem.Spec PyProof.Rows L2
section
variable {P : Program} {w : World} {K : PySem.W.Frag} {mg : Str → Option Value} {base : Heap} {D : Adr}
theorem ring_ok {ms : List Str} {nm : Str} (N : Nms ms nm) {k i : Nat} (k6 : k ≤ 6) (hi : i < k) (cal : Bool) : ∃ m h mv th snd, ringRow cal ms nm k i = Row m h mv th snd ∧ RowOk m h mv th snd := by
  have h1 := N.good (show i < 6 by omega)
  have h2 := N.good (show (i + 1) % k < 6 from Nat.lt_of_lt_of_le (Nat.mod_lt _ (by omega)) k6)
  cases cal
  · exact ⟨_, _, _, _, _, rfl, h1, .inr N.gn, .inr rfl, h2, .inl rfl⟩
  · exact ⟨_, _, _, _, _, rfl, h1, .inl rfl, .inl rfl, h2, .inr ⟨nm, rfl, N.gn⟩⟩
abbrev sp_law_rule (K : PySem.W.Frag) (D : Adr) : Sp := Sp1 fun a H Q => ∃ t m h mv th snd, a = .ref t ∧ H t = some (.tup (Row m h mv th snd)) ∧ RowOk m h mv th snd ∧ ∀ H' x, Same H H' → RuleAt D.cr H' x (Row m h mv th snd) → Q (.ref x) H'
theorem sc_law_rule : FnScope ["_law_row"] ["_law_row"] (defScope (top 67)) := ⟨rfl, rfl, rfl, by decide +kernel, rfl, by decide +kernel, by decide +kernel⟩
theorem ok_law_rule (F : Df K mg "_law_rule" 67) (T : Txt mg D) (Z : Ks K D) (MR : RuleMk P w K mg base D) : Cal P w K mg base 6 "_law_rule" (sp_law_rule K D) := by
  have sc := sc_law_rule
  refine mk_cal F sc len1 (fun _ _ _ _ _ _ us hl => match us, hl with | [_], _ => rfl) (fun f cdv A outer s H vs Q E hr h => ?_)
  obtain ⟨a0, rfl, h⟩ := h
  refine ⟨_, (pss_one (ps_ret (pe_rule MR T.Rule (hr.mono (by decide)) rfl (pa_cons (pe_ix ix_tup (pv 0) pe_int (fun _ _ => rfl)) (pa_cons (pe_ix ix_tup (pv 0) pe_int (fun _ _ => rfl)) (pa_cons (pe_ix ix_tup (pv 0) pe_int (fun _ _ => rfl)) pa_nil))) (pk_cons (pe_ix ix_tup (pv 0) pe_int (fun _ _ => rfl)) (pk_cons (pe_ix ix_tup (pv 0) pe_int (fun _ _ => rfl)) (pk_cons (pe_ix ix_tup (pv 0) pe_int (fun _ _ => rfl)) pk_nil)))))), ?_⟩
  obtain ⟨t, m, h, mv, th, snd, rfl, ht, G, q⟩ := h
  walk_at "rd"
  refine r_rule ?_
  walk_at "rd"
  refine r_ixT (.of ht) (at_of (j := 0) rfl rfl) ?_
  walk_at "rd"
  refine r_ixT (.of ht) (at_of (j := 1) rfl rfl) ?_
  walk_at "rd"
  refine r_ixT (.of ht) (at_of (j := 2) rfl rfl) ?_
  walk_at "rd"
  refine r_ixT (.of ht) (at_of (j := 3) rfl rfl) ?_
  walk_at "rd"
  refine r_ixT (.of ht) (at_of (j := 4) rfl rfl) ?_
  walk_at "rd"
  refine r_ixT (.of ht) (at_of (j := 5) rfl rfl) ?_
  walk_at "rd"
  exact r_mkat G fun H' x s r => q H' x s r
/-- a ring as the law writes it down -/
def Desc (H : Hp) (t : Addr) (cal : Bool) (ms : List Str) (nm : Str) (k : Nat) (calm : List Str) : Prop := ∃ pr pc, ∃ ts : List Addr, H t = some (.tup [.str (md ms 0), .ref pr, .ref pc]) ∧ H pr = some (.lst (ts.map V.ref)) ∧ ts.length = k ∧
  (∀ (i : Nat) u, ts[i]? = some u → H u = some (.tup (ringRow cal ms nm k i))) ∧ H pc = some (.lst (calm.map V.str))
theorem Desc.same {H H' : Hp} {t : Addr} {cal : Bool} {ms : List Str} {nm : Str} {k : Nat} {calm : List Str} (s : Same H H') (h : Desc H t cal ms nm k calm) : Desc H' t cal ms nm k calm :=
  let ⟨pr, pc, ts, h1, h2, h3, h4, h5⟩ := h; ⟨pr, pc, ts, s _ _ h1, s _ _ h2, h3, fun i u e => s _ _ (h4 i u e), s _ _ h5⟩
/-- what is asked of the settled modes -/
structure CalmOk (ms calm : List Str) : Prop where
  g : ∀ z ∈ calm, Good z
  nd : calm.Nodup
  nf : md ms 0 ∉ calm
  c6 : calm.length ≤ 6
abbrev sp_law_role (K : PySem.W.Frag) (D : Adr) : Sp := Sp2 fun a b H Q => ∃ t cal ms nm k calm, a = .str (sideS cal) ∧ b = .ref t ∧ Nms ms nm ∧ 1 ≤ k ∧ k ≤ 6 ∧ Desc H t cal ms nm k calm ∧ CalmOk ms calm ∧
  ∀ H' o ys rs, Same H H' → RingAt D H' o cal ms nm k ys rs → ys.Perm calm → Q (.ref o) H'
theorem sc_law_role : FnScope ["_law_side", "_law_role_here", "_law_row"] ["_law_side", "_law_role_here"] (defScope (top 68)) := ⟨rfl, rfl, rfl, by decide +kernel, rfl, by decide +kernel, by decide +kernel⟩
theorem ok_law_role (F : Df K mg "_law_role" 68) (B : Bl mg) (T : Txt mg D) (Z : Ks K D) (MO : RoleMk P w K mg base D) (c_law_rule : Cal P w K mg base 6 "_law_rule" (sp_law_rule K D)) : Cal P w K mg base 8 "_law_role" (sp_law_role K D) := by
  have sc := sc_law_role
  refine mk_cal F sc len2 (fun _ _ _ _ _ _ us hl => match us, hl with | [_, _], _ => rfl) (fun f cdv A outer s H vs Q E hr h => ?_)
  obtain ⟨a0, a1, rfl, h⟩ := h
  refine ⟨_, (pss_one (ps_ret (pe_role MO T.Role (hr.mono (by decide)) rfl (pa_cons (pv 0) (pa_cons (pe_ix ix_tup (pv 1) pe_int (fun _ _ => rfl)) (pa_cons (pe_lc (own := [("_law_row", 2)]) (g := gName 2) (tt := tYes) rfl sc.nd (pi_list (pe_ix ix_tup (pv 1) pe_int (fun _ _ => rfl))) (blkOk_by (own := [("_law_row", 2)]) (N := ["_law_side", "_law_role_here", "_law_row"]) (sc := defScope (top 68)) (by decide +kernel)) (fun _ _ _ _ _ => pg_name (i := 2) sc.nd rfl (Or.inl rfl)) (fun _ _ _ _ _ => pts_nil) (fun _ _ _ _ _ => (pe_c c_law_rule hr (by decide) rfl (pa_cons (pv 2) pa_nil)))) (pa_cons (pe_callTy call_lst rfl B.list_ (by decide +kernel) (pa_cons (pe_ix ix_tup (pv 1) pe_int (fun _ _ => rfl)) pa_nil)) pa_nil))))))), ?_⟩
  obtain ⟨t, cal, ms, nm, k, calm, rfl, rfl, N, k1, k6, ⟨pr, pc, ts, h1, h2, h3, h4, h5⟩, C, q⟩ := h
  walk_at "rd"
  refine r_role ?_
  walk_at "rd"
  refine r_ixT (.of h1) (at_of (j := 0) rfl rfl) ?_
  walk_at "rd"
  refine r_ixT (.of h1) (at_of (j := 1) rfl rfl) ?_
  refine ⟨pr, rfl, ⟨_, .of h2⟩, fun pl hpl => ?_⟩
  refine lc_list (xs := ts.map V.ref) (fun i H' => Same H H' ∧ ∃ rs : List Addr, H' pl = some (.lst (rs.map V.ref)) ∧ rs.length = i ∧ RowsAt D H' cal ms nm k rs) ⟨same_upd hpl, [], upd_same, rfl, fun i r e => by cases e⟩ (fun _ _ _ h => .of (h.1 _ _ h2)) ?_ ?_
  · rintro i x H1 hx ⟨s1, rs, e1, l1, r1⟩
    obtain ⟨u, hu', rfl⟩ := map_ref hx
    have hi : i < k := by rw [← h3]; exact (List.getElem?_eq_some_iff.mp hu').1
    obtain ⟨m, h, mv, th, snd, eR, G⟩ := ring_ok N k6 hi cal
    have hR := s1 _ _ (h4 i u hu')
    walk_at "rd"
    refine ⟨rfl, ?_⟩
    walk_at "rd"
    refine if_t rfl ?_
    walk_at "rd"
    rw [eR] at hR
    refine ⟨u, m, h, mv, th, snd, rfl, hR, G, fun H2 x s2 r2 => ?_⟩
    have e2 := s2 _ _ e1
    have keep : ∀ {a row}, RuleAt D.cr H2 a row → RuleAt D.cr (upd H2 pl (.lst (rs.map V.ref ++ [.ref x]))) a row := fun {a row} z => by
      obtain ⟨dx, tt, fs, a1, a2, a3⟩ := z
      exact ⟨dx, tt, fs, by rw [upd_ne (ne_of a1 e2 fun y => by cases y)]; exact a1, a2, by rw [upd_ne (ne_of a3 e2 fun y => by cases y)]; exact a3⟩
    refine ⟨_, e2, small1000 (by rw [List.length_map]; omega), same_set (s1.trans s2) hpl, rs ++ [x], by rw [upd_same, List.map_append]; rfl, by rw [List.length_append, l1]; rfl, fun j r hj => ?_⟩
    by_cases e : j = i
    · subst e
      rw [List.getElem?_append_right (by omega), l1, Nat.sub_self] at hj
      obtain rfl : x = r := Option.some.inj hj
      rw [eR]
      exact keep r2
    · have hj2 := (List.getElem?_eq_some_iff.mp hj).1
      rw [List.length_append, l1] at hj2
      have hj2 : j < i + 1 := hj2
      rw [List.getElem?_append_left (by omega)] at hj
      exact keep ((r1 j r hj).same s2)
  · rintro H1 ⟨s1, rs, e1, l1, r1⟩
    rw [List.length_map, h3] at l1
    walk_at "rd"
    refine r_ixT (.of (s1 _ _ h1)) (at_of (j := 2) rfl rfl) ?_
    walk_at "rd"
    refine r_lstL (.of (s1 _ _ h5)) fun pn hpn => ?_
    walk_at "rd"
    have s2 := same_upd (o := .lst (calm.map V.str)) hpn
    have r2 : RowsAt D (upd H1 pn (.lst (calm.map V.str))) cal ms nm k rs := r1.same s2
    exact r_roat ⟨N.good (by decide), s2 _ _ e1, r2, by omega, upd_same, C.g, C.nd, C.nf, C.c6⟩ fun H3 o ys s3 hP r3 => q H3 o ys rs ((s1.trans s2).trans s3) ⟨l1, r3, fun i r e => (r2 i r e).same s3, k1, k6, by rw [hP.length_eq]; exact C.c6⟩ hP
abbrev sp_law_ring (K : PySem.W.Frag) (D : Adr) : Sp := Sp5 fun a b c d e H Q => ∃ cal pm ms nm, ∃ k : Nat, ∃ pc calm, a = .str (sideS cal) ∧ b = .ref pm ∧ c = .int k ∧ d = .ref pc ∧ e = .str nm ∧ Nms ms nm ∧ 1 ≤ k ∧ k ≤ 6 ∧ H pm = some (.lst (ms.map V.str)) ∧ H pc = some (.lst ((calm : List Str).map V.str)) ∧
  ∀ H' t, Same H H' → Desc H' t cal ms nm k calm → Q (.ref t) H'
theorem sc_law_ring : FnScope ["_law_side", "_law_modes", "_law_many", "_law_calm", "_law_name", "_law_rows", "_law_k"] ["_law_side", "_law_modes", "_law_many", "_law_calm", "_law_name"] (defScope (top 72)) := ⟨rfl, rfl, rfl, by decide +kernel, rfl, by decide +kernel, by decide +kernel⟩
theorem ok_law_ring (F : Df K mg "_law_ring" 72) (B : Bl mg) : Cal P w K mg base 1 "_law_ring" (sp_law_ring K D) := by
  have sc := sc_law_ring
  refine mk_cal F sc len5 (fun _ _ _ _ _ _ us hl => match us, hl with | [_, _, _, _, _], _ => rfl) (fun f cdv A outer s H vs Q E hr h => ?_)
  obtain ⟨a0, a1, a2, a3, a4, rfl, h⟩ := h
  refine ⟨_, (pss_cons (ps_set (i := 5) sc.nd rfl (.inl rfl) (pe_lst pa_nil))
  (pss_cons (ps_for PassesOwn.never rfl (pi_range1 rfl B.range_ (pa_cons (pv 2) pa_nil)) (pg_name (i := 6) sc.nd rfl (.inl rfl)) (pss_one (ps_if (pt_cmpR op_eq (pv 0) pe_str (nomark _)) (pss_one (ps_expr (pe_bm PySem.F.plainAttrs_list PySem.F.slot_list_append PySem.F.type_list_append mt_append (pv 5) (pa_cons (pe_tup (pa_cons (pe_ix ix_list (pv 1) (pv 6) (fun _ _ => rfl)) (pa_cons pe_str (pa_cons pe_str (pa_cons (pe_ix ix_list (pv 1) (pe_op op_mod (pe_callTy call_intI rfl B.int_ (by decide +kernel) (pa_cons (pe_op op_add (pv 6) pe_int) pa_nil)) (pv 2)) (fun _ _ => rfl)) (pa_cons pe_str (pa_cons (pv 4) pa_nil))))))) pa_nil)))) (pss_one (ps_expr (pe_bm PySem.F.plainAttrs_list PySem.F.slot_list_append PySem.F.type_list_append mt_append (pv 5) (pa_cons (pe_tup (pa_cons (pe_ix ix_list (pv 1) (pv 6) (fun _ _ => rfl)) (pa_cons (pv 4) (pa_cons pe_str (pa_cons (pe_ix ix_list (pv 1) (pe_op op_mod (pe_callTy call_intI rfl B.int_ (by decide +kernel) (pa_cons (pe_op op_add (pv 6) pe_int) pa_nil)) (pv 2)) (fun _ _ => rfl)) (pa_cons pe_str (pa_cons pe_non pa_nil))))))) pa_nil)))))))
  (pss_one (ps_ret (pe_tup (pa_cons (pe_ix ix_list (pv 1) pe_int (fun _ _ => rfl)) (pa_cons (pv 5) (pa_cons (pv 3) pa_nil)))))))), ?_⟩
  obtain ⟨cal, pm, ms, nm, k, pc, calm, rfl, rfl, rfl, rfl, rfl, N, k1, k6, hm, hc, q⟩ := h
  have at_m : ∀ {j : Nat}, j < 6 → (ms.map V.str)[j]? = some (.str (md ms j)) := fun hj => by rw [List.getElem?_map, N.at_ hj]; rfl
  walk_at "rd"
  refine ⟨sz0, fun pl hpl => ?_⟩
  walk_at "rd"
  refine ⟨_, rfl, by omega, by omega, ?_⟩
  refine for_range (fun i σ H' => Same H H' ∧ (∃ ts : List Addr, H' pl = some (.lst (ts.map V.ref)) ∧ ts.length = i ∧ ∀ (j : Nat) u, ts[j]? = some u → H' u = some (.tup (ringRow cal ms nm k j))) ∧ ∃ v6, σ = [some (.str (sideS cal)), some (.ref pm), some (.int k), some (.ref pc), some (.str nm), some (.ref pl), v6]) ⟨same_upd hpl, ⟨[], upd_same, rfl, fun j u e => by cases e⟩, none, rfl⟩ ?_ ?_
  · rintro i σ H1 hi ⟨s1, ⟨ts, e1, l1, r1⟩, v6, rfl⟩
    have hi : i < k := by omega
    have hmod : (i + 1) % k < 6 := Nat.lt_of_lt_of_le (Nat.mod_lt _ (by omega)) k6
    have fin : ∀ {t : Addr}, H1 t = none → ∀ {row : List V}, row = ringRow cal ms nm k i → Same H (upd (upd H1 t (.tup row)) pl (.lst (ts.map V.ref ++ [.ref t]))) ∧ ∃ us : List Addr, (upd (upd H1 t (.tup row)) pl (.lst (ts.map V.ref ++ [.ref t]))) pl = some (.lst (us.map V.ref)) ∧ us.length = i + 1 ∧ ∀ (j : Nat) u, us[j]? = some u → (upd (upd H1 t (.tup row)) pl (.lst (ts.map V.ref ++ [.ref t]))) u = some (.tup (ringRow cal ms nm k j)) := fun {t} ht {row} er => by
      have s2 := same_upd (o := .tup row) ht
      have e2 := s2 _ _ e1
      have keep : ∀ {b : Addr} {xs : List V}, (upd H1 t (.tup row)) b = some (.tup xs) → (upd (upd H1 t (.tup row)) pl (.lst (ts.map V.ref ++ [.ref t]))) b = some (.tup xs) := fun {b} {xs} z => by
        rw [upd_ne (ne_of z e2 fun y => by cases y)]
        exact z
      refine ⟨same_set (s1.trans s2) hpl, ts ++ [t], by rw [upd_same, List.map_append]; rfl, by rw [List.length_append, l1]; rfl, fun j u hj => ?_⟩
      by_cases e : j = i
      · subst e
        rw [List.getElem?_append_right (by omega), l1, Nat.sub_self] at hj
        obtain rfl : t = u := Option.some.inj hj
        rw [← er]
        exact keep upd_same
      · have hj2 := (List.getElem?_eq_some_iff.mp hj).1
        rw [List.length_append, l1] at hj2
        have hj2 : j < i + 1 := hj2
        rw [List.getElem?_append_left (by omega)] at hj
        exact keep (s2 _ _ (r1 j u hj))
    walk_at "rd"
    have ek : ((0 : Int) + (i : Nat) + 1) % (k : Int) = (((i + 1) % k : Nat) : Int) := by
      rw [Int.natCast_emod]
      congr 1
      omega
    cases cal
    · refine if_f (by decide +kernel) ?_
      walk_at "rd"
      refine ⟨ty_list (.of e1), ?_⟩
      walk_at "rd"
      refine r_ixL (.of (s1 _ _ hm)) (at_of (j := i) (by omega) (at_m (by omega))) ?_
      walk_at "rd"
      refine r_rI (show (0 : Int) < k by omega) ?_
      refine r_ixL (.of (s1 _ _ hm)) (at_of (j := (i + 1) % k) ek (at_m hmod)) ?_
      walk_at "rd"
      refine ⟨sz6, fun t ht => ?_⟩
      walk_at "rd"
      refine r_append (same_upd ht _ _ e1) (small1000 (by rw [List.length_map]; omega)) ?_
      exact ⟨(fin ht rfl).1, (fin ht rfl).2, _, rfl⟩
    · refine if_t (by decide +kernel) ?_
      walk_at "rd"
      refine ⟨ty_list (.of e1), ?_⟩
      walk_at "rd"
      refine r_ixL (.of (s1 _ _ hm)) (at_of (j := i) (by omega) (at_m (by omega))) ?_
      walk_at "rd"
      refine r_rI (show (0 : Int) < k by omega) ?_
      refine r_ixL (.of (s1 _ _ hm)) (at_of (j := (i + 1) % k) ek (at_m hmod)) ?_
      walk_at "rd"
      refine ⟨sz6, fun t ht => ?_⟩
      walk_at "rd"
      refine r_append (same_upd ht _ _ e1) (small1000 (by rw [List.length_map]; omega)) ?_
      exact ⟨(fin ht rfl).1, (fin ht rfl).2, _, rfl⟩
  · rintro σ H1 ⟨s1, ⟨ts, e1, l1, r1⟩, v6, rfl⟩
    walk_at "rd"
    refine r_ixL (.of (s1 _ _ hm)) (at_of (j := 0) rfl (at_m (by decide))) ?_
    walk_at "rd"
    refine ⟨sz3, fun t ht => ?_⟩
    have s2 := same_upd (o := .tup [.str (md ms 0), .ref pl, .ref pc]) ht
    exact q _ t (s1.trans s2) ⟨pl, pc, ts, upd_same, s2 _ _ e1, by omega, fun j u e => s2 _ _ (r1 j u e), s2 _ _ (s1 _ _ hc)⟩
end
end K67
-- deps: LawRole
namespace K67
open PySem PySem.Spec PyProof.Rows L2
section
variable {P : Program} {w : World} {K : PySem.W.Frag} {mg : Str → Option Value} {base : Heap} {D : Adr}
abbrev sp_law_whole (K : PySem.W.Frag) (D : Adr) : Sp := Sp1 fun a H Q => ∃ i : Int, a = .int i ∧ Q (.bl true) H
theorem sc_law_whole : FnScope ["_law_value"] ["_law_value"] (defScope (top 69)) := ⟨rfl, rfl, rfl, by decide +kernel, rfl, by decide +kernel, by decide +kernel⟩
theorem ok_law_whole (F : Df K mg "_law_whole" 69) (B : Bl mg) : Cal P w K mg base 1 "_law_whole" (sp_law_whole K D) := by
  have sc := sc_law_whole
  refine mk_cal F sc len1 (fun _ _ _ _ _ _ us hl => match us, hl with | [_], _ => rfl) (fun f cdv A outer s H vs Q E hr h => ?_)
  obtain ⟨a0, rfl, h⟩ := h
  refine ⟨_, (pss_one (ps_ret (pe_and (pe_callB call_isi rfl B.isinstance_ (by decide +kernel) (pa_cons (pv 0) (pa_cons (pe_bltn (v := .ty "int") rfl B.int_ (by decide +kernel) rfl) pa_nil))) (pe_one (pe_not (pe_callB call_isi rfl B.isinstance_ (by decide +kernel) (pa_cons (pv 0) (pa_cons (pe_bltn (v := .ty "bool") rfl B.bool_ (by decide +kernel) rfl) pa_nil)))))))), ?_⟩
  obtain ⟨i, rfl, q⟩ := h
  walk_at "rd"
  refine r_isi (b := true) (.ty _) (.base (.int _)) (kit_ty (by decide +kernel)) ?_
  walk_at "rd"
  refine if_t rfl ?_
  walk_at "rd"
  refine r_isi (b := false) (.ty _) (.base (.int _)) (kit_ty (by decide +kernel)) ?_
  walk_at "rd"
  exact q
abbrev sp_law_is_list (K : PySem.W.Frag) (D : Adr) : Sp := Sp1 fun a H Q => ∃ l ns, a = .ref l ∧ H l = some (.lst (ns.map V.int)) ∧ Down ns ∧ ns.length ≤ 1000 ∧ ∀ H', Same H H' → Q (.bl true) H'
theorem sc_law_is_list : FnScope ["_law_value", "_law_k", "_law_one"] ["_law_value"] (defScope (top 70)) := ⟨rfl, rfl, rfl, by decide +kernel, rfl, by decide +kernel, by decide +kernel⟩
theorem ok_law_is_list (F : Df K mg "_law_is_list" 70) (B : Bl mg) (c_law_whole : Cal P w K mg base 1 "_law_whole" (sp_law_whole K D)) : Cal P w K mg base 2 "_law_is_list" (sp_law_is_list K D) := by
  have sc := sc_law_is_list
  refine mk_cal F sc len1 (fun _ _ _ _ _ _ us hl => match us, hl with | [_], _ => rfl) (fun f cdv A outer s H vs Q E hr h => ?_)
  obtain ⟨a0, rfl, h⟩ := h
  refine ⟨_, (pss_cons (ps_if (PW.pt (pw_or (pt_not (pt_val (pe_callB call_isi rfl B.isinstance_ (by decide +kernel) (pa_cons (pv 0) (pa_cons (pe_bltn (v := .ty "list") rfl B.list_ (by decide +kernel) rfl) pa_nil))))) (pw_or1 (pt_cmpR (op_neD hr.units) (pe_lc (own := [("_law_one", 2)]) (g := gName 2) rfl sc.nd (pi_list (pv 0)) (blkOk_by (own := [("_law_one", 2)]) (N := ["_law_value", "_law_k", "_law_one"]) (sc := defScope (top 70)) (by decide +kernel)) (fun _ _ _ _ _ => pg_name (i := 2) sc.nd rfl (Or.inl rfl)) (fun _ _ _ _ _ => pts_one (pt_not (pt_val (pe_c c_law_whole hr (by decide) rfl (pa_cons (pv 2) pa_nil))))) (fun _ _ _ _ _ => (pv 2))) (pe_lst pa_nil) (nomark _))))) (pss_one (ps_ret pe_bl)) pss_nil)
  (pss_one (ps_ret (pe_cmpR (op_eqD hr.units) (pe_lc (own := [("_law_k", 1)]) (g := gName 1) rfl sc.nd (pi_range2 rfl B.range_ (pa_cons pe_int (pa_cons (pe_callB call_lenS rfl B.len_ (by decide +kernel) (pa_cons (pv 0) pa_nil)) pa_nil))) (blkOk_by (own := [("_law_k", 1)]) (N := ["_law_value", "_law_k", "_law_one"]) (sc := defScope (top 70)) (by decide +kernel)) (fun _ _ _ _ _ => pg_name (i := 1) sc.nd rfl (Or.inl rfl)) (fun _ _ _ _ _ => pts_one (pt_cmpR op_le (pe_ix (show IxR _ (rIxL K) from ix_list) (pv 0) (pe_op op_sub (pv 1) pe_int) (fun _ _ => rfl)) (pe_ix (show IxR _ (rIxL K) from ix_list) (pv 0) (pv 1) (fun _ _ => rfl)) (nomark _))) (fun _ _ _ _ _ => (pv 1))) (pe_lst pa_nil) (nomark _))))), ?_⟩
  obtain ⟨l, ns, rfl, hl, hD, hz, q⟩ := h
  walk_at "rd"
  refine r_isi (b := true) (.ty _) (.base (.lst hl)) (kit_ty (by decide +kernel)) ?_
  walk_at "rd"
  refine if_f rfl ?_
  walk_at "rd"
  refine ⟨l, rfl, ⟨_, .of hl⟩, fun p hp => ?_⟩
  refine lc_list (xs := ns.map V.int) (fun i H' => Same H H' ∧ H' p = some (.lst [])) ⟨same_upd hp, upd_same⟩ (fun _ _ _ h => .of (h.1 _ _ hl)) ?_ ?_
  · rintro i x H1 hx ⟨s1, e1⟩
    obtain ⟨n, hn, rfl⟩ : ∃ n, ns[i]? = some n ∧ x = V.int n := by
      rw [List.getElem?_map] at hx
      cases e : ns[i]? with
      | none => rw [e] at hx; cases hx
      | some r => rw [e] at hx; exact ⟨r, rfl, (Option.some.inj hx).symm⟩
    walk_at "rd"
    refine ⟨rfl, ?_⟩
    walk_at "rd"
    refine ⟨n, rfl, ?_⟩
    walk_at "rd"
    exact if_f rfl ⟨s1, e1⟩
  · rintro H1 ⟨s1, e1⟩
    walk_at "rd"
    refine ⟨sz0, fun p2 hp2 => ?_⟩
    have s2 := same_upd (o := .lst []) hp2
    refine ⟨.list [], .list [], .lst (.of (s2 _ _ e1)) .nil, .lst (.of upd_same) .nil, rfl, rfl, ?_⟩
    walk_at "rd"
    refine if_f rfl ?_
    walk_at "rd"
    have s12 := s1.trans s2
    refine r_lenL (.of (s12 _ _ hl)) ?_
    walk_at "rd"
    refine ⟨_, _, rfl, ⟨by decide, by decide, by omega, by rw [List.length_map]; omega⟩, fun p3 hp3 => ?_⟩
    rw [List.length_map]
    refine lc_range (lo := 1) (fun i H' => Same H H' ∧ H' p3 = some (.lst [])) ⟨same_upd' s12 hp3, upd_same⟩ ?_ ?_
    · rintro i H2 hi ⟨s3, e3⟩
      have hi : i + 1 < ns.length := by omega
      obtain ⟨x, hx⟩ : ∃ x, ns[i]? = some x := ⟨_, List.getElem?_eq_getElem (by omega)⟩
      obtain ⟨y, hy⟩ : ∃ y, ns[i + 1]? = some y := ⟨_, List.getElem?_eq_getElem hi⟩
      walk_at "rd"
      refine ⟨rfl, ?_⟩
      walk_at "rd"
      refine r_ixL (v := .int x) (.of (s3 _ _ hl)) (at_of (j := i) (by omega) (by rw [List.getElem?_map, hx]; rfl)) ?_
      walk_at "rd"
      refine r_ixL (v := .int y) (.of (s3 _ _ hl)) (at_of (j := i + 1) (by omega) (by rw [List.getElem?_map, hy]; rfl)) ?_
      walk_at "rd"
      exact if_f (decide_eq_false (by have := hD i x y hx hy; omega)) ⟨s3, e3⟩
    · rintro H2 ⟨s3, e3⟩
      walk_at "rd"
      refine ⟨sz0, fun p4 hp4 => ?_⟩
      have s4 := same_upd (o := .lst []) hp4
      refine ⟨.list [], .list [], .lst (.of (s4 _ _ e3)) .nil, .lst (.of upd_same) .nil, rfl, rfl, ?_⟩
      exact q _ (s3.trans s4)
theorem r_eqStrsL {a b : Addr} {zs : List Str} {H : Hp} {Q : VK} (h : ∀ z ∈ zs, PyData.canLay0 (.str z) = true) (h1 : SqL K H a (zs.map V.str)) (h2 : SqL K H b (zs.map V.str)) (q : Q (.bl true) H) : rEqD K (.ref a) (.ref b) H Q := by
  refine ⟨.list (strsD zs), .list (strsD zs), .lst h1 (dpa_strs zs), .lst h2 (dpa_strs zs), (sh_strs h).2, (sh_strs h).2, ?_⟩
  rw [show PyData.eqv (.list (strsD zs)) (.list (strsD zs)) = PyData.eqvAll (strsD zs) (strsD zs) from by simp only [PyData.eqv], eqv_strs]
  exact q
theorem flat_one {v : V} : ∀ n : Nat, (List.replicate n [v]).flatten = List.replicate n v
  | 0 => rfl
  | n + 1 => by rw [List.replicate_succ, List.flatten_cons, flat_one n]; rfl
theorem all_timeouts {H : Hp} {nm : Str} : ∀ {vs : List V}, (∀ v ∈ vs, StimAt H true nm v) → vs = (List.replicate vs.length ("timeout" : Str)).map V.str
  | [], _ => rfl
  | v :: r, h => by
    have h1 := h v (List.mem_cons_self ..)
    have h2 := all_timeouts fun z hz => h z (List.mem_cons_of_mem _ hz)
    rcases h1 with ⟨_, rfl⟩ | ⟨z, _⟩
    · rw [List.length_cons, List.replicate_succ, List.map_cons, ← h2]
    · cases z
abbrev sp_law_stimuli_right (K : PySem.W.Frag) (D : Adr) : Sp := Sp4 fun a b c d H Q => ∃ cal nm t pc ps ns vs, a = .str (sideS cal) ∧ b = .str nm ∧ c = .ref t ∧ d = .int (vs.length : Nat) ∧ Good nm ∧ H t = some (.tup [.ref pc, .ref ps]) ∧ H pc = some (.lst ((ns : List Int).map V.int)) ∧ Down ns ∧ ns.length ≤ 1000 ∧ (cal = true → vs.length < ns.length) ∧
  H ps = some (.lst vs) ∧ vs.length ≤ 100 ∧ (∀ v ∈ vs, StimAt H cal nm v) ∧ ∀ H', Same H H' → Q (.bl true) H'
theorem sc_law_stimuli_right : FnScope ["_law_side", "_law_name", "_law_told", "_law_many", "_law_one"] ["_law_side", "_law_name", "_law_told", "_law_many"] (defScope (top 73)) := ⟨rfl, rfl, rfl, by decide +kernel, rfl, by decide +kernel, by decide +kernel⟩
theorem ok_law_stimuli_right (F : Df K mg "_law_stimuli_right" 73) (B : Bl mg) (c_law_is_list : Cal P w K mg base 2 "_law_is_list" (sp_law_is_list K D)) (c_law_whole : Cal P w K mg base 1 "_law_whole" (sp_law_whole K D)) : Cal P w K mg base 3 "_law_stimuli_right" (sp_law_stimuli_right K D) := by
  have sc := sc_law_stimuli_right
  refine mk_cal F sc len4 (fun _ _ _ _ _ _ us hl => match us, hl with | [_, _, _, _], _ => rfl) (fun f cdv A outer s H vs Q E hr h => ?_)
  obtain ⟨a0, a1, a2, a3, rfl, h⟩ := h
  refine ⟨_, (pss_cons (ps_if (pt_cmpR op_ne (pe_callB call_lenS rfl B.len_ (by decide +kernel) (pa_cons (pe_ix ix_tup (pv 2) pe_int (fun _ _ => rfl)) pa_nil)) (pv 3) (nomark _)) (pss_one (ps_ret pe_bl)) pss_nil)
  (pss_cons (ps_if (pt_cmpR op_eq (pv 0) pe_str (nomark _)) (pss_one (ps_ret (pe_and (pe_cmpR (op_eqD hr.units) (pe_ix ix_tup (pv 2) pe_int (fun _ _ => rfl)) (pe_op op_rep (pe_lst (pa_cons pe_str pa_nil)) (pv 3)) (nomark _)) (pe_and (pe_c c_law_is_list hr (by decide) rfl (pa_cons (pe_ix ix_tup (pv 2) pe_int (fun _ _ => rfl)) pa_nil)) (pe_one (pe_cmpR op_gt (pe_callB call_lenS rfl B.len_ (by decide +kernel) (pa_cons (pe_ix ix_tup (pv 2) pe_int (fun _ _ => rfl)) pa_nil)) (pv 3) (nomark _))))))) pss_nil)
  (pss_cons (ps_if (pt_cmpR (op_neD hr.units) (pe_lc (own := [("_law_one", 4)]) (g := gName 4) rfl sc.nd (pi_list (pe_ix ix_tup (pv 2) pe_int (fun _ _ => rfl))) (blkOk_by (own := [("_law_one", 4)]) (N := ["_law_side", "_law_name", "_law_told", "_law_many", "_law_one"]) (sc := defScope (top 73)) (by decide +kernel)) (fun _ _ _ _ _ => pg_name (i := 4) sc.nd rfl (Or.inl rfl)) (fun _ _ _ _ _ => pts_one (PW.pt (pw_or (pt_not (pt_val (pe_callB (show CallR _ _ (rIsi K) from call_isi) rfl B.isinstance_ (by decide +kernel) (pa_cons (pv 4) (pa_cons (pe_bltn (v := .ty "tuple") rfl B.tuple_ (by decide +kernel) rfl) pa_nil))))) (pw_or (pt_cmpR op_ne (pe_callB (show CallR _ _ (rLenSq K) from call_lenS) rfl B.len_ (by decide +kernel) (pa_cons (pv 4) pa_nil)) pe_int (nomark _)) (pw_or1 (pt_cmpR op_ne (pe_ix (show IxR _ (rIxT K) from ix_tup) (pv 4) pe_int (fun _ _ => rfl)) (pv 1) (nomark _))))))) (fun _ _ _ _ _ => (pv 4))) (pe_lst pa_nil) (nomark _)) (pss_one (ps_ret pe_bl)) pss_nil)
  (pss_cons (ps_for PassesOwn.never rfl (pi_list (pe_ix ix_tup (pv 2) pe_int (fun _ _ => rfl))) (pg_name (i := 4) sc.nd rfl (.inl rfl)) (pss_one (ps_if (PW.pt (pw_or (pt_not (pt_val (pe_c c_law_is_list hr (by decide) rfl (pa_cons (pe_ix ix_tup (pv 4) pe_int (fun _ _ => rfl)) pa_nil)))) (pw_or (pt_not (pt_val (pe_c c_law_whole hr (by decide) rfl (pa_cons (pe_ix ix_tup (pv 4) pe_int (fun _ _ => rfl)) pa_nil)))) (pw_or1 (pt_cmpR op_notIn_seq (pe_ix ix_tup (pv 4) pe_int (fun _ _ => rfl)) (pe_ix ix_tup (pv 4) pe_int (fun _ _ => rfl)) rfl))))) (pss_one (ps_ret pe_bl)) pss_nil)))
  (pss_one (ps_ret (pe_c c_law_is_list hr (by decide) rfl (pa_cons (pe_ix ix_tup (pv 2) pe_int (fun _ _ => rfl)) pa_nil)))))))), ?_⟩
  obtain ⟨cal, nm, t, pc, ps, ns, vs, rfl, rfl, rfl, rfl, gn, ht, hc, hD, hn, hcal, hs, h100, hv, q⟩ := h
  walk_at "rd"
  refine r_ixT (.of ht) (at_of (j := 1) rfl rfl) ?_
  walk_at "rd"
  refine r_lenL (.of hs) ?_
  walk_at "rd"
  refine if_f (by rw [decide_eq_true rfl]; rfl) ?_
  walk_at "rd"
  cases cal
  · refine if_f (by decide +kernel) ?_
    walk_at "rd"
    refine r_ixT (.of ht) (at_of (j := 1) rfl rfl) ?_
    refine ⟨ps, rfl, ⟨_, .of hs⟩, fun p hp => ?_⟩
    refine lc_list (xs := vs) (fun i H' => Same H H' ∧ H' p = some (.lst [])) ⟨same_upd hp, upd_same⟩ (fun _ _ _ h => .of (h.1 _ _ hs)) ?_ ?_
    · rintro i x H1 hx ⟨s1, e1⟩
      rcases hv x (List.mem_of_getElem? hx) with ⟨z, _⟩ | ⟨_, u, l, rfl, hu', hl⟩
      · cases z
      walk_at "rd"
      refine ⟨rfl, ?_⟩
      walk_at "rd"
      refine r_isi (b := true) (.ty _) (.base (.tup (s1 _ _ hu'))) (kit_ty (by decide +kernel)) ?_
      walk_at "rd"
      refine if_f rfl ?_
      walk_at "rd"
      refine r_lenP (.of (s1 _ _ hu')) ?_
      walk_at "rd"
      refine if_f (show (!decide (V.int 3 = V.int 3)) = false by decide) ?_
      walk_at "rd"
      refine r_ixT (.of (s1 _ _ hu')) (at_of (j := 0) rfl rfl) ?_
      walk_at "rd"
      refine if_f (by rw [decide_eq_true rfl]; rfl) ?_
      exact ⟨s1, e1⟩
    · rintro H1 ⟨s1, e1⟩
      walk_at "rd"
      refine ⟨sz0, fun p2 hp2 => ?_⟩
      have s2 := same_upd (o := .lst []) hp2
      refine ⟨.list [], .list [], .lst (.of (s2 _ _ e1)) .nil, .lst (.of upd_same) .nil, rfl, rfl, ?_⟩
      walk_at "rd"
      refine if_f rfl ?_
      have s12 := s1.trans s2
      walk_at "rd"
      refine r_ixT (.of (s12 _ _ ht)) (at_of (j := 1) rfl rfl) ?_
      refine ⟨ps, rfl, ⟨_, .of (s12 _ _ hs)⟩, ?_⟩
      refine for_list (xs := vs) (fun i σ H' => Same H H' ∧ ∃ v4, σ = [some (.str (sideS false)), some (.str nm), some (.ref t), some (.int (vs.length : Nat)), v4]) ⟨s12, _, rfl⟩ (fun _ _ _ _ h => .of (h.1 _ _ hs)) ?_ ?_
      · rintro i x σ H3 hx ⟨s3, v4, rfl⟩
        rcases hv x (List.mem_of_getElem? hx) with ⟨z, _⟩ | ⟨_, u, l, rfl, hu', hl⟩
        · cases z
        walk_at "rd"
        refine r_ixT (.of (s3 _ _ hu')) (at_of (j := 2) rfl rfl) ?_
        walk_at "rd"
        refine ⟨l, [1], rfl, s3 _ _ hl, down_one, by decide, fun H4 s4 => ?_⟩
        have s34 := s3.trans s4
        walk_at "rd"
        refine if_f rfl ?_
        walk_at "rd"
        refine r_ixT (.of (s34 _ _ hu')) (at_of (j := 1) rfl rfl) ?_
        walk_at "rd"
        refine ⟨1, rfl, ?_⟩
        walk_at "rd"
        refine if_f rfl ?_
        walk_at "rd"
        refine r_ixT (.of (s34 _ _ hu')) (at_of (j := 1) rfl rfl) ?_
        walk_at "rd"
        refine r_ixT (.of (s34 _ _ hu')) (at_of (j := 2) rfl rfl) ?_
        refine ⟨l, [.int 1], rfl, .inl (.of (s34 _ _ hl)), rfl, rfl, ?_⟩
        walk_at "rd"
        refine if_f rfl ?_
        exact ⟨s34, _, rfl⟩
      · rintro σ H3 ⟨s3, v4, rfl⟩
        walk_at "rd"
        refine r_ixT (.of (s3 _ _ ht)) (at_of (j := 0) rfl rfl) ?_
        walk_at "rd"
        exact ⟨pc, ns, rfl, s3 _ _ hc, hD, hn, fun H4 s4 => q _ (s3.trans s4)⟩
  · refine if_t (by decide +kernel) ?_
    have ev := all_timeouts hv
    walk_at "rd"
    refine r_ixT (.of ht) (at_of (j := 1) rfl rfl) ?_
    walk_at "rd"
    refine ⟨sz1, fun p1 hp1 => ?_⟩
    have s1 := same_upd (o := .lst [.str "timeout"]) hp1
    walk_at "rd"
    refine ⟨p1, _, _, rfl, rfl, upd_same, by omega, by omega, by rw [List.length_singleton]; exact szK (by omega), fun p2 hp2 => ?_⟩
    have s2 := same_upd' (o := .lst (List.replicate ((vs.length : Nat) : Int).toNat [V.str "timeout"]).flatten) s1 hp2
    have lay : ∀ z ∈ List.replicate vs.length ("timeout" : Str), PyData.canLay0 (.str z) = true := fun z hz => by
      rw [List.eq_of_mem_replicate hz]
      decide +kernel
    refine r_eqStrsL lay (.of (by rw [← ev]; exact s2 _ _ hs)) (.of (by rw [upd_same, flat_one, List.map_replicate]; rfl)) ?_
    walk_at "rd"
    refine if_t rfl ?_
    walk_at "rd"
    refine r_ixT (.of (s2 _ _ ht)) (at_of (j := 0) rfl rfl) ?_
    walk_at "rd"
    refine ⟨pc, ns, rfl, s2 _ _ hc, hD, hn, fun H4 s4 => ?_⟩
    have s24 := s2.trans s4
    walk_at "rd"
    refine if_t rfl ?_
    walk_at "rd"
    refine r_ixT (.of (s24 _ _ ht)) (at_of (j := 0) rfl rfl) ?_
    walk_at "rd"
    refine r_lenL (.of (s24 _ _ hc)) ?_
    walk_at "rd"
    rw [List.length_map, decide_eq_true (by have := hcal rfl; omega)]
    exact q _ s24
end
end K67
-- deps: LawChecks
namespace K67
open PySem PySem.Spec PyProof.Rows L2
section
variable {P : Program} {w : World} {K : PySem.W.Frag} {mg : Str → Option Value} {base : Heap} {D : Adr}
theorem dpa_of {H : Hp} : ∀ {xs : List V} {ds : List PyData}, xs.length = ds.length → (∀ (i : Nat) x d, xs[i]? = some x → ds[i]? = some d → Dp K H x d) → DpAll K H xs ds
  | [], [], _, _ => .nil
  | x :: xs, d :: ds, l, h => .cons (h 0 x d rfl rfl) (dpa_of (Nat.succ.inj l) fun i y e a b => h (i + 1) y e a b)
  | [], _ :: _, l, _ => absurd l (by simp)
  | _ :: _, [], l, _ => absurd l (by simp)
theorem lay_all : ∀ {ds : List PyData}, (∀ d ∈ ds, SeqAt.shaped d = true ∧ d.depth ≤ 3) → PyData.canLayAll0 ds = true ∧ PyData.depthAll ds ≤ 3
  | [], _ => ⟨rfl, Nat.zero_le _⟩
  | d :: ds, h => by
    have h1 := h d (List.mem_cons_self ..)
    have h2 := lay_all fun z hz => h z (List.mem_cons_of_mem _ hz)
    refine ⟨?_, Nat.max_le.mpr ⟨h1.2, h2.2⟩⟩
    show (PyData.canLay0 d && PyData.canLayAll0 ds) = true
    rw [SeqAt.canLay_of_shaped h1.1, h2.1]
    rfl
theorem eqv_all : ∀ {ds : List PyData}, (∀ d ∈ ds, PyData.eqv d d = true) → PyData.eqvAll ds ds = true
  | [], _ => rfl
  | d :: ds, h => by
    show (PyData.eqv d d && PyData.eqvAll ds ds) = true
    rw [h d (List.mem_cons_self ..), eqv_all fun z hz => h z (List.mem_cons_of_mem _ hz)]
    rfl
def ringD (cal : Bool) (ms : List Str) (nm : Str) (k i : Nat) : PyData := bif cal then rowD (md ms i) "timeout" "down" (md ms ((i + 1) % k)) (.str nm) else rowD (md ms i) nm "stay" (md ms ((i + 1) % k)) .non
theorem ringD_ok {ms : List Str} {nm : Str} (N : Nms ms nm) {k i : Nat} (k6 : k ≤ 6) (hi : i < k) (cal : Bool) : SeqAt.shaped (ringD cal ms nm k i) = true ∧ (ringD cal ms nm k i).depth ≤ 3 ∧ PyData.eqv (ringD cal ms nm k i) (ringD cal ms nm k i) = true := by
  have h1 := N.good (show i < 6 by omega)
  have h2 := N.good (show (i + 1) % k < 6 from Nat.lt_of_lt_of_le (Nat.mod_lt _ (by omega)) k6)
  cases cal
  · exact ⟨(⟨h1, .inr N.gn, .inr rfl, h2, .inl rfl⟩ : RowOk _ _ _ _ _).shaped, Nat.le_of_ble_eq_true rfl, eqv_row _ _ _ _ _⟩
  · exact ⟨(⟨h1, .inl rfl, .inl rfl, h2, .inr ⟨nm, rfl, N.gn⟩⟩ : RowOk _ _ _ _ _).shaped, Nat.le_of_ble_eq_true rfl, eqv_row _ _ _ _ _⟩
theorem ringD_dp {ms : List Str} {nm : Str} (N : Nms ms nm) {k i : Nat} (k6 : k ≤ 6) (hi : i < k) (cal : Bool) {H : Hp} {t : Addr} (e : H t = some (.tup (ringRow cal ms nm k i))) : Dp K H (.ref t) (ringD cal ms nm k i) := by
  have h1 := N.good (show i < 6 by omega)
  have h2 := N.good (show (i + 1) % k < 6 from Nat.lt_of_lt_of_le (Nat.mod_lt _ (by omega)) k6)
  cases cal
  · exact (⟨h1, .inr N.gn, .inr rfl, h2, .inl rfl⟩ : RowOk _ _ _ _ _).dp (.of e)
  · exact (⟨h1, .inl rfl, .inl rfl, h2, .inr ⟨nm, rfl, N.gn⟩⟩ : RowOk _ _ _ _ _).dp (.of e)
theorem r_neRings {ms : List Str} {nm : Str} (N : Nms ms nm) {k : Nat} (k6 : k ≤ 6) {cal : Bool} {H : Hp} {Q : VK} {a b : Addr} {ts us : List Addr} (ha : H a = some (.lst (ts.map V.ref))) (hb : H b = some (.lst (us.map V.ref))) (l1 : ts.length = k) (l2 : us.length = k)
    (r1 : ∀ (i : Nat) u, ts[i]? = some u → H u = some (.tup (ringRow cal ms nm k i))) (r2 : ∀ (i : Nat) u, us[i]? = some u → H u = some (.tup (ringRow cal ms nm k i))) (q : Q (.bl false) H) : rNeD K (.ref a) (.ref b) H Q := by
  have mem : ∀ d ∈ (List.range k).map (ringD cal ms nm k), ∃ i, i < k ∧ d = ringD cal ms nm k i := fun d hd => by
    obtain ⟨i, hi, e⟩ := List.mem_map.mp hd
    exact ⟨i, List.mem_range.mp hi, e.symm⟩
  have lay := lay_all (ds := (List.range k).map (ringD cal ms nm k)) fun d hd => by
    obtain ⟨i, hi, rfl⟩ := mem d hd
    exact ⟨(ringD_ok N k6 hi cal).1, (ringD_ok N k6 hi cal).2.1⟩
  have sh : SeqAt.shaped (.list ((List.range k).map (ringD cal ms nm k))) = true := by
    unfold SeqAt.shaped
    rw [Bool.and_eq_true]
    exact ⟨lay.1, decide_eq_true (show PyData.depthAll _ + 1 ≤ 64 by have := lay.2; omega)⟩
  have dp : ∀ {ts : List Addr}, ts.length = k → (∀ (i : Nat) u, ts[i]? = some u → H u = some (.tup (ringRow cal ms nm k i))) → DpAll K H (ts.map V.ref) ((List.range k).map (ringD cal ms nm k)) := fun {ts} l r => by
    refine dpa_of (by rw [List.length_map, List.length_map, List.length_range, l]) fun i x d hx hd => ?_
    obtain ⟨u, hu', rfl⟩ := map_ref hx
    have hi : i < k := by rw [← l]; exact (List.getElem?_eq_some_iff.mp hu').1
    rw [List.getElem?_map, List.getElem?_range hi] at hd
    rw [← Option.some.inj hd]
    exact ringD_dp N k6 hi cal (r i u hu')
  refine ⟨_, _, .lst (.of ha) (dp l1 r1), .lst (.of hb) (dp l2 r2), sh, sh, ?_⟩
  rw [show PyData.eqv (.list ((List.range k).map (ringD cal ms nm k))) (.list ((List.range k).map (ringD cal ms nm k))) = PyData.eqvAll ((List.range k).map (ringD cal ms nm k)) ((List.range k).map (ringD cal ms nm k)) from by simp only [PyData.eqv], eqv_all fun d hd => by
    obtain ⟨i, hi, rfl⟩ := mem d hd
    exact (ringD_ok N k6 hi cal).2.2]
  exact q
theorem r_neStrs {a b : Addr} {zs : List Str} {H : Hp} {Q : VK} (h : ∀ z ∈ zs, PyData.canLay0 (.str z) = true) (h1 : SqT K H a (zs.map V.str)) (h2 : SqT K H b (zs.map V.str)) (q : Q (.bl false) H) : rNeD K (.ref a) (.ref b) H Q := by
  refine ⟨.tuple (strsD zs), .tuple (strsD zs), .tup h1 (dpa_strs zs), .tup h2 (dpa_strs zs), (sh_strs h).1, (sh_strs h).1, ?_⟩
  rw [show PyData.eqv (.tuple (strsD zs)) (.tuple (strsD zs)) = PyData.eqvAll (strsD zs) (strsD zs) from by simp only [PyData.eqv], eqv_strs]
  exact q
abbrev sp_law_same_role (K : PySem.W.Frag) (D : Adr) : Sp := Sp3 fun a b c H Q => ∃ o t cal ms nm k z rs, a = .ref o ∧ b = .str (sideS cal) ∧ c = .ref t ∧ Nms ms nm ∧ RingAt D H o cal ms nm k [z] rs ∧ Desc H t cal ms nm k [z] ∧ CalmOk ms [z] ∧ ∀ H', Same H H' → Q (.bl true) H'
theorem r_neOwn {C a b dx dy : Addr} {fs gs : List (Str × V)} {R : Addr → Addr → Hp → Prop} {H : Hp} {Q : VK} (h1 : H a = some (.ins C dx fs)) (h2 : H b = some (.ins C dy gs)) (r : R a b H) (q : ∀ H', Same H H' → Q (.bl false) H') : rNeG (DIns C R) (.ref a) (.ref b) H Q := ⟨⟨a, b, dx, dy, fs, gs, rfl, rfl, h1, h2, r⟩, q⟩
theorem sc_law_same_role : FnScope ["_law_made", "_law_side", "_law_role_here", "_law_rows", "_law_rule_here", "_law_mode"] ["_law_made", "_law_side", "_law_role_here"] (defScope (top 71)) := ⟨rfl, rfl, rfl, by decide +kernel, rfl, by decide +kernel, by decide +kernel⟩
theorem ok_law_same_role (F : Df K mg "_law_same_role" 71) (B : Bl mg) (R : RuleC P w K mg base D.cr) (O : RoleC P w K mg base D.co) (EO : EqOk P w K mg base 4 D.co (RoleSame D) ∧ InC K D.co ∧ PySem.W.findIn K (.ref D.co) "__ne__" = some (some (.builtin "object.__ne__"))) (c_law_role : Cal P w K mg base 8 "_law_role" (sp_law_role K D)) : Cal P w K mg base 9 "_law_same_role" (sp_law_same_role K D) := by
  have sc := sc_law_same_role
  refine mk_cal F sc len3 (fun _ _ _ _ _ _ us hl => match us, hl with | [_, _, _], _ => rfl) (fun f cdv A outer s H vs Q E hr h => ?_)
  obtain ⟨a0, a1, a2, rfl, h⟩ := h
  refine ⟨_, (pss_cons (ps_setLc (i := 3) (own := [("_law_rule_here", 4)]) (g := gName 4) (tt := tYes) rfl sc.nd rfl rfl (sw_true rfl rfl rfl (by decide +kernel)) (pi_list (pe_rules O (hr.mono (by decide)) (pv 0))) (blkOk_by (own := [("_law_rule_here", 4)]) (N := ["_law_made", "_law_side", "_law_role_here", "_law_rows", "_law_rule_here", "_law_mode"]) (sc := defScope (top 71)) (by decide +kernel)) (fun _ _ _ _ _ => pg_name (i := 4) sc.nd rfl (Or.inl rfl)) (fun _ _ _ _ _ => pts_nil) (fun _ _ _ _ _ => (pe_tup (pa_cons (pe_R0 R (hr.mono (by decide)) (pv 4)) (pa_cons (pe_R1 R (hr.mono (by decide)) (pv 4)) (pa_cons (pe_R2 R (hr.mono (by decide)) (pv 4)) (pa_cons (pe_R3 R (hr.mono (by decide)) (pv 4)) (pa_cons (pe_R4 R (hr.mono (by decide)) (pv 4)) (pa_cons (pe_R5 R (hr.mono (by decide)) (pv 4)) pa_nil)))))))))
  (pss_cons (ps_if (PW.pt (pw_or (pt_cmpR (op_neD hr.units) (pv 3) (pe_ix ix_tup (pv 2) pe_int (fun _ _ => rfl)) (nomark _)) (pw_or (pt_cmpR (op_roleNe EO (hr.mono (by decide))) (pv 0) (pe_c c_law_role hr (by decide) rfl (pa_cons (pv 1) (pa_cons (pv 2) pa_nil))) (nomark _)) (pw_or1 (pt_cmpR (op_neD hr.units) (pe_tup (pa_cons (pe_side O (hr.mono (by decide)) (pv 0)) (pa_cons (pe_first O (hr.mono (by decide)) (pv 0)) pa_nil))) (pe_tup (pa_cons (pv 1) (pa_cons (pe_ix ix_tup (pv 2) pe_int (fun _ _ => rfl)) pa_nil))) (nomark _)))))) (pss_one (ps_ret pe_bl)) pss_nil)
  (pss_one (ps_ret (pe_cmpR (op_eqD hr.units) (pe_settled O (hr.mono (by decide)) (pv 0)) (pe_callB cr_sortedS rfl B.sorted_ (by decide +kernel) (pa_cons (pe_lc (own := [("_law_mode", 5)]) (g := gName 5) (tt := tYes) rfl sc.nd (pi_list (pe_ix ix_tup (pv 2) pe_int (fun _ _ => rfl))) (blkOk_by (own := [("_law_mode", 5)]) (N := ["_law_made", "_law_side", "_law_role_here", "_law_rows", "_law_rule_here", "_law_mode"]) (sc := defScope (top 71)) (by decide +kernel)) (fun _ _ _ _ _ => pg_name (i := 5) sc.nd rfl (Or.inl rfl)) (fun _ _ _ _ _ => pts_nil) (fun _ _ _ _ _ => (pe_callTy call_strS rfl B.str_ (by decide +kernel) (pa_cons (pv 5) pa_nil)))) pa_nil)) (nomark _)))))), ?_⟩
  obtain ⟨o, t, cal, ms, nm, k, z, rs, rfl, rfl, rfl, N, O1, G, C, q⟩ := h
  obtain ⟨pr, pc, ts, h1, h2, h3, h4, h5⟩ := id G
  have k6 := O1.k6
  walk_at "rd"
  refine r_rules O1.role (by rw [O1.len]; omega) fun p hp => ?_
  have s1 := same_upd (o := .lst (rs.map V.ref)) hp
  have ep : (upd H p (.lst (rs.map V.ref))) p = some (.lst (rs.map V.ref)) := upd_same
  generalize upd H p (.lst (rs.map V.ref)) = H1 at s1 ep
  refine ⟨p, rfl, ⟨_, .of ep⟩, fun pl hpl => ?_⟩
  refine lc_list (xs := rs.map V.ref) (fun i H' => Same H1 H' ∧ ∃ us : List Addr, H' pl = some (.lst (us.map V.ref)) ∧ us.length = i ∧ ∀ (j : Nat) u, us[j]? = some u → H' u = some (.tup (ringRow cal ms nm k j))) ⟨same_upd hpl, [], upd_same, rfl, fun j u e => by cases e⟩ (fun _ _ _ h => .of (h.1 _ _ ep)) ?_ ?_
  · rintro i x H2 hx ⟨s2, us, e2, l2, r2⟩
    obtain ⟨r, hr1, rfl⟩ := map_ref hx
    have hi : i < k := by rw [← O1.len]; exact (List.getElem?_eq_some_iff.mp hr1).1
    have hR := (O1.rules i r hr1).same (s1.trans s2)
    have row6 : ∃ a b c d e f, ringRow cal ms nm k i = [a, b, c, d, e, f] := by cases cal <;> exact ⟨_, _, _, _, _, _, rfl⟩
    obtain ⟨va, vb, vc, vd, ve, vf, er⟩ := row6
    rw [er] at hR
    walk_at "rd"
    refine ⟨rfl, ?_⟩
    walk_at "rd"
    refine if_t rfl ?_
    walk_at "rd"
    refine r_R hR rfl ?_
    walk_at "rd"
    refine r_R hR rfl ?_
    walk_at "rd"
    refine r_R hR rfl ?_
    walk_at "rd"
    refine r_R hR rfl ?_
    walk_at "rd"
    refine r_R hR rfl ?_
    walk_at "rd"
    refine r_R hR rfl ?_
    walk_at "rd"
    refine ⟨sz6, fun u hu' => ?_⟩
    have s3 := same_upd (o := .tup [va, vb, vc, vd, ve, vf]) hu'
    have eu : (upd H2 u (.tup [va, vb, vc, vd, ve, vf])) u = some (.tup (ringRow cal ms nm k i)) := by rw [upd_same, er]
    generalize upd H2 u (.tup [va, vb, vc, vd, ve, vf]) = H3 at s3 eu
    have e3 := s3 _ _ e2
    have keep : ∀ {b : Addr} {xs : List V}, H3 b = some (.tup xs) → (upd H3 pl (.lst (us.map V.ref ++ [.ref u]))) b = some (.tup xs) := fun {b} {xs} w' => by
      rw [upd_ne (ne_of w' e3 fun y => by cases y)]
      exact w'
    refine ⟨_, e3, small1000 (by rw [List.length_map]; omega), same_set (s2.trans s3) hpl, us ++ [u], by rw [upd_same, List.map_append]; rfl, by rw [List.length_append, l2]; rfl, fun j v hj => ?_⟩
    by_cases e : j = i
    · subst e
      rw [List.getElem?_append_right (by omega), l2, Nat.sub_self] at hj
      obtain rfl : u = v := Option.some.inj hj
      exact keep eu
    · have hj2 := (List.getElem?_eq_some_iff.mp hj).1
      rw [List.length_append, l2] at hj2
      have hj2 : j < i + 1 := hj2
      rw [List.getElem?_append_left (by omega)] at hj
      exact keep (s3 _ _ (r2 j v hj))
  · rintro H2 ⟨s2, us, e2, l2, r2⟩
    rw [List.length_map, O1.len] at l2
    have s12 := s1.trans s2
    walk_at "rd"
    refine r_ixT (.of (s12 _ _ h1)) (at_of (j := 1) rfl rfl) ?_
    refine r_neRings N k6 e2 (s12 _ _ h2) l2 h3 r2 (fun i u e => s12 _ _ (h4 i u e)) ?_
    walk_at "rd"
    refine if_f rfl ?_
    walk_at "rd"
    refine ⟨t, cal, ms, nm, k, [z], rfl, rfl, N, O1.k1, k6, G.same s12, C, fun H3 o2 ys rs2 s3 O2 hP => ?_⟩
    obtain rfl : ys = [z] := List.perm_singleton.mp hP
    have O1' := O1.same (s12.trans s3)
    obtain ⟨dx, fs, _, _, _, i1, _⟩ := id O1'.role.ex
    obtain ⟨dy, gs, _, _, _, i2, _⟩ := id O2.role.ex
    refine r_neOwn i1 i2 ⟨cal, md ms 0, rs, rs2, [z], N.good (by decide), C.g, C.c6, O1'.role, O2.role, by rw [O1'.len, O2.len], fun i a b ha hb => ?_⟩ fun H4 s4 => ?_
    · have hi : i < k := by rw [← O1.len]; exact (List.getElem?_eq_some_iff.mp ha).1
      obtain ⟨m, h, mv, th, snd, eR, g⟩ := ring_ok N k6 hi cal
      exact ⟨m, h, mv, th, snd, g, by rw [← eR]; exact O1'.rules i a ha, by rw [← eR]; exact O2.rules i b hb⟩
    · have O4 := O1'.same s4
      have s14 := (s12.trans s3).trans s4
      walk_at "rd"
      refine if_f rfl ?_
      walk_at "rd"
      refine r_side O4.role ?_
      walk_at "rd"
      refine r_first O4.role ?_
      walk_at "rd"
      refine ⟨sz2, fun p5 hp5 => ?_⟩
      have s5 := same_upd (o := .tup [.str (sideS cal), .str (md ms 0)]) hp5
      have e5 : (upd H4 p5 (.tup [.str (sideS cal), .str (md ms 0)])) p5 = some (.tup [.str (sideS cal), .str (md ms 0)]) := upd_same
      generalize upd H4 p5 (.tup [.str (sideS cal), .str (md ms 0)]) = H5 at s5 e5
      walk_at "rd"
      refine r_ixT (.of ((s14.trans s5) _ _ h1)) (at_of (j := 0) rfl rfl) ?_
      walk_at "rd"
      refine ⟨sz2, fun p6 hp6 => ?_⟩
      have s6 := same_upd (o := .tup [.str (sideS cal), .str (md ms 0)]) hp6
      have e6 : (upd H5 p6 (.tup [.str (sideS cal), .str (md ms 0)])) p6 = some (.tup [.str (sideS cal), .str (md ms 0)]) := upd_same
      generalize upd H5 p6 (.tup [.str (sideS cal), .str (md ms 0)]) = H6 at s6 e6
      refine r_neStrs (zs := [sideS cal, md ms 0]) (fun y hy => ?_) (.of (s6 _ _ e5)) (.of e6) ?_
      · rcases List.mem_cons.mp hy with rfl | hy
        · exact lay_side cal
        · rw [List.mem_singleton.mp hy]
          exact ok_good (N.good (by decide))
      walk_at "rd"
      refine if_f rfl ?_
      have s46 := s5.trans s6
      have s16 := s14.trans s46
      walk_at "rd"
      refine r_settled (O4.role.same s46) (show 1 ≤ 1000 by decide) fun p7 hp7 => ?_
      have s7 := same_upd (o := .lst ([z].map V.str)) hp7
      have e7 : (upd H6 p7 (.lst ([z].map V.str))) p7 = some (.lst ([z].map V.str)) := upd_same
      generalize upd H6 p7 (.lst ([z].map V.str)) = H7 at s7 e7
      have s17 := s16.trans s7
      walk_at "rd"
      refine r_ixT (.of (s17 _ _ h1)) (at_of (j := 2) rfl rfl) ?_
      have e8 := s17 _ _ h5
      refine ⟨pc, rfl, ⟨_, .of e8⟩, fun pn hpn => ?_⟩
      refine lc_list (xs := [z].map V.str) (fun i H' => Same H7 H' ∧ H' pn = some (.lst (([z].take i).map V.str))) ⟨same_upd hpn, upd_same⟩ (fun _ _ _ h => .of (h.1 _ _ e8)) ?_ ?_
      · rintro i y H8 hy ⟨s8, e9⟩
        obtain rfl : i = 0 := by
          have := (List.getElem?_eq_some_iff.mp hy).1
          have : i < 1 := this
          omega
        obtain rfl : V.str z = y := Option.some.inj hy
        walk_at "rd"
        refine ⟨rfl, ?_⟩
        walk_at "rd"
        refine if_t rfl ?_
        walk_at "rd"
        exact ⟨_, e9, (by decide : 0 < sizeLine), same_set s8 hpn, upd_same⟩
      · rintro H8 ⟨s8, e9⟩
        walk_at "rd"
        refine r_sortedS (xs := [z]) e9 (show 1 < 64 by decide) fun ys p9 hP' _ hp9 => ?_
        obtain rfl : ys = [z] := List.perm_singleton.mp hP'
        have s9 := same_upd (o := .lst ([z].map V.str)) hp9
        refine r_eqStrsL (zs := [z]) (fun y hy => ok_good (C.g y hy)) (.of (s9 _ _ (s8 _ _ e7))) (.of upd_same) ?_
        exact q _ ((s17.trans s8).trans s9)
end
end K67
-- deps: LawSame
namespace K67
open PySem PySem.Spec PyProof.Rows L2
/-- two rings that part after L stimuli -/
structure Split (k1 k2 : Nat) (c1 c2 : Nat → Bool) (L : Nat) : Prop where
  lo : 1 ≤ L
  hi : L ≤ 50
  eq : ∀ j, j < L → c1 (j % k1) = c2 (j % k2)
  new : ∀ a b, b < a → a < L → ¬ (b % k1 = a % k1 ∧ b % k2 = a % k2)
  ne : c1 (L % k1) ≠ c2 (L % k2)
theorem Split.flip {k1 k2 : Nat} {c1 c2 : Nat → Bool} {L : Nat} (s : Split k1 k2 c1 c2 L) : Split k2 k1 c2 c1 L := ⟨s.lo, s.hi, fun j h => (s.eq j h).symm, fun a b h1 h2 h3 => s.new a b h1 h2 ⟨h3.2, h3.1⟩, fun e => s.ne e.symm⟩
theorem Split.host {k1 k2 : Nat} {c1 c2 : Nat → Bool} {L : Nat} (s : Split k1 k2 c1 c2 L) : Going k1 k2 c1 c2 L := ⟨s.lo, s.hi, fun j _ h => s.eq j h, s.new⟩
theorem Split.caller {k1 k2 : Nat} {c1 c2 : Nat → Bool} {L : Nat} (s : Split k1 k2 c1 c2 L) : GoingC k1 k2 c1 c2 L := ⟨s.lo, s.hi, s.eq, fun a b _ => s.new a b⟩
section
variable {P : Program} {w : World} {K : PySem.W.Frag} {mg : Str → Option Value} {base : Heap} {D : Adr}
theorem part_pre {H : Hp} {Q : VK} {o1 o2 : Addr} {cal : Bool} {ms : List Str} {nm : Str} {k1 k2 L : Nat} {calm1 calm2 : List Str} {rs1 rs2 : List Addr} (N : Nms ms nm) (O1 : RingAt D H o1 cal ms nm k1 calm1 rs1) (O2 : RingAt D H o2 cal ms nm k2 calm2 rs2) (S : Split k1 k2 (cm ms calm1) (cm ms calm2) L)
    (q : ∀ H' p c l ws, Same H H' → H' p = some (.tup [.ref c, .ref l]) → H' c = some (.lst ((chL cal L).map V.int)) → H' l = some (.lst ws) → ws.length = L → (∀ v ∈ ws, StimAt H' cal nm v) → Q (.ref p) H') : sp_part K D [.ref o1, .ref o2] H Q E0 := by
  cases cal
  · exact sp2 (.inr (sp2 ⟨o1, o2, ms, nm, k1, calm1, rs1, k2, calm2, rs2, L, rfl, rfl, N, O1, O2, S.host, .inl ⟨S.ne, fun H' p c l ws s h1 h2 h3 h4 h5 => q H' p c l ws s h1 h2 h3 h4 fun v hv => .inr ⟨rfl, h5 v hv⟩⟩⟩))
  · refine sp2 (.inl (sp2 ⟨o1, o2, ms, nm, k1, calm1, rs1, k2, calm2, rs2, L, rfl, rfl, N, O1, O2, S.caller, .inl ⟨S.ne, fun H' p c l s h1 h2 h3 => q H' p c l _ s h1 h2 h3 (List.length_replicate) fun v hv => .inl ⟨rfl, ?_⟩⟩⟩))
    exact List.eq_of_mem_replicate hv
theorem check_pre {H : Hp} {Q : VK} {o1 o2 cl ch st : Addr} {cal : Bool} {ms : List Str} {nm : Str} {k1 k2 L : Nat} {calm1 calm2 : List Str} {rs1 rs2 : List Addr} {vs : List V} (N : Nms ms nm) (O1 : RingAt D H o1 cal ms nm k1 calm1 rs1) (O2 : RingAt D H o2 cal ms nm k2 calm2 rs2) (S : Split k1 k2 (cm ms calm1) (cm ms calm2) L)
    (h1 : H cl = some (.tup [.ref ch, .ref st])) (h2 : H ch = some (.lst ((chL cal L).map V.int))) (h3 : H st = some (.lst vs)) (h4 : vs.length ≤ L + 1) (h5 : ∀ v ∈ vs, StimAt H cal nm v) (q : ∀ H', Same H H' → Q (.bl (decide (vs.length = L))) H') : sp_check_part K D [.ref o1, .ref o2, .ref cl] H Q E0 :=
  sp3 ⟨o1, o2, cl, ch, st, cal, ms, nm, k1, calm1, rs1, k2, calm2, rs2, L, vs, rfl, rfl, rfl, N, O1, O2, h1, h2, h3, h4, S.lo, S.hi, h5, S.eq, S.ne, q⟩
theorem r_slL {a : Addr} {xs : List V} {lo hi : Option Int} {H : Hp} {Q : VK} (h : SqL K H a xs) (q : ∀ p, H p = none → Q (.ref p) (upd H p (.lst (cutV xs lo hi)))) : rSlL K (.ref a) lo hi H Q := ⟨a, xs, rfl, h, q⟩
theorem cut_lo {xs : List V} {n : Nat} (h : n ≤ xs.length) : cutV xs none (some (n : Int)) = xs.take n := by
  unfold cutV
  rw [HT.sIx_none, HT.sIx_nat, List.drop_zero, Nat.sub_zero, Nat.min_eq_left h]
theorem cut_last {xs : List V} (h : 1 ≤ xs.length) : (cutV xs (some (-1)) none).length = 1 ∧ ∀ v ∈ cutV xs (some (-1)) none, v ∈ xs := by
  have e : HT.sIx xs.length 0 (some (-1)) = xs.length - 1 := by
    show (if (-1 : Int) < 0 then ((-1 : Int) + (xs.length : Int)).toNat else min (-1 : Int).toNat xs.length) = _
    rw [if_pos (by decide)]
    omega
  unfold cutV
  rw [HT.sIx_none, e]
  refine ⟨by rw [List.length_take, List.length_drop]; omega, fun v hv => List.mem_of_mem_drop (List.mem_of_mem_take hv)⟩
abbrev sp_law_parted_right (K : PySem.W.Frag) (D : Adr) : Sp := Sp5 fun a b c d e H Q => ∃ cal t1 t2 ms nm k1 z1 k2 z2, ∃ L : Nat, a = .str (sideS cal) ∧ b = .ref t1 ∧ c = .ref t2 ∧ d = .str nm ∧ e = .int L ∧ Nms ms nm ∧ 1 ≤ k1 ∧ k1 ≤ 6 ∧ 1 ≤ k2 ∧ k2 ≤ 6 ∧ Desc H t1 cal ms nm k1 [z1] ∧ Desc H t2 cal ms nm k2 [z2] ∧
  CalmOk ms [z1] ∧ CalmOk ms [z2] ∧ Split k1 k2 (cm ms [z1]) (cm ms [z2]) L ∧ ∀ H', Same H H' → Q (.bl true) H'
theorem sc_law_parted_right : FnScope ["_law_side", "_law_one", "_law_other", "_law_name", "_law_many", "_law_first", "_law_second", "_law_here", "_law_there", "_law_told", "_law_cut"] ["_law_side", "_law_one", "_law_other", "_law_name", "_law_many"] (defScope (top 74)) := ⟨rfl, rfl, rfl, by decide +kernel, rfl, by decide +kernel, by decide +kernel⟩
theorem ok_law_parted_right (F : Df K mg "_law_parted_right" 74) (B : Bl mg) (c_law_role : Cal P w K mg base 8 "_law_role" (sp_law_role K D)) (cpart : Cal P w K mg base 9 "part" (sp_part K D)) (c_law_stimuli_right : Cal P w K mg base 3 "_law_stimuli_right" (sp_law_stimuli_right K D)) (ccheck_part : Cal P w K mg base 7 "check_part" (sp_check_part K D)) (c_law_same_role : Cal P w K mg base 9 "_law_same_role" (sp_law_same_role K D)) : Cal P w K mg base 10 "_law_parted_right" (sp_law_parted_right K D) := by
  have sc := sc_law_parted_right
  refine mk_cal F sc len5 (fun _ _ _ _ _ _ us hl => match us, hl with | [_, _, _, _, _], _ => rfl) (fun f cdv A outer s H vs Q E hr h => ?_)
  obtain ⟨a0, a1, a2, a3, a4, rfl, h⟩ := h
  refine ⟨_, (pss_cons (ps_par (i := 5) (j := 6) rfl sc.nd rfl rfl (by decide) rfl rfl (pa_cons (pe_c c_law_role hr (by decide) rfl (pa_cons (pv 0) (pa_cons (pv 1) pa_nil))) (pa_cons (pe_c c_law_role hr (by decide) rfl (pa_cons (pv 0) (pa_cons (pv 2) pa_nil))) pa_nil)) (by rfl))
  (pss_cons (ps_for PassesOwn.never rfl (pi_list (pe_lst (pa_cons (pe_tup (pa_cons (pv 5) (pa_cons (pv 6) pa_nil))) (pa_cons (pe_tup (pa_cons (pv 6) (pa_cons (pv 5) pa_nil))) pa_nil)))) (pg_tup rfl (pgs_cons (pg_name (i := 7) sc.nd rfl (.inl rfl)) (pgs_cons (pg_name (i := 8) sc.nd rfl (.inl rfl)) pgs_nil))) (pss_cons (ps_set (i := 9) sc.nd rfl (.inl rfl) (pe_c cpart hr (by decide) rfl (pa_cons (pv 7) (pa_cons (pv 8) pa_nil))))
  (pss_cons (ps_if (PW.pt (pw_or (pt_cmpR op_is0 (pv 9) pe_non (nomark _)) (pw_or1 (pt_not (pt_val (pe_c c_law_stimuli_right hr (by decide) rfl (pa_cons (pv 0) (pa_cons (pv 3) (pa_cons (pv 9) (pa_cons (pv 4) pa_nil)))))))))) (pss_one (ps_ret pe_bl)) pss_nil)
  (pss_cons (ps_for PassesOwn.never rfl (pi_range1 rfl B.range_ (pa_cons (pv 4) pa_nil)) (pg_name (i := 10) sc.nd rfl (.inl rfl)) (pss_one (ps_if (pt_val (pe_c ccheck_part hr (by decide) rfl (pa_cons (pv 7) (pa_cons (pv 8) (pa_cons (pe_tup (pa_cons (pe_ix ix_tup (pv 9) pe_int (fun _ _ => rfl)) (pa_cons (pe_slice sl_list (pe_ix ix_tup (pv 9) pe_int (fun _ _ => rfl)) po_none (po_some (pv 10))) pa_nil))) pa_nil))))) (pss_one (ps_ret pe_bl)) pss_nil)))
  (pss_one (ps_if (PW.pt (pw_or (pt_not (pt_val (pe_c ccheck_part hr (by decide) rfl (pa_cons (pv 7) (pa_cons (pv 8) (pa_cons (pv 9) pa_nil)))))) (pw_or1 (pt_val (pe_c ccheck_part hr (by decide) rfl (pa_cons (pv 7) (pa_cons (pv 8) (pa_cons (pe_tup (pa_cons (pe_ix ix_tup (pv 9) pe_int (fun _ _ => rfl)) (pa_cons (pe_op op_cat (pe_ix ix_tup (pv 9) pe_int (fun _ _ => rfl)) (pe_slice sl_list (pe_ix ix_tup (pv 9) pe_int (fun _ _ => rfl)) (po_some (pe_un un_neg pe_int)) po_none)) pa_nil))) pa_nil)))))))) (pss_one (ps_ret pe_bl)) pss_nil))))))
  (pss_one (ps_ret (pe_and (pe_c c_law_same_role hr (by decide) rfl (pa_cons (pv 5) (pa_cons (pv 0) (pa_cons (pv 1) pa_nil)))) (pe_one (pe_c c_law_same_role hr (by decide) rfl (pa_cons (pv 6) (pa_cons (pv 0) (pa_cons (pv 2) pa_nil)))))))))), ?_⟩
  obtain ⟨cal, t1, t2, ms, nm, k1, z1, k2, z2, L, rfl, rfl, rfl, rfl, rfl, N, a1, a6, b1, b6, G1, G2, C1, C2, S, q⟩ := h
  walk_at "rd"
  refine ⟨t1, cal, ms, nm, k1, [z1], rfl, rfl, N, a1, a6, G1, C1, fun H1 o1 ys1 rs1 s1 O1 hP1 => ?_⟩
  obtain rfl : ys1 = [z1] := List.perm_singleton.mp hP1
  walk_at "rd"
  refine ⟨t2, cal, ms, nm, k2, [z2], rfl, rfl, N, b1, b6, G2.same s1, C2, fun H2 o2 ys2 rs2 s2 O2 hP2 => ?_⟩
  obtain rfl : ys2 = [z2] := List.perm_singleton.mp hP2
  have s02 := s1.trans s2
  have O1 := O1.same s2
  walk_at "rd"
  refine ⟨sz2, fun u1 hu1 => ?_⟩
  have s3 := same_upd (o := .tup [.ref o1, .ref o2]) hu1
  have e1 : (upd H2 u1 (.tup [.ref o1, .ref o2])) u1 = some (.tup [.ref o1, .ref o2]) := upd_same
  generalize upd H2 u1 (.tup [.ref o1, .ref o2]) = H3 at s3 e1
  walk_at "rd"
  refine ⟨sz2, fun u2 hu2 => ?_⟩
  have s4 := same_upd (o := .tup [.ref o2, .ref o1]) hu2
  have e2 : (upd H3 u2 (.tup [.ref o2, .ref o1])) u2 = some (.tup [.ref o2, .ref o1]) := upd_same
  generalize upd H3 u2 (.tup [.ref o2, .ref o1]) = H4 at s4 e2
  have e1 := s4 _ _ e1
  walk_at "rd"
  refine ⟨sz2, fun ul hul => ?_⟩
  have s5 := same_upd (o := .lst [.ref u1, .ref u2]) hul
  have el : (upd H4 ul (.lst [.ref u1, .ref u2])) ul = some (.lst [.ref u1, .ref u2]) := upd_same
  generalize upd H4 ul (.lst [.ref u1, .ref u2]) = H5 at s5 el
  have e1 := s5 _ _ e1
  have e2 := s5 _ _ e2
  have s25 := (s3.trans s4).trans s5
  have O1 := O1.same s25
  have O2 := O2.same s25
  have s05 := s02.trans s25
  clear s3 s4 s5 s25 s1 s2 s02
  walk_at "rd"
  refine ⟨ul, rfl, ⟨_, .of el⟩, ?_⟩
  refine for_list (xs := [.ref u1, .ref u2]) (fun i σ H' => Same H5 H' ∧ ∃ v7 v8 v9 v10, σ = [some (.str (sideS cal)), some (.ref t1), some (.ref t2), some (.str nm), some (.int L), some (.ref o1), some (.ref o2), v7, v8, v9, v10]) ⟨.refl _, none, none, none, none, rfl⟩ (fun _ _ _ _ h => .of (h.1 _ _ el)) ?_ ?_
  · rintro i x σ H6 hx ⟨s6, v7, v8, v9, v10, rfl⟩
    have pair : ∃ oa ka za rsa ob kb zb rsb u, x = .ref u ∧ H5 u = some (.tup [.ref oa, .ref ob]) ∧ RingAt D H5 oa cal ms nm ka [za] rsa ∧ RingAt D H5 ob cal ms nm kb [zb] rsb ∧ Split ka kb (cm ms [za]) (cm ms [zb]) L := by
      rcases i with _ | _ | i
      · exact ⟨o1, k1, z1, rs1, o2, k2, z2, rs2, u1, (Option.some.inj hx).symm, e1, O1, O2, S⟩
      · exact ⟨o2, k2, z2, rs2, o1, k1, z1, rs1, u2, (Option.some.inj hx).symm, e2, O2, O1, S.flip⟩
      · cases hx
    obtain ⟨oa, ka, za, rsa, ob, kb, zb, rsb, u, rfl, eu, A1, A2, T⟩ := pair
    refine r_gtup (.of (s6 _ _ eu)) rfl ?_
    walk_at "rdn"
    refine part_pre N (A1.same s6) (A2.same s6) T fun H7 p pc pl ws s7 ep ec ew lw hw => ?_
    have s57 := s6.trans s7
    have L50 := S.hi
    have L1 := S.lo
    walk_at "rd"
    refine if_f rfl ?_
    walk_at "rd"
    refine ⟨cal, nm, p, pc, pl, chL cal L, ws, rfl, rfl, rfl, by rw [lw], N.gn, ep, ec, chL_down _ _, (chL_len cal L50).2, fun e => ?_, ew, by omega, hw, fun H8 s8 => ?_⟩
    · subst e
      show ws.length < (desc ((L + 1 : Nat) : Int) (L + 1)).length
      rw [desc_len]
      omega
    walk_at "rd"
    refine if_f rfl ?_
    have s58 := s57.trans s8
    have ep8 := s8 _ _ ep
    have ec8 := s8 _ _ ec
    have ew8 := s8 _ _ ew
    have hw8 : ∀ v ∈ ws, StimAt H8 cal nm v := fun v hv => (hw v hv).same s8
    walk_at "rd"
    refine ⟨_, rfl, by omega, by omega, ?_⟩
    refine for_range (fun j σ H' => Same H8 H' ∧ ∃ v10, σ = [some (.str (sideS cal)), some (.ref t1), some (.ref t2), some (.str nm), some (.int L), some (.ref o1), some (.ref o2), some (.ref oa), some (.ref ob), some (.ref p), v10]) ⟨.refl _, _, rfl⟩ ?_ ?_
    · rintro j σ H9 hj ⟨s9, v10, rfl⟩
      have hj : j < L := by omega
      walk_at "rd"
      refine r_ixT (.of (s9 _ _ ep8)) (at_of (j := 0) rfl rfl) ?_
      walk_at "rd"
      refine r_slice ?_
      walk_at "rd"
      refine r_ixT (.of (s9 _ _ ep8)) (at_of (j := 1) rfl rfl) ?_
      refine ⟨_, rfl, ?_⟩
      refine ⟨_, rfl, ?_⟩
      refine r_slL (.of (s9 _ _ ew8)) fun pn hpn => ?_
      have sa := same_upd (o := .lst (cutV ws none (some (0 + (j : Int))))) hpn
      have en : (upd H9 pn (.lst (cutV ws none (some (0 + (j : Int)))))) pn = some (.lst (ws.take j)) := by
        rw [upd_same, Int.zero_add, cut_lo (by omega)]
      generalize upd H9 pn (.lst (cutV ws none (some (0 + (j : Int))))) = Ha at sa en
      walk_at "rd"
      refine ⟨sz2, fun pt hpt => ?_⟩
      have sb := same_upd (o := .tup [.ref pc, .ref pn]) hpt
      have et : (upd Ha pt (.tup [.ref pc, .ref pn])) pt = some (.tup [.ref pc, .ref pn]) := upd_same
      generalize upd Ha pt (.tup [.ref pc, .ref pn]) = Hb at sb et
      have s8b := (s9.trans sa).trans sb
      have s5b := s58.trans s8b
      walk_at "rdn"
      refine check_pre N (A1.same s5b) (A2.same s5b) T et (s8b _ _ ec8) (sb _ _ en) (by rw [List.length_take]; omega) (fun v hv => (hw8 v (List.mem_of_mem_take hv)).same s8b) fun Hc sc' => ?_
      walk_at "rd"
      refine if_f (decide_eq_false (by rw [List.length_take]; omega)) ?_
      exact ⟨s8b.trans sc', _, rfl⟩
    · rintro σ H9 ⟨s9, v10, rfl⟩
      have s59 := s58.trans s9
      walk_at "rdn"
      refine check_pre N (A1.same s59) (A2.same s59) T (s9 _ _ ep8) (s9 _ _ ec8) (s9 _ _ ew8) (by omega) (fun v hv => (hw8 v hv).same s9) fun Ha sa => ?_
      walk_at "rd"
      refine if_f (by rw [decide_eq_true lw]; rfl) ?_
      have s8a := s9.trans sa
      walk_at "rd"
      refine r_ixT (.of (s8a _ _ ep8)) (at_of (j := 0) rfl rfl) ?_
      walk_at "rd"
      refine r_ixT (.of (s8a _ _ ep8)) (at_of (j := 1) rfl rfl) ?_
      refine r_slice ?_
      walk_at "rd"
      refine r_ixT (.of (s8a _ _ ep8)) (at_of (j := 1) rfl rfl) ?_
      dsimp only [tPart]
      walk_at "rd"
      refine ⟨_, rfl, ?_⟩
      dsimp only [tNoPart]
      have hcl := cut_last (xs := ws) (by omega)
      refine r_slL (.of (s8a _ _ ew8)) fun pn hpn => ?_
      have sb := same_upd (o := .lst (cutV ws (some (-1)) none)) hpn
      have en : (upd Ha pn (.lst (cutV ws (some (-1)) none))) pn = some (.lst (cutV ws (some (-1)) none)) := upd_same
      generalize cutV ws (some (-1)) none = tl at hcl sb en
      show rCat (.ref pl) (.ref pn) (upd Ha pn (.lst tl)) _
      generalize upd Ha pn (.lst tl) = Hb at sb en
      refine r_cat (sb _ _ (s8a _ _ ew8)) en (szK (by rw [hcl.1]; omega)) fun pq hpq => ?_
      have sc' := same_upd (o := .lst (ws ++ tl)) hpq
      have eq' : (upd Hb pq (.lst (ws ++ tl))) pq = some (.lst (ws ++ tl)) := upd_same
      generalize upd Hb pq (.lst (ws ++ tl)) = Hc at sc' eq'
      walk_at "rd"
      refine ⟨sz2, fun pt hpt => ?_⟩
      have sd := same_upd (o := .tup [.ref pc, .ref pq]) hpt
      have et : (upd Hc pt (.tup [.ref pc, .ref pq])) pt = some (.tup [.ref pc, .ref pq]) := upd_same
      generalize upd Hc pt (.tup [.ref pc, .ref pq]) = Hd at sd et
      have s8d := ((s8a.trans sb).trans sc').trans sd
      have s5d := s58.trans s8d
      walk_at "rdn"
      refine check_pre N (A1.same s5d) (A2.same s5d) T et (s8d _ _ ec8) (sd _ _ eq') (by rw [List.length_append, hcl.1]; omega) (fun v hv => ?_) fun He se => ?_
      · rcases List.mem_append.mp hv with h | h
        · exact (hw8 v h).same s8d
        · exact (hw8 v (hcl.2 v h)).same s8d
      walk_at "rd"
      refine if_f (decide_eq_false (by rw [List.length_append, hcl.1]; omega)) ?_
      exact ⟨(s5d.trans se), _, _, _, _, rfl⟩
  · rintro σ H6 ⟨s6, v7, v8, v9, v10, rfl⟩
    have s06 := s05.trans s6
    walk_at "rd"
    refine ⟨o1, t1, cal, ms, nm, k1, z1, rs1, rfl, rfl, rfl, N, O1.same s6, G1.same s06, C1, fun H7 s7 => ?_⟩
    walk_at "rd"
    refine if_t rfl ?_
    walk_at "rd"
    exact ⟨o2, t2, cal, ms, nm, k2, z2, rs2, rfl, rfl, rfl, N, O2.same (s6.trans s7), G2.same (s06.trans s7), C2, fun H8 s8 => q _ ((s06.trans s7).trans s8)⟩
end
end K67
-- deps: LawParted
namespace K67
open PySem PySem.Spec PyProof.Rows L2
theorem cm_one {ms : List Str} {nm : Str} (N : Nms ms nm) {a i : Nat} (ha : a < 6) (hi : i < 6) : cm ms [md ms a] i = decide (i = a) := by
  unfold cm
  by_cases e : i = a
  · rw [e, decide_eq_true rfl]
    exact decide_eq_true (List.mem_singleton.mpr rfl)
  · rw [decide_eq_false e]
    exact decide_eq_false fun z => e (N.inj hi ha (List.mem_singleton.mp z))
theorem cm_two {ms ys : List Str} {nm : Str} (N : Nms ms nm) {a b i : Nat} (ha : a < 6) (hb : b < 6) (hi : i < 6) (hP : ys.Perm [md ms a, md ms b]) : cm ms ys i = decide (i = a ∨ i = b) := by
  unfold cm
  have e : md ms i ∈ ys ↔ (i = a ∨ i = b) := by
    rw [hP.mem_iff, List.mem_cons, List.mem_singleton]
    exact ⟨fun z => z.imp (N.inj hi ha) (N.inj hi hb), fun z => z.imp (fun y => by rw [y]) (fun y => by rw [y])⟩
  by_cases z : i = a ∨ i = b
  · rw [decide_eq_true z]
    exact decide_eq_true (e.mpr z)
  · rw [decide_eq_false z]
    exact decide_eq_false fun y => z (e.mp y)
def splitB (k1 k2 : Nat) (c1 c2 : Nat → Bool) (L : Nat) : Bool := (List.range L).all (fun j => c1 (j % k1) == c2 (j % k2)) && ((List.range L).all fun a => (List.range a).all fun b => !(b % k1 == a % k1 && b % k2 == a % k2)) && (c1 (L % k1) != c2 (L % k2))
theorem split_of {k1 k2 L : Nat} {c1 c2 d1 d2 : Nat → Bool} (h : splitB k1 k2 d1 d2 L = true) (l1 : 1 ≤ L) (l2 : L ≤ 50) (a1 : 1 ≤ k1) (a6 : k1 ≤ 6) (b1 : 1 ≤ k2) (b6 : k2 ≤ 6) (e1 : ∀ i, i < 6 → c1 i = d1 i) (e2 : ∀ i, i < 6 → c2 i = d2 i) : Split k1 k2 c1 c2 L := by
  unfold splitB at h
  rw [Bool.and_eq_true, Bool.and_eq_true] at h
  obtain ⟨⟨h1, h2⟩, h3⟩ := h
  have m1 : ∀ x, x % k1 < 6 := fun x => Nat.lt_of_lt_of_le (Nat.mod_lt _ a1) a6
  have m2 : ∀ x, x % k2 < 6 := fun x => Nat.lt_of_lt_of_le (Nat.mod_lt _ b1) b6
  refine ⟨l1, l2, fun j hj => ?_, fun a b hb ha z => ?_, ?_⟩
  · rw [e1 _ (m1 j), e2 _ (m2 j)]
    exact eq_of_beq (List.all_eq_true.mp h1 j (List.mem_range.mpr hj))
  · have := List.all_eq_true.mp (List.all_eq_true.mp h2 a (List.mem_range.mpr ha)) b (List.mem_range.mpr hb)
    rw [z.1, z.2] at this
    simp at this
  · rw [e1 _ (m1 L), e2 _ (m2 L)]
    exact bne_iff_ne.mp h3
/-- two rings that never part: what the search of the hosts and that of the callers goes through -/
structure Never (k1 k2 : Nat) (c1 c2 : Nat → Bool) : Prop where
  h : ∃ L, Going k1 k2 c1 c2 L ∧ c1 (L % k1) = c2 (L % k2) ∧ ∃ b, b < L ∧ b % k1 = L % k1 ∧ b % k2 = L % k2
  c : ∃ L, GoingC k1 k2 c1 c2 L ∧ c1 (L % k1) = c2 (L % k2) ∧ ∃ b, 1 ≤ b ∧ b < L ∧ b % k1 = L % k1 ∧ b % k2 = L % k2
def neverB (k1 k2 : Nat) (c1 c2 : Nat → Bool) (T : Nat) : Bool := (List.range (T + 2)).all (fun j => c1 (j % k1) == c2 (j % k2)) && ((List.range T).all fun a => (List.range a).all fun b => !(b % k1 == a % k1 && b % k2 == a % k2)) &&
  ((List.range (T + 1)).all fun a => (List.range a).all fun b => decide (b = 0) || !(b % k1 == a % k1 && b % k2 == a % k2)) && (T % k1 == 0 && T % k2 == 0)
theorem never_of {k1 k2 T : Nat} {c1 c2 d1 d2 : Nat → Bool} (h : neverB k1 k2 d1 d2 T = true) (l1 : 1 ≤ T) (l2 : T ≤ 40) (a1 : 1 ≤ k1) (a6 : k1 ≤ 6) (b1 : 1 ≤ k2) (b6 : k2 ≤ 6) (e1 : ∀ i, i < 6 → c1 i = d1 i) (e2 : ∀ i, i < 6 → c2 i = d2 i) : Never k1 k2 c1 c2 := by
  unfold neverB at h
  rw [Bool.and_eq_true, Bool.and_eq_true, Bool.and_eq_true] at h
  obtain ⟨⟨⟨h1, h2⟩, h3⟩, h4⟩ := h
  rw [Bool.and_eq_true] at h4
  have t1 : T % k1 = 0 := eq_of_beq h4.1
  have t2 : T % k2 = 0 := eq_of_beq h4.2
  have m1 : ∀ x, x % k1 < 6 := fun x => Nat.lt_of_lt_of_le (Nat.mod_lt _ a1) a6
  have m2 : ∀ x, x % k2 < 6 := fun x => Nat.lt_of_lt_of_le (Nat.mod_lt _ b1) b6
  have eq : ∀ j, j < T + 2 → c1 (j % k1) = c2 (j % k2) := fun j hj => by
    rw [e1 _ (m1 j), e2 _ (m2 j)]
    exact eq_of_beq (List.all_eq_true.mp h1 j (List.mem_range.mpr hj))
  have s1 : ∀ k, T % k = 0 → (T + 1) % k = 1 % k := fun k e => by
    rw [Nat.add_mod, e, Nat.zero_add, Nat.mod_mod]
  refine ⟨⟨T, ⟨l1, by omega, fun j _ hj => eq j (by omega), fun a b hb ha z => ?_⟩, eq T (by omega), 0, by omega, by rw [t1, Nat.zero_mod], by rw [t2, Nat.zero_mod]⟩,
    ⟨T + 1, ⟨by omega, by omega, fun j hj => eq j (by omega), fun a b hb1 hb ha z => ?_⟩, eq _ (by omega), 1, Nat.le_refl _, by omega, (s1 k1 t1).symm, (s1 k2 t2).symm⟩⟩
  · have := List.all_eq_true.mp (List.all_eq_true.mp h2 a (List.mem_range.mpr ha)) b (List.mem_range.mpr hb)
    rw [z.1, z.2] at this
    simp at this
  · have := List.all_eq_true.mp (List.all_eq_true.mp h3 a (List.mem_range.mpr ha)) b (List.mem_range.mpr hb)
    rw [z.1, z.2, decide_eq_false (show ¬ b = 0 by omega)] at this
    simp at this
theorem Never.flip {k1 k2 : Nat} {c1 c2 : Nat → Bool} (n : Never k1 k2 c1 c2) : Never k2 k1 c2 c1 := by
  obtain ⟨L, G, e, b, hb, f1, f2⟩ := n.h
  obtain ⟨M, G', e', b', hb0, hb', f1', f2'⟩ := n.c
  exact ⟨⟨L, ⟨G.lo, G.hi, fun j h0 h => (G.eq j h0 h).symm, fun a b h1 h2 h3 => G.new a b h1 h2 ⟨h3.2, h3.1⟩⟩, e.symm, b, hb, f2, f1⟩,
    ⟨M, ⟨G'.lo, G'.hi, fun j h => (G'.eq j h).symm, fun a b h0 h1 h2 h3 => G'.new a b h0 h1 h2 ⟨h3.2, h3.1⟩⟩, e'.symm, b', hb0, hb', f2', f1'⟩⟩
theorem split_all {ms : List Str} {nm : Str} (N : Nms ms nm) {d : Nat} (hd : d < 4) : Split (2 + d) (2 + d + 1) (cm ms [md ms (1 + d)]) (cm ms [md ms (1 + d)]) (3 + 2 * d) := by
  have e : ∀ i, i < 6 → cm ms [md ms (1 + d)] i = decide (i = 1 + d) := fun i hi => cm_one N (by omega) hi
  refine split_of (d1 := fun i => decide (i = 1 + d)) (d2 := fun i => decide (i = 1 + d)) ?_ (by omega) (by omega) (by omega) (by omega) (by omega) (by omega) e e
  rcases d with _ | _ | _ | _ | d
  · decide +kernel
  · decide +kernel
  · decide +kernel
  · decide +kernel
  · omega
theorem never_all {ms ys : List Str} {nm : Str} (N : Nms ms nm) {q : Nat} (hq : q = 2 ∨ q = 3) (hP : ys.Perm [md ms (q - 1), md ms (2 * q - 1)]) : Never q (2 * q) (cm ms [md ms (q - 1)]) (cm ms ys) := by
  have e1 : ∀ i, i < 6 → cm ms [md ms (q - 1)] i = decide (i = q - 1) := fun i hi => cm_one N (by omega) hi
  have e2 : ∀ i, i < 6 → cm ms ys i = decide (i = q - 1 ∨ i = 2 * q - 1) := fun i hi => cm_two N (by omega) (by omega) hi hP
  refine never_of (T := 2 * q) (d1 := fun i => decide (i = q - 1)) (d2 := fun i => decide (i = q - 1 ∨ i = 2 * q - 1)) ?_ (by omega) (by omega) (by omega) (by omega) (by omega) (by omega) e1 e2
  rcases hq with rfl | rfl
  · decide +kernel
  · decide +kernel
theorem calm_one {ms : List Str} {nm : Str} (N : Nms ms nm) {a : Nat} (h1 : 1 ≤ a) (h6 : a < 6) : CalmOk ms [md ms a] :=
  ⟨fun z hz => by rw [List.mem_singleton.mp hz]; exact N.good h6, List.pairwise_singleton _ _, fun z => by have := N.inj (by decide) h6 (List.mem_singleton.mp z); omega, (show 1 ≤ 6 by decide)⟩
theorem calm_two {ms : List Str} {nm : Str} (N : Nms ms nm) {a b : Nat} (h1 : 1 ≤ a) (hab : a < b) (h6 : b < 6) : CalmOk ms [md ms a, md ms b] := by
  refine ⟨fun z hz => ?_, ?_, fun z => ?_, (show 2 ≤ 6 by decide)⟩
  · rcases List.mem_cons.mp hz with rfl | hz
    · exact N.good (by omega)
    · rw [List.mem_singleton.mp hz]
      exact N.good h6
  · refine List.nodup_cons.mpr ⟨fun z => ?_, List.pairwise_singleton _ _⟩
    have := N.inj (by omega) h6 (List.mem_singleton.mp z)
    omega
  · rcases List.mem_cons.mp z with e | e
    · have := N.inj (by decide) (by omega) e
      omega
    · have := N.inj (by decide) h6 (List.mem_singleton.mp e)
      omega
section
variable {K : PySem.W.Frag} {D : Adr}
theorem part_none {H : Hp} {Q : VK} {o1 o2 : Addr} {cal : Bool} {ms : List Str} {nm : Str} {k1 k2 : Nat} {calm1 calm2 : List Str} {rs1 rs2 : List Addr} (N : Nms ms nm) (O1 : RingAt D H o1 cal ms nm k1 calm1 rs1) (O2 : RingAt D H o2 cal ms nm k2 calm2 rs2) (S : Never k1 k2 (cm ms calm1) (cm ms calm2))
    (q : ∀ H', Same H H' → Q .non H') : sp_part K D [.ref o1, .ref o2] H Q E0 := by
  cases cal
  · obtain ⟨L, G, e, b⟩ := S.h
    exact sp2 (.inr (sp2 ⟨o1, o2, ms, nm, k1, calm1, rs1, k2, calm2, rs2, L, rfl, rfl, N, O1, O2, G, .inr ⟨e, b, q⟩⟩))
  · obtain ⟨L, G, e, b⟩ := S.c
    exact sp2 (.inl (sp2 ⟨o1, o2, ms, nm, k1, calm1, rs1, k2, calm2, rs2, L, rfl, rfl, N, O1, O2, G, .inr ⟨e, b, q⟩⟩))
end
end K67
-- deps: LawNum
namespace K67
open PySem PySem.Spec PyProof.Rows L2
section
variable {P : Program} {w : World} {K : PySem.W.Frag} {mg : Str → Option Value} {base : Heap} {D : Adr}
theorem Off.back {p : Addr} {H H1 H2 : Hp} (s : Same H H1) (hp : H p = none) (o : Off p H1 H2) : Same H H2 := fun a u e => o a u (s a u e) (ne_of_none e hp)
abbrev sp_law (K : PySem.W.Frag) (D : Adr) : Sp := Sp1 fun a H Q => ∃ l, ∃ ns : List Int, a = .ref l ∧ SqL K H l (ns.map V.int) ∧ ∀ H', Q (.bl true) H'
theorem sc_law : FnScope ["_law_script", "_law_cell", "_law_purse_here", "_law_p", "_law_modes", "_law_name", "_law_side", "_law_one", "_law_other", "_law_q"] ["_law_script"] (defScope (top 75)) := ⟨rfl, rfl, rfl, by decide +kernel, rfl, by decide +kernel, by decide +kernel⟩
theorem fn_law {f : Addr} {fd : FuncData} (F : FunD K "law" "law" (defArgs (top 75)) (defBody (top 75)) (defScope (top 75)) [] [] f fd) (B : Bl mg) (c_law_purse : Cal P w K mg base 1 "_law_purse" (sp_law_purse K D)) (c_law_draw : Cal P w K mg base 1 "_law_draw" (sp_law_draw K D)) (c_law_names : Cal P w K mg base 3 "_law_names" (sp_law_names K D)) (c_law_ring : Cal P w K mg base 1 "_law_ring" (sp_law_ring K D)) (c_law_parted_right : Cal P w K mg base 10 "_law_parted_right" (sp_law_parted_right K D)) (cpart : Cal P w K mg base 9 "part" (sp_part K D)) (c_law_role : Cal P w K mg base 8 "_law_role" (sp_law_role K D)) : FnOk P w K mg base CX0 11 f fd ["_law_script"] (sp_law K D) := by
  have sc := sc_law
  refine F.ok sc len1 (fun cdv A outer s H vs Q E hr h => ?_)
  suffices hb : ∃ t, PSs (cxOf CX0 P w K mg base ["_law_script", "_law_cell", "_law_purse_here", "_law_p", "_law_modes", "_law_name", "_law_side", "_law_one", "_law_other", "_law_q"] "law" (defScope (top 75)) f cdv A outer s H E).nox (defBody (top 75)) t ∧ t { nx := fun _ H' => Q .non H', rt := Q } (start ["_law_script", "_law_cell", "_law_purse_here", "_law_p", "_law_modes", "_law_name", "_law_side", "_law_one", "_law_other", "_law_q"] vs) H from let ⟨t, h1, h2⟩ := hb; ⟨t, h1.nox, h2⟩
  obtain ⟨a0, rfl, h⟩ := h
  refine ⟨_, (pss_cons (ps_for PassesOwn.never rfl (pi_range1 rfl B.range_ (pa_cons pe_int pa_nil)) (pg_name (i := 1) sc.nd rfl (.inl rfl)) (pss_cons (ps_set (i := 2) sc.nd rfl (.inl rfl) (pe_c c_law_purse hr (by decide) rfl (pa_cons (pv 0) (pa_cons (pv 1) pa_nil))))
  (pss_cons (ps_par3 (i := 3) (j := 4) (l := 5) rfl sc.nd rfl rfl rfl (by decide) (by decide) (by decide) rfl rfl rfl (pa_cons (pe_op op_add pe_int (pe_c c_law_draw hr (by decide) rfl (pa_cons (pv 2) (pa_cons pe_int pa_nil)))) (pa_cons (pe_c c_law_names hr (by decide) rfl (pa_cons (pv 2) (pa_cons pe_int pa_nil))) (pa_cons (pe_ix ix_list (pe_c c_law_names hr (by decide) rfl (pa_cons (pv 2) (pa_cons pe_int pa_nil))) pe_int (fun _ _ => rfl)) pa_nil))) (by rfl))
  (pss_one (ps_for PassesOwn.never rfl (pi_list (pe_lst (pa_cons pe_str (pa_cons pe_str pa_nil)))) (pg_name (i := 6) sc.nd rfl (.inl rfl)) (pss_cons (ps_set (i := 7) sc.nd rfl (.inl rfl) (pe_c c_law_ring hr (by decide) rfl (pa_cons (pv 6) (pa_cons (pv 4) (pa_cons (pv 3) (pa_cons (pe_lst (pa_cons (pe_ix ix_list (pv 4) (pe_op op_sub (pv 3) pe_int) (fun _ _ => rfl)) pa_nil)) (pa_cons (pv 5) pa_nil)))))))
  (pss_cons (ps_set (i := 8) sc.nd rfl (.inl rfl) (pe_c c_law_ring hr (by decide) rfl (pa_cons (pv 6) (pa_cons (pv 4) (pa_cons (pe_op op_add (pv 3) pe_int) (pa_cons (pe_lst (pa_cons (pe_ix ix_list (pv 4) (pe_op op_sub (pv 3) pe_int) (fun _ _ => rfl)) pa_nil)) (pa_cons (pv 5) pa_nil)))))))
  (pss_cons (ps_if (pt_not (pt_val (pe_c c_law_parted_right hr (by decide) rfl (pa_cons (pv 6) (pa_cons (pv 7) (pa_cons (pv 8) (pa_cons (pv 5) (pa_cons (pe_op op_sub (pe_op op_mul pe_int (pv 3)) pe_int) pa_nil)))))))) (pss_one (ps_ret pe_bl)) pss_nil)
  (pss_one (ps_for PassesOwn.never rfl (pi_list (pe_lst (pa_cons pe_int (pa_cons pe_int pa_nil)))) (pg_name (i := 9) sc.nd rfl (.inl rfl)) (pss_cons (ps_set (i := 7) sc.nd rfl (.inl rfl) (pe_c c_law_ring hr (by decide) rfl (pa_cons (pv 6) (pa_cons (pv 4) (pa_cons (pv 9) (pa_cons (pe_lst (pa_cons (pe_ix ix_list (pv 4) (pe_op op_sub (pv 9) pe_int) (fun _ _ => rfl)) pa_nil)) (pa_cons (pv 5) pa_nil)))))))
  (pss_cons (ps_set (i := 8) sc.nd rfl (.inl rfl) (pe_c c_law_ring hr (by decide) rfl (pa_cons (pv 6) (pa_cons (pv 4) (pa_cons (pe_op op_mul pe_int (pv 9)) (pa_cons (pe_lst (pa_cons (pe_ix ix_list (pv 4) (pe_op op_sub (pv 9) pe_int) (fun _ _ => rfl)) (pa_cons (pe_ix ix_list (pv 4) (pe_op op_sub (pe_op op_mul pe_int (pv 9)) pe_int) (fun _ _ => rfl)) pa_nil))) (pa_cons (pv 5) pa_nil)))))))
  (pss_cons (ps_if (pt_cmpR op_is1 (pe_c cpart hr (by decide) rfl (pa_cons (pe_c c_law_role hr (by decide) rfl (pa_cons (pv 6) (pa_cons (pv 7) pa_nil))) (pa_cons (pe_c c_law_role hr (by decide) rfl (pa_cons (pv 6) (pa_cons (pv 8) pa_nil))) pa_nil))) pe_non (nomark _)) (pss_one (ps_ret pe_bl)) pss_nil)
  (pss_one (ps_if (pt_cmpR op_is1 (pe_c cpart hr (by decide) rfl (pa_cons (pe_c c_law_role hr (by decide) rfl (pa_cons (pv 6) (pa_cons (pv 8) pa_nil))) (pa_cons (pe_c c_law_role hr (by decide) rfl (pa_cons (pv 6) (pa_cons (pv 7) pa_nil))) pa_nil))) pe_non (nomark _)) (pss_one (ps_ret pe_bl)) pss_nil)))))))))))))))
  (pss_one (ps_ret pe_bl))), ?_⟩
  obtain ⟨l, ns, rfl, hl, q⟩ := h
  walk_at "rd"
  refine ⟨_, rfl, by decide, by decide, ?_⟩
  refine for_range (fun i σ H' => Same H H' ∧ ∃ v1 v2 v3 v4 v5 v6 v7 v8 v9, σ = [some (.ref l), v1, v2, v3, v4, v5, v6, v7, v8, v9]) ⟨.refl _, none, none, none, none, none, none, none, none, none, rfl⟩ ?_ ?_
  · rintro i σ H1 hi ⟨s1, v1, v2, v3, v4, v5, v6, v7, v8, v9, rfl⟩
    walk_at "rd"
    refine ⟨l, ns, i, rfl, by rw [Int.zero_add], s1.seq hl, fun H2 pu hpu s2 P2 => ?_⟩
    walk_at "rd"
    refine ⟨pu, 4, 0, rfl, rfl, by decide, by decide, P2, by decide, fun d0 H3 d00 d01 o3 P3 => ?_⟩
    obtain ⟨d, rfl⟩ := Int.eq_ofNat_of_zero_le d00
    have hd : d < 4 := by omega
    walk_at "rd"
    refine ⟨pu, 6, 1, rfl, rfl, by decide, P3, by decide, fun H4 pm ms o4 P4 em nm4 lms ndm gm => ?_⟩
    walk_at "rd"
    refine ⟨pu, 1, 11, rfl, rfl, by decide, P4, by decide, fun H5 pz zs o5 P5 ez nz lz _ gz => ?_⟩
    obtain ⟨nm, rfl⟩ : ∃ nm, zs = [nm] := by
      match zs, lz with
      | [z], _ => exact ⟨z, rfl⟩
    have N : Nms ms nm := ⟨lms, ndm, gm, gz nm (List.mem_cons_self ..)⟩
    walk_at "rd"
    refine r_ixL (.of ez) (at_of (j := 0) rfl rfl) ?_
    have em5 := o5 _ _ em nm4
    have s15 : Same H1 H5 := Off.back s2 hpu ((o3.trans o4).trans o5)
    have s05 := s1.trans s15
    have at_m : ∀ {H' : Hp} {j : Nat}, Same H5 H' → j < 6 → SqL K H' pm (ms.map V.str) ∧ (ms.map V.str)[j]? = some (.str (md ms j)) := fun s hj => ⟨.of (s _ _ em5), by rw [List.getElem?_map, N.at_ hj]; rfl⟩
    clear ez nz gz em o3 o4 o5 P3 P4 P5 P2 s15
    have e2d : ((2 : Int) + (d : Nat)) = ((2 + d : Nat) : Int) := by omega
    rw [e2d]
    walk_at "rd"
    refine ⟨sz2, fun ps hps => ?_⟩
    have s6 := same_upd (o := .lst [.str "caller", .str "host"]) hps
    have es : (upd H5 ps (.lst [.str "caller", .str "host"])) ps = some (.lst [.str "caller", .str "host"]) := upd_same
    generalize upd H5 ps (.lst [.str "caller", .str "host"]) = H6 at s6 es
    refine ⟨ps, rfl, ⟨_, .of es⟩, ?_⟩
    refine for_list (xs := [.str "caller", .str "host"]) (fun j σ H' => Same H6 H' ∧ ∃ v6 v7 v8 v9, σ = [some (.ref l), some (.int (0 + (i : Nat))), some (.ref pu), some (.int ((2 + d : Nat) : Int)), some (.ref pm), some (.str nm), v6, v7, v8, v9]) ⟨.refl _, v6, v7, v8, v9, rfl⟩ (fun _ _ _ _ h => .of (h.1 _ _ es)) ?_ ?_
    · rintro j x σ H7 hx ⟨s7, v6, v7, v8, v9, rfl⟩
      obtain ⟨cal, rfl⟩ : ∃ cal, x = .str (sideS cal) := by
        rcases j with _ | _ | j
        · exact ⟨true, (Option.some.inj hx).symm⟩
        · exact ⟨false, (Option.some.inj hx).symm⟩
        · cases hx
      have s57 := s6.trans s7
      walk_at "rd"
      refine r_ixL (at_m s57 (show 1 + d < 6 by omega)).1 (at_of (j := 1 + d) (by omega) (at_m s57 (show 1 + d < 6 by omega)).2) ?_
      walk_at "rd"
      refine ⟨sz1, fun c1 hc1 => ?_⟩
      have s8 := same_upd (o := .lst [.str (md ms (1 + d))]) hc1
      have e8 : (upd H7 c1 (.lst [.str (md ms (1 + d))])) c1 = some (.lst ([md ms (1 + d)].map V.str)) := upd_same
      generalize upd H7 c1 (.lst [.str (md ms (1 + d))]) = H8 at s8 e8
      have s58 := s57.trans s8
      walk_at "rd"
      refine ⟨cal, pm, ms, nm, 2 + d, c1, [md ms (1 + d)], rfl, rfl, rfl, rfl, rfl, N, by omega, by omega, s58 _ _ em5, e8, fun H9 t1 s9 D1 => ?_⟩
      have s59 := s58.trans s9
      walk_at "rd"
      refine r_ixL (at_m s59 (show 1 + d < 6 by omega)).1 (at_of (j := 1 + d) (by omega) (at_m s59 (show 1 + d < 6 by omega)).2) ?_
      walk_at "rd"
      refine ⟨sz1, fun c2 hc2 => ?_⟩
      have sa := same_upd (o := .lst [.str (md ms (1 + d))]) hc2
      have ea : (upd H9 c2 (.lst [.str (md ms (1 + d))])) c2 = some (.lst ([md ms (1 + d)].map V.str)) := upd_same
      generalize upd H9 c2 (.lst [.str (md ms (1 + d))]) = Ha at sa ea
      have s5a := s59.trans sa
      walk_at "rd"
      refine ⟨cal, pm, ms, nm, 2 + d + 1, c2, [md ms (1 + d)], rfl, rfl, by rw [Int.natCast_add (2 + d) 1]; rfl, rfl, rfl, N, by omega, by omega, s5a _ _ em5, ea, fun Hb t2 sb D2 => ?_⟩
      have s5b := s5a.trans sb
      walk_at "rd"
      refine r_rI (.inl ⟨by decide, by decide⟩) ?_
      walk_at "rd"
      have C1 : CalmOk ms [md ms (1 + d)] := calm_one N (by omega) (by omega)
      refine ⟨cal, t1, t2, ms, nm, 2 + d, md ms (1 + d), 2 + d + 1, md ms (1 + d), 3 + 2 * d, rfl, rfl, rfl, rfl, by congr 1; omega, N, by omega, by omega, by omega, by omega, D1.same (sa.trans sb), D2, C1, C1, split_all N hd, fun Hc sc' => ?_⟩
      have s5c := s5b.trans sc'
      walk_at "rd"
      refine if_f rfl ?_
      walk_at "rd"
      refine ⟨sz2, fun pq hpq => ?_⟩
      have sd := same_upd (o := .lst [.int 2, .int 3]) hpq
      have ed : (upd Hc pq (.lst [.int 2, .int 3])) pq = some (.lst [.int 2, .int 3]) := upd_same
      generalize upd Hc pq (.lst [.int 2, .int 3]) = Hd at sd ed
      have s5d := s5c.trans sd
      have s7d := ((((s8.trans s9).trans sa).trans sb).trans sc').trans sd
      refine ⟨pq, rfl, ⟨_, .of ed⟩, ?_⟩
      refine for_list (xs := [.int 2, .int 3]) (fun k σ H' => Same Hd H' ∧ ∃ v7 v8 v9, σ = [some (.ref l), some (.int (0 + (i : Nat))), some (.ref pu), some (.int ((2 + d : Nat) : Int)), some (.ref pm), some (.str nm), some (.str (sideS cal)), v7, v8, v9]) ⟨.refl _, _, _, v9, rfl⟩ (fun _ _ _ _ h => .of (h.1 _ _ ed)) ?_ ?_
      · rintro k y σ He hy ⟨se, v7, v8, v9, rfl⟩
        obtain ⟨qn, hq, rfl⟩ : ∃ qn : Nat, (qn = 2 ∨ qn = 3) ∧ y = .int qn := by
          rcases k with _ | _ | k
          · exact ⟨2, .inl rfl, (Option.some.inj hy).symm⟩
          · exact ⟨3, .inr rfl, (Option.some.inj hy).symm⟩
          · cases hy
        have s5e := s5d.trans se
        have b1 : qn - 1 < 6 := by omega
        have b2 : 2 * qn - 1 < 6 := by omega
        walk_at "rd"
        refine r_ixL (at_m s5e b1).1 (at_of (j := qn - 1) (by omega) (at_m s5e b1).2) ?_
        walk_at "rd"
        refine ⟨sz1, fun c3 hc3 => ?_⟩
        have sf := same_upd (o := .lst [.str (md ms (qn - 1))]) hc3
        have ef : (upd He c3 (.lst [.str (md ms (qn - 1))])) c3 = some (.lst ([md ms (qn - 1)].map V.str)) := upd_same
        generalize upd He c3 (.lst [.str (md ms (qn - 1))]) = Hf at sf ef
        have s5f := s5e.trans sf
        walk_at "rd"
        refine ⟨cal, pm, ms, nm, qn, c3, [md ms (qn - 1)], rfl, rfl, rfl, rfl, rfl, N, by omega, by omega, s5f _ _ em5, ef, fun Hg t3 sg D3 => ?_⟩
        have s5g := s5f.trans sg
        walk_at "rd"
        refine r_rI (.inl ⟨by decide, by decide⟩) ?_
        walk_at "rd"
        refine r_ixL (at_m s5g b1).1 (at_of (j := qn - 1) (by omega) (at_m s5g b1).2) ?_
        walk_at "rd"
        refine r_rI (.inl ⟨by decide, by decide⟩) ?_
        walk_at "rd"
        refine r_ixL (at_m s5g b2).1 (at_of (j := 2 * qn - 1) (by omega) (at_m s5g b2).2) ?_
        walk_at "rd"
        refine ⟨sz2, fun c4 hc4 => ?_⟩
        have sh := same_upd (o := .lst [.str (md ms (qn - 1)), .str (md ms (2 * qn - 1))]) hc4
        have eh : (upd Hg c4 (.lst [.str (md ms (qn - 1)), .str (md ms (2 * qn - 1))])) c4 = some (.lst ([md ms (qn - 1), md ms (2 * qn - 1)].map V.str)) := upd_same
        generalize upd Hg c4 (.lst [.str (md ms (qn - 1)), .str (md ms (2 * qn - 1))]) = Hh at sh eh
        have s5h := s5g.trans sh
        walk_at "rd"
        refine ⟨cal, pm, ms, nm, 2 * qn, c4, [md ms (qn - 1), md ms (2 * qn - 1)], rfl, rfl, by rw [Int.natCast_mul]; rfl, rfl, rfl, N, by omega, by omega, s5h _ _ em5, eh, fun Hi t4 si D4 => ?_⟩
        have s5i := s5h.trans si
        have D3 := D3.same (sh.trans si)
        have C3 : CalmOk ms [md ms (qn - 1)] := calm_one N (by omega) b1
        have C4 : CalmOk ms [md ms (qn - 1), md ms (2 * qn - 1)] := calm_two N (by omega) (by omega) b2
        walk_at "rd"
        refine ⟨t3, cal, ms, nm, qn, _, rfl, rfl, N, by omega, by omega, D3, C3, fun Hj oa ya rsa sj Oa Pa => ?_⟩
        obtain rfl : ya = [md ms (qn - 1)] := List.perm_singleton.mp Pa
        walk_at "rd"
        refine ⟨t4, cal, ms, nm, 2 * qn, _, rfl, rfl, N, by omega, by omega, D4.same sj, C4, fun Hk ob yb rsb sk Ob Pb => ?_⟩
        walk_at "rdn"
        refine part_none N (Oa.same sk) Ob (never_all N hq Pb) fun Hl sl => ?_
        walk_at "rd"
        refine if_f rfl ?_
        walk_at "rd"
        have sil := (sj.trans sk).trans sl
        refine ⟨t4, cal, ms, nm, 2 * qn, _, rfl, rfl, N, by omega, by omega, D4.same sil, C4, fun Hm oc yc rsc sm Oc Pc => ?_⟩
        walk_at "rd"
        refine ⟨t3, cal, ms, nm, qn, _, rfl, rfl, N, by omega, by omega, D3.same (sil.trans sm), C3, fun Hn od yd rsd sn Od Pd => ?_⟩
        obtain rfl : yd = [md ms (qn - 1)] := List.perm_singleton.mp Pd
        walk_at "rdn"
        refine part_none N (Oc.same sn) Od (never_all N hq Pc).flip fun Ho so => ?_
        walk_at "rd"
        refine if_f rfl ?_
        exact ⟨((((((se.trans sf).trans sg).trans sh).trans si).trans sil).trans sm).trans (sn.trans so), _, _, _, rfl⟩
      · rintro σ He ⟨se, v7, v8, v9, rfl⟩
        exact ⟨s7.trans (s7d.trans se), _, _, _, _, rfl⟩
    · rintro σ H7 ⟨s7, v6, v7, v8, v9, rfl⟩
      exact ⟨s05.trans (s6.trans s7), _, _, _, _, _, _, _, _, _, rfl⟩
  · rintro σ H1 ⟨s1, v1, v2, v3, v4, v5, v6, v7, v8, v9, rfl⟩
    walk_at "rd"
    exact q _
end
end K67
-- deps: Part
namespace K67
open PySem PySem.Spec PyProof.Rows L2
abbrev Rw : PySem.W.OpenRow := PySem.W.OpenLaw.row PySem.Challenge.rw_everypair_k67_whole_rings_parted
def gDef (x : Str) (i : Nat) : He5.DefA := ⟨fun K => He.ga K x, x, x, defArgs (top i), defBody (top i), defScope (top i), [], []⟩
def mDef (C m q : Str) (i j : Nat) (dfl : List He.Dv) (kwd : List (Str × He.Dv)) : He5.DefA := ⟨fun K => He.ma K (He.ga K C) m, m, q, defArgs (inClass (top i) j), defBody (inClass (top i) j), defScope (inClass (top i) j), dfl, kwd⟩
def pDef (C m q : Str) (i j : Nat) : He5.DefA := ⟨fun K => He5.wf K (He.ga K C) "property" m, m, q, defArgs (inClass (top i) j), defBody (inClass (top i) j), defScope (inClass (top i) j), [], []⟩
def lo0 : List Str := ["__name__", "LETTERS", "TIMEOUT", "LONGEST_NAME", "is_whole", "is_name", "is_word", "is_for", "mode_after", "caller_fits", "caller_acted", "meeting", "host_fits", "host_acted", "EveryPairError", "InvalidRule", "InvalidRole", "CALLER_TESTS", "HOST_TESTS", "CALLER_MOVES", "HOST_MOVES", "is_name_or_none", "are_fields", "Rule", "fits_caller", "fits_host", "fits_side", "SIDES", "are_settled", "are_parts"]
def lo1 : List Str := ["Role", "is_role", "check_role", "is_choices", "acted", "shown", "beginning", "are_parted", "names_of", "host_messages", "copied", "part_hosts", "window", "caller_stimuli", "lows_after", "told_by", "step_callers", "step_of", "differ_at", "are_unlike", "part_callers", "check_roles", "part", "is_stimulus", "is_claim", "check_part", "_law_purse", "_law_draw", "_law_pick", "_law_names"]
def lo2 : List Str := ["_law_rule", "_law_role", "_law_whole", "_law_is_list", "_law_same_role", "_law_ring", "_law_stimuli_right", "_law_parted_right"]
def loose : List Str := lo0 ++ lo1 ++ lo2
def fn0 : List He5.DefA := [gDef "is_whole" 4, gDef "is_name" 5, gDef "is_word" 6, gDef "is_for" 8, gDef "mode_after" 9, gDef "caller_fits" 10, gDef "caller_acted" 11, gDef "host_fits" 13, gDef "host_acted" 14, gDef "is_name_or_none" 24, gDef "are_fields" 25, gDef "fits_caller" 27, gDef "fits_host" 28, gDef "fits_side" 29, gDef "are_settled" 32, gDef "are_parts" 33, gDef "is_role" 35, gDef "check_role" 36]
def fn1 : List He5.DefA := [gDef "is_choices" 38, gDef "acted" 40, gDef "shown" 41, gDef "beginning" 42, gDef "are_parted" 43, gDef "names_of" 44, gDef "host_messages" 45, gDef "copied" 46, gDef "part_hosts" 47, gDef "window" 48, gDef "caller_stimuli" 49, gDef "lows_after" 50, gDef "told_by" 51, gDef "step_callers" 52, gDef "step_of" 53, gDef "differ_at" 54, gDef "are_unlike" 55, gDef "part_callers" 56]
def fn2 : List He5.DefA := [gDef "check_roles" 57, gDef "part" 58, gDef "is_stimulus" 59, gDef "is_claim" 60, gDef "check_part" 61, gDef "_law_purse" 63, gDef "_law_draw" 64, gDef "_law_pick" 65, gDef "_law_names" 66, gDef "_law_rule" 67, gDef "_law_role" 68, gDef "_law_whole" 69, gDef "_law_is_list" 70, gDef "_law_same_role" 71, gDef "_law_ring" 72, gDef "_law_stimuli_right" 73, gDef "_law_parted_right" 74, gDef "law" 75]
def fn3 : List He5.DefA := [mDef "Rule" "__init__" "Rule.__init__" 26 0 [.str "any"] [("then", .non), ("move", .str "stay"), ("send", .non)], pDef "Rule" "mode" "Rule.mode" 26 1, pDef "Rule" "heard" "Rule.heard" 26 2, pDef "Rule" "which" "Rule.which" 26 3, pDef "Rule" "then" "Rule.then" 26 4, pDef "Rule" "move" "Rule.move" 26 5, pDef "Rule" "send" "Rule.send" 26 6, mDef "Rule" "__eq__" "Rule.__eq__" 26 7 [] [], mDef "Role" "__init__" "Role.__init__" 34 0 [.adr (He.dflAt ("Role", some "__init__") 0)] [], pDef "Role" "side" "Role.side" 34 1, pDef "Role" "first" "Role.first" 34 2, pDef "Role" "rules" "Role.rules" 34 3, pDef "Role" "settled" "Role.settled" 34 4, mDef "Role" "__eq__" "Role.__eq__" 34 5 [] []]
def fn : List He5.DefA := fn0 ++ (fn1 ++ (fn2 ++ (fn3)))
def faB : List He.Fa := [.glo "is_whole", .glo "is_name", .glo "is_word", .glo "is_for", .glo "mode_after", .glo "caller_fits", .glo "caller_acted", .glo "host_fits", .glo "host_acted", .glo "is_name_or_none", .glo "are_fields", .glo "fits_caller", .glo "fits_host", .glo "fits_side", .glo "are_settled", .glo "are_parts", .glo "is_role", .glo "check_role", .glo "is_choices", .glo "acted", .glo "shown", .glo "beginning", .glo "are_parted", .glo "names_of", .glo "host_messages", .glo "copied", .glo "part_hosts", .glo "window", .glo "caller_stimuli", .glo "lows_after", .glo "told_by", .glo "step_callers", .glo "step_of", .glo "differ_at", .glo "are_unlike", .glo "part_callers", .glo "check_roles", .glo "part", .glo "is_stimulus", .glo "is_claim", .glo "check_part", .glo "_law_purse", .glo "_law_draw", .glo "_law_pick", .glo "_law_names", .glo "_law_rule", .glo "_law_role", .glo "_law_whole", .glo "_law_is_list", .glo "_law_same_role", .glo "_law_ring", .glo "_law_stimuli_right", .glo "_law_parted_right", .glo "law", .glo "Rule", .glo "Role", .glo "CALLER_TESTS", .glo "HOST_TESTS", .glo "CALLER_MOVES", .glo "HOST_MOVES", .glo "SIDES", .free "len", .free "isinstance", .free "int", .free "bool", .free "str", .free "list", .free "tuple", .free "set", .free "sorted", .free "range", .free "enumerate", .free "sum", .free "max", .str "LETTERS" "abcdefghijklmnopqrstuvwxyz", .str "TIMEOUT" "timeout", .int "LONGEST_NAME" 8, .cls "Rule", .cls "Role", .noat "Rule" "fields", .noat "Role" "ends", .noat "Role" "table", .noat "Role" "calm", .mkr "Rule", .mkr "Role", .meth "Rule" "__eq__", .meth "Role" "__eq__"]
def prB (K : PySem.W.Frag) (x f : Str) : Bool := He.eqO (PySem.W.findIn K (.ref (He.ga K x)) f) (some (some (.ref (He.ma K (He.ga K x) f)))) && (He.eqO (PySem.W.specialIn K (.ref (He.ma K (He.ga K x) f)) "__get__") (some (some (.builtin "property.__get__"))) &&
  (decide (PySem.W.takesIn K (.ref (He.ma K (He.ga K x) f)) = some true) && (match PySem.W.recIn K (He.ma K (He.ga K x) f) "property" with
    | some (.ref _ :: _) => true
    | _ => false)))
theorem prB_ok {K : PySem.W.Frag} {x f : Str} (h : prB K x f = true) : PropOf K (He.ga K x) f (He.ma K (He.ga K x) f) (He5.wf K (He.ga K x) "property" f) := by
  unfold prB at h
  obtain ⟨h1, h⟩ := He.ba h
  obtain ⟨h2, h⟩ := He.ba h
  obtain ⟨h3, h4⟩ := He.ba h
  refine ⟨He.eqO_ok h1, He.eqO_ok h2, of_decide_eq_true h3, ?_⟩
  unfold He5.wf
  split at h4
  · rename_i g r e
    exact ⟨r, by rw [e]⟩
  · cases h4
def inB (K : PySem.W.Frag) (x : Str) : Bool := He.eqO (PySem.W.findIn K (.ref (He.ga K x)) "__class__") (some (some (.builtin "object.__class__"))) && (He.eqO (PySem.W.specialIn K (.builtin "object.__class__") "__get__") (some (some (.builtin "getset_descriptor.__get__"))) &&
  (decide (PySem.W.takesIn K (.builtin "object.__class__") = some true) && decide (PySem.W.mroIn K (He.ga K x) (.type "object") = some true)))
theorem inB_ok {K : PySem.W.Frag} {x : Str} (c : Cls K (He.ga K x)) (h : inB K x = true) : InC K (He.ga K x) := by
  unfold inB at h
  obtain ⟨h1, h⟩ := He.ba h
  obtain ⟨h2, h⟩ := He.ba h
  obtain ⟨h3, h4⟩ := He.ba h
  exact ⟨c, He.eqO_ok h1, He.eqO_ok h2, of_decide_eq_true h3, of_decide_eq_true h4⟩
def neB (K : PySem.W.Frag) (x : Str) : Bool := He.eqO (PySem.W.findIn K (.ref (He.ga K x)) "__ne__") (some (some (.builtin "object.__ne__")))
def tbB (K : PySem.W.Frag) (p : Str × List Str) : Bool := He.tupB K p.1 (p.2.map He.Dv.str)
theorem tbB_ok {K : PySem.W.Frag} {x : Str} {zs : List Str} (h : tbB K (x, zs) = true) : TupK K (He.ga K x) zs := fun H => by
  have := He.tupB_ok (K := K) (x := x) (vs := zs.map He.Dv.str) h H
  rw [List.map_map] at this
  exact this
def tabs : List (Str × List Str) := [("CALLER_TESTS", ["any", "same", "older", "below"]), ("HOST_TESTS", ["any", "have", "lack", "held", "better", "meet", "none"]), ("CALLER_MOVES", ["stay", "down", "there"]), ("HOST_MOVES", ["stay", "take", "pick", "drop"]), ("SIDES", ["caller", "host"])]
def prs : List (Str × Str) := [("Rule", "mode"), ("Rule", "heard"), ("Rule", "which"), ("Rule", "then"), ("Rule", "move"), ("Rule", "send"), ("Role", "side"), ("Role", "first"), ("Role", "rules"), ("Role", "settled")]
def exB (K : PySem.W.Frag) : Bool := (faB.all fun f => f.ok K) && ((tabs.all fun p => tbB K p) && ((prs.all fun p => prB K p.1 p.2) && (inB K "Rule" && (inB K "Role" && neB K "Role"))))
def rf (g : Addr → Option Obj) (a : Addr) : List Addr := match g a with
  | some o => He.refsD o
  | none => []
def rfD (g : Addr → Option Obj) (a : Addr) : List Addr := match g a with
  | some ⟨_, _, .dict es _, _⟩ => es.toList.flatMap fun e => He.refV e.val
  | _ => []
def rfF (g : Addr → Option Obj) (a : Addr) : List Addr := match g a with
  | some ⟨_, _, .func fd, _⟩ => He.refV fd.code
  | _ => []
def as1 (g : Addr → Option Obj) : List Addr := rf g mainGlobals
def as2 (g : Addr → Option Obj) : List Addr := (as1 g).flatMap (rf g)
def as3 (g : Addr → Option Obj) : List Addr := (as2 g).flatMap (rfD g)
def as4 (g : Addr → Option Obj) : List Addr := (as3 g).flatMap (rf g)
def as5 (g : Addr → Option Obj) : List Addr := (as4 g).flatMap (rfF g)
def asK (g : Addr → Option Obj) : List Addr := mainGlobals :: (as1 g ++ (as2 g ++ (as3 g ++ (as4 g ++ (as5 g ++ [cStatics])))))
abbrev Al : Type := He.AlD × Bool
def obsK (g : Addr → Option Obj) : Al := (He5.obsA [] fn (He.frG g (asK g)), exB (He.frG g (asK g)))
def valK : Al := (He5.valA fn, true)
def hk : PySem.W.Hook where
  α := Al
  obs := fun s => obsK s.heap.get?
  val := fun _ => valK
  says := fun _ h => ∃ K : PySem.W.Frag, K.In h ∧ He5.SaysA [] fn K ∧ exB K = true
  of := fun _ _ e => ⟨_, He.frG_in, congrArg (fun z : Al => z.1) e, congrArg (fun z : Al => z.2) e⟩
  keeps := fun _ _ _ ⟨K, hK, c⟩ k => ⟨K, PySem.W.Frag.In.keeps hK k, c⟩
def ob (s : PySem.W.SharedT) : Al := obsK (HandSHeadRun.getT s)
theorem ob_eq (s : PySem.W.SharedT) : ob s = hk.obs s.abs := by
  have e : HandSHeadRun.getT s = s.abs.heap.get? := funext fun a => HandSHeadRun.getT_eq s a
  unfold ob
  rw [e]
  rfl
set_option maxHeartbeats 0 in
theorem run (w : World) : HandSHeadRun.RunEq Rw (PySem.W.view Rw.prog [75]) hk ob 6000 loose w := by
  intro os
  kernel_rfl
end K67
-- deps: HeadRun Getters Law
namespace K67
open PySem PySem.Spec PyProof.Rows L2
def adr (K : PySem.W.Frag) : Adr := ⟨He.ga K "Rule", He.ga K "Role", He.ga K "CALLER_TESTS", He.ga K "HOST_TESTS", He.ga K "CALLER_MOVES", He.ga K "HOST_MOVES", He.ga K "SIDES"⟩
theorem facts {P : Program} {w : World} {K : PySem.W.Frag} {h : Heap} {mg : Str → Option Value} {f : Addr} (X : K.In h) (G : h.Ns mainGlobals mg) (hfa : mg ("law" : Str) = some (.ref f)) (c : He5.SaysA [] fn K) (e : exB K = true) :
    ∃ fd : FuncData, (∀ (s : Shared) (v : Value), BindsTo s fd ⟨[v], []⟩ [("_law_script", v)]) ∧ ∀ base : Heap, K.In base → base.Ns mainGlobals mg → FnOk P w K mg base CX0 11 f fd ["_law_script"] (sp_law K (adr K)) := by
  unfold exB at e
  obtain ⟨ef, e⟩ := He.ba e
  obtain ⟨et, e⟩ := He.ba e
  obtain ⟨ep, e⟩ := He.ba e
  obtain ⟨ei1, e⟩ := He.ba e
  obtain ⟨ei2, en⟩ := He.ba e
  have fact : ∀ (i : Nat) {x : He.Fa}, faB[i]? = some x → x.ok K = true := fun i {x} hx => List.all_eq_true.mp ef x (List.mem_of_getElem? hx)
  have tab : ∀ (i : Nat) {x : Str × List Str}, tabs[i]? = some x → tbB K x = true := fun i {x} hx => List.all_eq_true.mp et x (List.mem_of_getElem? hx)
  have prop : ∀ (i : Nat) {x : Str × Str}, prs[i]? = some x → prB K x.1 x.2 = true := fun i {x} hx => List.all_eq_true.mp ep x (List.mem_of_getElem? hx)
  have glo : ∀ (i : Nat) {x : Str}, faB[i]? = some (.glo x) → mg x = some (.ref (He.ga K x)) := fun i {x} hx => He.glo_ok X G (fact i hx)
  have fre : ∀ (i : Nat) {x : Str}, faB[i]? = some (.free x) → mg x = none := fun i {x} hx => He.free_ok X G (fact i hx)
  have B : Bl mg := ⟨fre 61 rfl, fre 62 rfl, fre 63 rfl, fre 64 rfl, fre 65 rfl, fre 66 rfl, fre 67 rfl, fre 68 rfl, fre 69 rfl, fre 70 rfl, fre 71 rfl, fre 72 rfl, fre 73 rfl⟩
  obtain ⟨k1, tl⟩ := He.str_ok X G (fact 74 (x := .str "LETTERS" "abcdefghijklmnopqrstuvwxyz") rfl)
  obtain ⟨k2, tt⟩ := He.str_ok X G (fact 75 (x := .str "TIMEOUT" "timeout") rfl)
  obtain ⟨k3, tn⟩ := He.int_ok X G (fact 76 (x := .int "LONGEST_NAME" 8) rfl)
  have T : Txt mg (adr K) := ⟨⟨_, glo 56 rfl, rfl⟩, ⟨_, glo 57 rfl, rfl⟩, ⟨_, glo 58 rfl, rfl⟩, ⟨_, glo 59 rfl, rfl⟩, ⟨_, glo 60 rfl, rfl⟩, ⟨_, glo 54 rfl, rfl⟩, ⟨_, glo 55 rfl, rfl⟩, ⟨_, tl, k1, rfl⟩, ⟨_, tt, k2, rfl⟩, ⟨_, tn, k3, rfl⟩⟩
  have C1 : Cls K (adr K).cr := He.cls_ok (fact 77 (x := .cls "Rule") rfl)
  have C2 : Cls K (adr K).co := He.cls_ok (fact 78 (x := .cls "Role") rfl)
  have n0 : NoAttr K (adr K).cr "fields" := He.noat_ok (fact 79 (x := .noat "Rule" "fields") rfl)
  have n1 : NoAttr K (adr K).co "ends" := He.noat_ok (fact 80 (x := .noat "Role" "ends") rfl)
  have n2 : NoAttr K (adr K).co "table" := He.noat_ok (fact 81 (x := .noat "Role" "table") rfl)
  have n3 : NoAttr K (adr K).co "calm" := He.noat_ok (fact 82 (x := .noat "Role" "calm") rfl)
  have Z : Ks K (adr K) := ⟨inB_ok C1 ei1, inB_ok C2 ei2, tbB_ok (tab 0 rfl), tbB_ok (tab 1 rfl), tbB_ok (tab 2 rfl), tbB_ok (tab 3 rfl), tbB_ok (tab 4 rfl)⟩
  have mk1 := He.mkr_ok (fact 83 (x := .mkr "Rule") rfl)
  have mk2 := He.mkr_ok (fact 84 (x := .mkr "Role") rfl)
  have me1 := He.meth_ok (fact 85 (x := .meth "Rule" "__eq__") rfl)
  have me2 := He.meth_ok (fact 86 (x := .meth "Role" "__eq__") rfl)
  have df : ∀ (i j : Nat) {x : Str} {n : Nat}, fn[i]? = some (gDef x n) → faB[j]? = some (.glo x) → Df K mg x n := fun i j {x} {n} h1 h2 => let ⟨fd, F⟩ := c.def_ i h1; ⟨_, fd, F, glo j h2⟩
  have pf_mode : Pf K (adr K).cr "mode" "Rule.mode" 26 1 := let ⟨fd, F⟩ := c.def_ 55 (d := pDef "Rule" "mode" "Rule.mode" 26 1) rfl; ⟨_, _, fd, prB_ok (prop 0 rfl), F⟩
  have pf_heard : Pf K (adr K).cr "heard" "Rule.heard" 26 2 := let ⟨fd, F⟩ := c.def_ 56 (d := pDef "Rule" "heard" "Rule.heard" 26 2) rfl; ⟨_, _, fd, prB_ok (prop 1 rfl), F⟩
  have pf_which : Pf K (adr K).cr "which" "Rule.which" 26 3 := let ⟨fd, F⟩ := c.def_ 57 (d := pDef "Rule" "which" "Rule.which" 26 3) rfl; ⟨_, _, fd, prB_ok (prop 2 rfl), F⟩
  have pf_then : Pf K (adr K).cr "then" "Rule.then" 26 4 := let ⟨fd, F⟩ := c.def_ 58 (d := pDef "Rule" "then" "Rule.then" 26 4) rfl; ⟨_, _, fd, prB_ok (prop 3 rfl), F⟩
  have pf_move : Pf K (adr K).cr "move" "Rule.move" 26 5 := let ⟨fd, F⟩ := c.def_ 59 (d := pDef "Rule" "move" "Rule.move" 26 5) rfl; ⟨_, _, fd, prB_ok (prop 4 rfl), F⟩
  have pf_send : Pf K (adr K).cr "send" "Rule.send" 26 6 := let ⟨fd, F⟩ := c.def_ 60 (d := pDef "Rule" "send" "Rule.send" 26 6) rfl; ⟨_, _, fd, prB_ok (prop 5 rfl), F⟩
  have pf_side : Pf K (adr K).co "side" "Role.side" 34 1 := let ⟨fd, F⟩ := c.def_ 63 (d := pDef "Role" "side" "Role.side" 34 1) rfl; ⟨_, _, fd, prB_ok (prop 6 rfl), F⟩
  have pf_first : Pf K (adr K).co "first" "Role.first" 34 2 := let ⟨fd, F⟩ := c.def_ 64 (d := pDef "Role" "first" "Role.first" 34 2) rfl; ⟨_, _, fd, prB_ok (prop 7 rfl), F⟩
  have pf_rules : Pf K (adr K).co "rules" "Role.rules" 34 3 := let ⟨fd, F⟩ := c.def_ 65 (d := pDef "Role" "rules" "Role.rules" 34 3) rfl; ⟨_, _, fd, prB_ok (prop 8 rfl), F⟩
  have pf_settled : Pf K (adr K).co "settled" "Role.settled" 34 4 := let ⟨fd, F⟩ := c.def_ 66 (d := pDef "Role" "settled" "Role.settled" 34 4) rfl; ⟨_, _, fd, prB_ok (prop 9 rfl), F⟩
  have md_Rule_init : Mdf K (adr K).cr "__init__" "Rule.__init__" 26 0 ruleD ruleK := let ⟨fd, F⟩ := c.def_ 54 (d := mDef "Rule" "__init__" "Rule.__init__" 26 0 [.str "any"] [("then", .non), ("move", .str "stay"), ("send", .non)]) rfl; ⟨_, fd, F, mk1.init, mk1.fn⟩
  have md_Rule_eq : Mdf K (adr K).cr "__eq__" "Rule.__eq__" 26 7 [] [] := let ⟨fd, F⟩ := c.def_ 61 (d := mDef "Rule" "__eq__" "Rule.__eq__" 26 7 [] []) rfl; ⟨_, fd, F, me1.1, me1.2⟩
  have md_Role_init : Mdf K (adr K).co "__init__" "Role.__init__" 34 0 [.ref (He.dflAt ("Role", some "__init__") 0 K)] [] := let ⟨fd, F⟩ := c.def_ 62 (d := mDef "Role" "__init__" "Role.__init__" 34 0 [.adr (He.dflAt ("Role", some "__init__") 0)] []) rfl; ⟨_, fd, F, mk2.init, mk2.fn⟩
  have md_Role_eq : Mdf K (adr K).co "__eq__" "Role.__eq__" 34 5 [] [] := let ⟨fd, F⟩ := c.def_ 67 (d := mDef "Role" "__eq__" "Role.__eq__" 34 5 [] []) rfl; ⟨_, fd, F, me2.1, me2.2⟩
  obtain ⟨fd, F⟩ := c.def_ 53 (d := gDef "law" 75) rfl
  have e75 := hfa.symm.trans (glo 53 (x := "law") rfl)
  cases e75
  have bd := FunD.bindsA (ps := ["_law_script"]) F fun _ _ _ _ _ _ us hl => match us, hl with | [_], _ => rfl
  refine ⟨fd, fun s v => bd s [v] rfl, fun base _ _ => ?_⟩
  have cis_whole := ok_is_whole (P := P) (w := w) (base := base) (D := adr K) (df 0 0 (x := "is_whole") (n := 4) rfl rfl) B
  have cis_name := ok_is_name (P := P) (w := w) (base := base) (D := adr K) (df 1 1 (x := "is_name") (n := 5) rfl rfl) B T
  have cis_word := ok_is_word (P := P) (w := w) (base := base) (D := adr K) (df 2 2 (x := "is_word") (n := 6) rfl rfl) B
  have g_mode := get_R0 (P := P) (w := w) (mg := mg) (base := base) pf_mode C1 n0
  have g_heard := get_R1 (P := P) (w := w) (mg := mg) (base := base) pf_heard C1 n0
  have g_which := get_R2 (P := P) (w := w) (mg := mg) (base := base) pf_which C1 n0
  have g_then := get_R3 (P := P) (w := w) (mg := mg) (base := base) pf_then C1 n0
  have g_move := get_R4 (P := P) (w := w) (mg := mg) (base := base) pf_move C1 n0
  have g_send := get_R5 (P := P) (w := w) (mg := mg) (base := base) pf_send C1 n0
  have g_side := get_side (P := P) (w := w) (mg := mg) (base := base) pf_side C2 n1
  have g_first := get_first (P := P) (w := w) (mg := mg) (base := base) pf_first C2 n1
  have g_rules := get_rules (P := P) (w := w) (mg := mg) (base := base) pf_rules B C2 n2
  have g_settled := get_settled (P := P) (w := w) (mg := mg) (base := base) pf_settled B C2 n3
  have R : RuleC P w K mg base (adr K).cr := ⟨C1, g_mode, g_heard, g_which, g_then, g_move, g_send⟩
  have O : RoleC P w K mg base (adr K).co := ⟨C2, g_side, g_first, g_rules, g_settled⟩
  have cis_for := ok_is_for (P := P) (w := w) (base := base) (D := adr K) (df 3 3 (x := "is_for") (n := 8) rfl rfl) T R
  have cmode_after := ok_mode_after (P := P) (w := w) (base := base) (D := adr K) (df 4 4 (x := "mode_after") (n := 9) rfl rfl) R
  have ccaller_fits := ok_caller_fits (P := P) (w := w) (base := base) (D := adr K) (df 5 5 (x := "caller_fits") (n := 10) rfl rfl) R
  have chost_fits := ok_host_fits (P := P) (w := w) (base := base) (D := adr K) (df 7 7 (x := "host_fits") (n := 13) rfl rfl) R
  have ccaller_acted := ok_caller_acted (P := P) (w := w) (base := base) (D := adr K) (df 6 6 (x := "caller_acted") (n := 11) rfl rfl) R O cis_for ccaller_fits cmode_after
  have chost_acted := ok_host_acted (P := P) (w := w) (base := base) (D := adr K) (df 8 8 (x := "host_acted") (n := 14) rfl rfl) T R O cis_for chost_fits cmode_after
  have cacted := ok_acted (P := P) (w := w) (base := base) (D := adr K) (df 19 19 (x := "acted") (n := 40) rfl rfl) T O ccaller_acted chost_acted
  have cshown := ok_shown (P := P) (w := w) (base := base) (D := adr K) (df 20 20 (x := "shown") (n := 41) rfl rfl) T O cacted
  have cbeginning := ok_beginning (P := P) (w := w) (base := base) (D := adr K) (df 21 21 (x := "beginning") (n := 42) rfl rfl) O
  have care_parted := ok_are_parted (P := P) (w := w) (base := base) (D := adr K) (df 22 22 (x := "are_parted") (n := 43) rfl rfl) cshown
  have cnames_of := ok_names_of (P := P) (w := w) (base := base) (D := adr K) (df 23 23 (x := "names_of") (n := 44) rfl rfl) B T R O
  have chost_messages := ok_host_messages (P := P) (w := w) (base := base) (D := adr K) (df 24 24 (x := "host_messages") (n := 45) rfl rfl) B
  have ccopied := ok_copied (P := P) (w := w) (base := base) (D := adr K) (df 25 25 (x := "copied") (n := 46) rfl rfl) B T
  have cpart_hosts := ok_part_hosts (P := P) (w := w) (base := base) (D := adr K) (df 26 26 (x := "part_hosts") (n := 47) rfl rfl) B T O chost_messages cnames_of cacted care_parted ccopied
  have cwindow := ok_window (P := P) (w := w) (base := base) (D := adr K) (df 27 27 (x := "window") (n := 48) rfl rfl) B
  have ccaller_stimuli := ok_caller_stimuli (P := P) (w := w) (base := base) (D := adr K) (df 28 28 (x := "caller_stimuli") (n := 49) rfl rfl) T cwindow
  have clows_after := ok_lows_after (P := P) (w := w) (base := base) (D := adr K) (df 29 29 (x := "lows_after") (n := 50) rfl rfl) B
  have cstep_of := ok_step_of (P := P) (w := w) (base := base) (D := adr K) (df 32 32 (x := "step_of") (n := 53) rfl rfl) T
  have cstep_callers := ok_step_callers (P := P) (w := w) (base := base) (D := adr K) (df 31 31 (x := "step_callers") (n := 52) rfl rfl) cwindow cacted
  have cdiffer_at := ok_differ_at (P := P) (w := w) (base := base) (D := adr K) (df 33 33 (x := "differ_at") (n := 54) rfl rfl) cwindow cshown
  have care_unlike := ok_are_unlike (P := P) (w := w) (base := base) (D := adr K) (df 34 34 (x := "are_unlike") (n := 55) rfl rfl) O
  have ctold_by := ok_told_by (P := P) (w := w) (base := base) (D := adr K) (df 30 30 (x := "told_by") (n := 51) rfl rfl) B T
  have cpart_callers := ok_part_callers (P := P) (w := w) (base := base) (D := adr K) (df 35 35 (x := "part_callers") (n := 56) rfl rfl) B O cnames_of cdiffer_at ctold_by ccaller_stimuli cstep_callers care_unlike cstep_of clows_after
  have ccheck_role := ok_check_role (P := P) (w := w) (base := base) (D := adr K) (df 17 17 (x := "check_role") (n := 36) rfl rfl) B T Z
  have cis_role := ok_is_role (P := P) (w := w) (base := base) (D := adr K) (df 16 16 (x := "is_role") (n := 35) rfl rfl) B T Z O
  have ccheck_roles := ok_check_roles (P := P) (w := w) (base := base) (D := adr K) (df 36 36 (x := "check_roles") (n := 57) rfl rfl) O ccheck_role cis_role
  have cpart := ok_part (P := P) (w := w) (base := base) (D := adr K) (df 37 37 (x := "part") (n := 58) rfl rfl) O ccheck_roles cpart_callers cpart_hosts
  have cis_choices := ok_is_choices (P := P) (w := w) (base := base) (D := adr K) (df 18 18 (x := "is_choices") (n := 38) rfl rfl) B cis_whole
  have cis_stimulus := ok_is_stimulus (P := P) (w := w) (base := base) (D := adr K) (df 38 38 (x := "is_stimulus") (n := 59) rfl rfl) B T cis_name cis_whole cis_choices
  have cis_claim := ok_is_claim (P := P) (w := w) (base := base) (D := adr K) (df 39 39 (x := "is_claim") (n := 60) rfl rfl) B cis_choices cis_stimulus
  have ccheck_part := ok_check_part (P := P) (w := w) (base := base) (D := adr K) (df 40 40 (x := "check_part") (n := 61) rfl rfl) B T O ccheck_roles cis_claim cbeginning cshown cacted
  have cis_name_or_none := ok_is_name_or_none (P := P) (w := w) (base := base) (D := adr K) (df 9 9 (x := "is_name_or_none") (n := 24) rfl rfl) cis_name
  have care_fields := ok_are_fields (P := P) (w := w) (base := base) (D := adr K) (df 10 10 (x := "are_fields") (n := 25) rfl rfl) T Z cis_name_or_none cis_word
  have h_Rule_init := ok_Rule_init (P := P) (w := w) (mg := mg) (base := base) md_Rule_init C1 n0 care_fields
  have MR : RuleMk P w K mg base (adr K) := mk_rule h_Rule_init mk1.makes mk1.kp
  have cfits_caller := ok_fits_caller (P := P) (w := w) (base := base) (D := adr K) (df 11 11 (x := "fits_caller") (n := 27) rfl rfl) T Z R
  have cfits_host := ok_fits_host (P := P) (w := w) (base := base) (D := adr K) (df 12 12 (x := "fits_host") (n := 28) rfl rfl) T Z R
  have cfits_side := ok_fits_side (P := P) (w := w) (base := base) (D := adr K) (df 13 13 (x := "fits_side") (n := 29) rfl rfl) T R cfits_caller cfits_host
  have care_settled := ok_are_settled (P := P) (w := w) (base := base) (D := adr K) (df 14 14 (x := "are_settled") (n := 32) rfl rfl) B cis_name
  have care_parts := ok_are_parts (P := P) (w := w) (base := base) (D := adr K) (df 15 15 (x := "are_parts") (n := 33) rfl rfl) B T Z cis_word cis_name cfits_side care_settled
  have h_Rule_eq := ok_Rule_eq (P := P) (w := w) (mg := mg) (base := base) md_Rule_eq C1 n0 B T Z
  have ER := h_Rule_eq
  have h_Role_eq := ok_Role_eq (P := P) (w := w) (mg := mg) (base := base) md_Role_eq C2 n1 n2 n3 B T Z ER
  have EO : EqOk P w K mg base 4 (adr K).co (RoleSame (adr K)) ∧ InC K (adr K).co ∧ PySem.W.findIn K (.ref (adr K).co) "__ne__" = some (some (.builtin "object.__ne__")) := ⟨h_Role_eq, Z.ro, He.eqO_ok en⟩
  have h_Role_init := ok_Role_init (P := P) (w := w) (mg := mg) (base := base) md_Role_init C2 n1 n2 n3 B care_parts
  have MO : RoleMk P w K mg base (adr K) := mk_role h_Role_init mk2.makes mk2.kp
  have c_law_purse := ok_law_purse (P := P) (w := w) (base := base) (D := adr K) (df 41 41 (x := "_law_purse") (n := 63) rfl rfl) B
  have c_law_draw := ok_law_draw (P := P) (w := w) (base := base) (D := adr K) (df 42 42 (x := "_law_draw") (n := 64) rfl rfl) B
  have c_law_pick := ok_law_pick (P := P) (w := w) (base := base) (D := adr K) (df 43 43 (x := "_law_pick") (n := 65) rfl rfl) B c_law_draw
  have c_law_names := ok_law_names (P := P) (w := w) (base := base) (D := adr K) (df 44 44 (x := "_law_names") (n := 66) rfl rfl) B c_law_draw c_law_pick
  have c_law_rule := ok_law_rule (P := P) (w := w) (base := base) (D := adr K) (df 45 45 (x := "_law_rule") (n := 67) rfl rfl) T Z MR
  have c_law_role := ok_law_role (P := P) (w := w) (base := base) (D := adr K) (df 46 46 (x := "_law_role") (n := 68) rfl rfl) B T Z MO c_law_rule
  have c_law_ring := ok_law_ring (P := P) (w := w) (base := base) (D := adr K) (df 50 50 (x := "_law_ring") (n := 72) rfl rfl) B
  have c_law_whole := ok_law_whole (P := P) (w := w) (base := base) (D := adr K) (df 47 47 (x := "_law_whole") (n := 69) rfl rfl) B
  have c_law_is_list := ok_law_is_list (P := P) (w := w) (base := base) (D := adr K) (df 48 48 (x := "_law_is_list") (n := 70) rfl rfl) B c_law_whole
  have c_law_stimuli_right := ok_law_stimuli_right (P := P) (w := w) (base := base) (D := adr K) (df 51 51 (x := "_law_stimuli_right") (n := 73) rfl rfl) B c_law_is_list c_law_whole
  have c_law_same_role := ok_law_same_role (P := P) (w := w) (base := base) (D := adr K) (df 49 49 (x := "_law_same_role") (n := 71) rfl rfl) B R O EO c_law_role
  have c_law_parted_right := ok_law_parted_right (P := P) (w := w) (base := base) (D := adr K) (df 52 52 (x := "_law_parted_right") (n := 74) rfl rfl) B c_law_role cpart c_law_stimuli_right ccheck_part c_law_same_role
  exact fn_law (P := P) (w := w) (mg := mg) (base := base) (D := adr K) F B c_law_purse c_law_draw c_law_names c_law_ring c_law_parted_right cpart c_law_role
end K67
open PySem PySem.W PySem.Calls PyProof.Rows
theorem PySem.Challenge.cw_everypair_k67_whole_rings_parted_holds : PySem.Challenge.rw_everypair_k67_whole_rings_parted.Holds := by
  w_on; o_law
  refine HandSHeadRun.head_any (r := K67.Rw) (q := view K67.Rw.prog [75]) (H := K67.hk) (ob := K67.ob) (M := 6000) (loose := K67.loose) (d := HandSHeadRun.topDef K67.Rw.prog 75) (kwd := []) K67.ob_eq
    (by kernel_rfl) (fun s => by kernel_rfl) K67.run (by kernel_rfl) (by kernel_rfl) (by kernel_rfl) (by rfl) (by first | assumption | decide +kernel) (by decide +kernel) ⟨rfl, rfl, rfl, rfl, rfl, by decide +kernel⟩ ?hw ?hc
  case hw => w_witness2
  case hc =>
    refine L2.walk_ofE (l := PySem.Challenge.rw_everypair_k67_whole_rings_parted) (n := 63) (k := 11) (x := "_law_script") (CX := L2.CX0) rfl (by decide) (by kernel_rfl) ⟨rfl, by decide, by decide⟩ ?F (fun _ _ _ _ z => z)
    intro w mg fa h Y G hmg0
    obtain ⟨K, KX, c, e⟩ := Y
    have hmg : mg ("law" : PySem.Str) = some (.ref fa) := by
      have e : (HandSHeadRun.topDef K67.Rw.prog 75).name = ("law" : PySem.Str) := by kernel_rfl
      rw [← e]
      exact hmg0
    obtain ⟨fd, hb, hF⟩ := K67.facts (P := (PySem.Challenge.rw_everypair_k67_whole_rings_parted).prog) (w := w) KX G hmg c e
    exact ⟨K, fd, K67.sp_law K (K67.adr K), KX, hb, fun H a ns hl _ hS => ⟨_, rfl, a, ns, rfl, hS, fun _ => rfl⟩, hF⟩
