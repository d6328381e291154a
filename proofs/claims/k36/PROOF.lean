import PyProof.Rows.All
import Wide.All
import OpenK.AllK
import Wide.FinOn
import HandS.ForMost
import HandS.IsInst
import HandS.Style
import HandS.Wide
import HandS.Evl
import HandS.Zip
import HandS.SortKw
import HandS.Conv
import HandS.TupLe
import HandS.RaiseMore
import HandS.Dict
import HandS.Defaults
import HandS.SetFor
import HandS.Strs
import HandS.Property
import HandS.DictComp
import HandS.ListItems
import HandS.DictTup
import HandS.SortRule
import KE.KCallOwn
import PyProof.InstEq
import HandS.More
import PySem.Challenge.RW_breadcrumbs_k36_effects_of_few_pages_lis
set_option Elab.async false
set_option linter.all false
set_option maxRecDepth 100000
set_option maxHeartbeats 4000000
namespace BC
open PySem PySem.Spec PyProof.Rows L2
section
variable {X : Cx}
/-- a power of a number of any size that matters here -/
def CPowX (i j : Int) : Prop := 0 ≤ j ∧ j ≤ 1000 ∧ i.natAbs.log2 < 100000
theorem op_powX : OpR X (binaryOp .Pow) (rI CPowX fun i j => .int (i ^ j.toNat)) := opI fun i j _ _ _ _ _ hc q => by
  obtain ⟨h0, h1, h2⟩ := hc
  refine pow_int h0 ?_ q
  have hb : Builtin.Int.intBits i ≤ 100000 := by
    unfold Builtin.Int.intBits
    split <;> omega
  have h3 : (Builtin.Int.intBits i : Int) * j ≤ 100000 * j := Int.mul_le_mul_of_nonneg_right (by omega) h0
  omega
/-- a product: one factor small, or both of bounded size -/
def CMulX (i j : Int) : Prop := CMul i j ∨ CMulW i j
theorem op_mulX : OpR X (binaryOp .Mult) (rI CMulX fun i j => .int (i * j)) := opI fun _ _ _ _ _ _ _ hc q => by
  rcases hc with hc | hc
  · exact mul_int q hc.ok
  · exact mul_int q hc.ok
theorem op_fdivX : OpR X (binaryOp .FloorDiv) (rI CDivW fun i j => .int (i / j)) := op_fdivW
theorem op_modX : OpR X (binaryOp .Mod) (rI (fun _ j => 0 < j) fun i j => .int (i % j)) := opI fun i j _ _ _ _ _ hc q => by
  refine mod_int' (show j ≠ 0 by omega) ?_
  rw [Int.fmod_eq_emod_of_nonneg i (by omega)]
  exact q
def ipC (C : Int → Int → Prop) (f : Int → Int → Int) : TIp := fun x y H Q => ∃ i j, x = .int i ∧ y = .int j ∧ C i j ∧ Q (.int (f i j)) H
theorem ip_mulX : PIp X .Mult (ipC CMulX fun i j => i * j) := by
  intro pins s σ H x y v u Q I r1 r2 h
  obtain ⟨i, j, rfl, rfl, hc, q⟩ := h
  obtain ⟨t, rfl⟩ := r1
  obtain ⟨t', rfl⟩ := r2
  have ok : IntMulOk i j := by
    rcases hc with hc | hc
    · exact hc.ok
    · exact hc.ok
  exact imul_int ⟨.int (i * j), H, I.tok _, ⟨_, rfl⟩, q⟩ ok
end
end BC

/-! ### readings opened one construct at a time: full applications alone, so that what stands in a loop is left closed -/
namespace BC
open PySem PySem.Spec PyProof.Rows L2
section
variable {K : PySem.W.Frag} {σ : L2.St} {H : Hp} {Q : VK} {QT : Bool → Hp → Prop} {QA : List V → Hp → Prop} {D : Ends} {ta tb tc : TE} {t u : TT} {a : TA} {r r' : R2} {i j : Nat} {v x y : V} {s1 s2 : TS} {g : TG} {QG : L2.St → Hp → Prop}
def LoopG (J : It) (g : TG) (tb : TS) : TS := fun D σ H => ∃ W : Nat → Nat → L2.St → Hp → Prop, (∃ m, W 0 m σ H) ∧ ∀ i m σ H, W i m σ H →
  (J.stop i H ∧ D.nx σ H) ∨ (J.go i H ∧ ∃ N : L2.St → Hp → Prop, (∀ σ' H', N σ' H' → ∃ m', m' < m ∧ W (i + 1) m' σ' H') ∧ ∀ x H', J.yld i H x H' → g x σ H' fun σ2 H2 => tb { D with nx := N, ct := N, bk := D.nx } σ2 H2)
def LcG (J : It) (g : TG) (tt : TT) (te : TE) (vs : List Nat) (σ : L2.St) (Dl : Addr) (H1 : Hp) (Q : VK) : Prop := ∃ W : Nat → Nat → Hp → Prop, (∃ m, W 0 m (upd H1 Dl (.lst []))) ∧ ∀ i m H, W i m H →
  (J.stop i H ∧ Q (.ref Dl) H) ∨ (J.go i H ∧ ∃ Nx : Hp → Prop, (∀ H', Nx H' → ∃ m', m' < m ∧ W (i + 1) m' H') ∧ ∀ x H', J.yld i H x H' → g x (wipe σ vs) H' fun σ2 H2 => wipe σ2 vs = wipe σ vs ∧ tt σ2 H2 fun b H3 =>
    if b = true then te σ2 H3 fun y H4 => ∃ acc, H4 Dl = some (.lst acc) ∧ acc.length < sizeLine ∧ Nx (upd H4 Dl (.lst (acc ++ [y]))) else Nx H3)
theorem x_seq : tSeq s1 s2 D σ H = s1 { D with nx := s2 D } σ H := rfl
theorem x_next : tNext D σ H = D.nx σ H := rfl
theorem x_brk : tBreak D σ H = D.bk σ H := rfl
theorem x_cnt : tCont D σ H = D.ct σ H := rfl
theorem x_nev : tNever D σ H = False := rfl
theorem x_ret : tRet ta D σ H = ta σ H D.rt := rfl
theorem x_retN : tRetN D σ H = D.rt .non H := rfl
theorem x_drop : tDrop ta D σ H = ta σ H (fun _ H1 => D.nx σ H1) := rfl
theorem x_ifS : tIfS t s1 s2 D σ H = t σ H (fun b H1 => if b = true then s1 D σ H1 else s2 D σ H1) := rfl
theorem x_asg : tAsg ta g D σ H = ta σ H (fun x H1 => g x σ H1 D.nx) := rfl
theorem x_gn : gName i v σ H QG = QG (σ.set i (some v)) H := rfl
theorem x_gsub {o ix : TE} {st : TSet} : gSub o ix st v σ H QG = o σ H (fun o H1 => ix σ H1 fun i H2 => st o i v H2 fun H3 => QG σ H3) := rfl
theorem x_par : tPar i j a D σ H = a σ H (fun vs H1 => ∃ v w, vs = [v, w] ∧ D.nx ((σ.set i (some v)).set j (some w)) H1) := rfl
theorem x_par3 {l : Nat} : tPar3 i j l a D σ H = a σ H (fun vs H1 => ∃ u v w, vs = [u, v, w] ∧ D.nx (((σ.set i (some u)).set j (some v)).set l (some w)) H1) := rfl
theorem x_aug {ti : TIp} : tAug i ta ti D σ H = ∃ x, σ[i]? = some (some x) ∧ ta σ H fun y H1 => ti x y H1 fun z H2 => D.nx (σ.set i (some z)) H2 := rfl
theorem x_for {wi : TI} : tFor wi g s1 D σ H = wi σ H (fun J H1 => LoopG J g s1 D σ H1) := rfl
theorem x_lc {wi : TI} {vs : List Nat} : tLc wi g t ta vs σ H Q = wi σ H (fun J H1 => ∀ Dl, H1 Dl = none → LcG J g t ta vs σ Dl H1 Q) := rfl
theorem x_rng1 {R : It → Hp → Prop} : iRng1 a σ H R = a σ H (fun vs H1 => ∃ j : Int, vs = [.int j] ∧ -(2 ^ 62) ≤ j ∧ j < 2 ^ 62 ∧ R (Itr 0 j.toNat) H1) := rfl
theorem x_rng2 {R : It → Hp → Prop} : iRng2 a σ H R = a σ H (fun vs H1 => ∃ i j : Int, vs = [.int i, .int j] ∧ (-(2 ^ 62) ≤ i ∧ i < 2 ^ 62 ∧ -(2 ^ 62) ≤ j ∧ j < 2 ^ 62) ∧ R (Itr i (j - i).toNat) H1) := rfl
theorem x_rng3 {R : It → Hp → Prop} : iRng3 a σ H R = a σ H (fun vs H1 => ∃ (i j c : Int) (n : Nat), vs = [.int i, .int j, .int c] ∧ RgC i j c n ∧ R (Itc i c n) H1) := rfl
theorem x_ilist {R : It → Hp → Prop} : iList K ta σ H R = ta σ H (fun x H1 => ∃ a, x = .ref a ∧ (∃ xs, SqL K H1 a xs) ∧ R (Itl K a) H1) := rfl
theorem x_itup {R : It → Hp → Prop} : iTup K ta σ H R = ta σ H (fun x H1 => ∃ a, x = .ref a ∧ (∃ xs, SqT K H1 a xs) ∧ R (Itt K a) H1) := rfl
theorem x_ienum {R : It → Hp → Prop} : iEnum K a σ H R = a σ H (fun vs H1 => ∃ a xs, vs = [.ref a] ∧ SqL K H1 a xs ∧ R (Ite K a) H1) := rfl
theorem x_izip {R : It → Hp → Prop} : iZip K a σ H R = a σ H (fun vs H1 => ∃ a b xs ys, vs = [.ref a, .ref b] ∧ SqL K H1 a xs ∧ SqL K H1 b ys ∧ R (Itz K a b) H1) := rfl
theorem x_istr {R : It → Hp → Prop} : iStr ta σ H R = ta σ H (fun v H1 => ∃ x, v = .str x ∧ R (Its x) H1) := rfl
theorem x_var : tVar i σ H Q = ∃ v, σ[i]? = some (some v) ∧ Q v H := rfl
theorem x_c : tC v σ H Q = Q v H := rfl
theorem x_op : tOp r ta tb σ H Q = ta σ H (fun x H1 => tb σ H1 fun y H2 => r x y H2 Q) := rfl
theorem x_un {ru : V → Hp → VK → Prop} : tUn ru ta σ H Q = ta σ H (fun x H1 => ru x H1 Q) := rfl
theorem x_test : tTest ta σ H QT = ta σ H (fun x H' => ∃ k, x = .bl k ∧ QT k H') := rfl
theorem x_b : tB ta σ H QT = ta σ H (fun x H' => ∃ k, x = .bl k ∧ QT k H') := rfl
theorem x_chain : tChain r r' ta tb tc σ H Q = ta σ H (fun x H1 => tb σ H1 fun y H2 => r x y H2 fun z H3 => ∃ k, z = .bl k ∧ (if k = true then tc σ H3 fun w' H4 => r' y w' H4 Q else Q (.bl false) H3)) := rfl
theorem x_and : tAnd t u σ H QT = t σ H (fun c H1 => if c = true then u σ H1 QT else QT false H1) := rfl
theorem x_or : tOr t u σ H QT = t σ H (fun c H1 => if c = true then QT true H1 else u σ H1 QT) := rfl
theorem x_not : tNot t σ H QT = t σ H (fun c H1 => QT (!c) H1) := rfl
theorem x_andV : tAndV ta tb σ H Q = ta σ H (fun x H1 => ∃ c, x = .bl c ∧ if c = true then tb σ H1 Q else Q (.bl false) H1) := rfl
theorem x_orV : tOrV ta tb σ H Q = ta σ H (fun x H1 => ∃ c, x = .bl c ∧ if c = true then Q (.bl true) H1 else tb σ H1 Q) := rfl
theorem x_notV : tNotV ta σ H Q = ta σ H (fun x H1 => ∃ c, x = .bl c ∧ Q (.bl (!c)) H1) := rfl
theorem x_ife : tIf t ta tb σ H Q = t σ H (fun c H1 => if c = true then ta σ H1 Q else tb σ H1 Q) := rfl
theorem x_nil : tNil σ H QA = QA [] H := rfl
theorem x_cons {rest : TA} : tCons ta rest σ H QA = ta σ H (fun x H1 => rest σ H1 fun xs H2 => QA (x :: xs) H2) := rfl
theorem x_lst : tLst a σ H Q = a σ H (fun xs H1 => xs.length ≤ sizeLine ∧ ∀ p, H1 p = none → Q (.ref p) (upd H1 p (.lst xs))) := rfl
theorem x_tup : tTup a σ H Q = a σ H (fun xs H1 => xs.length ≤ sizeLine ∧ ∀ p, H1 p = none → Q (.ref p) (upd H1 p (.tup xs))) := rfl
theorem x_cb {rc : List V → Hp → VK → Prop} : tCB rc a σ H Q = a σ H (fun vs H1 => rc vs H1 Q) := rfl
theorem x_call {sp : Sp} {dvs : List V} {E : XK} : tCall sp dvs E a σ H Q = a σ H (fun vs H1 => sp (vs ++ dvs) H1 Q E) := rfl
theorem x_callK {sp : Sp} {gV : List V → List V → List V} {E : XK} {b : TA} : tCallK sp gV E a b σ H Q = a σ H (fun vs H1 => b σ H1 fun zs H2 => sp (gV vs zs) H2 Q E) := rfl
theorem x_bm {T : String} {rm : V → List V → Hp → VK → Prop} : tBM K T rm ta a σ H Q = ta σ H (fun x H1 => tyV K T x H1 ∧ a σ H1 fun xs H2 => rm x xs H2 Q) := rfl
theorem x_bm0 {T : String} {rm : V → List V → Hp → VK → Prop} : tBM0 K T rm ta σ H Q = ta σ H (fun x H1 => tyV K T x H1 ∧ rm x [] H1 Q) := rfl
theorem x_sl {rs : V → Option Int → Option Int → Hp → VK → Prop} {tl th : TO} : tSl rs ta tl th σ H Q = ta σ H (fun x H1 => tl σ H1 fun l H2 => th σ H2 fun u H3 => rs x l u H3 Q) := rfl
theorem x_nopart {QO : Option Int → Hp → Prop} : tNoPart σ H QO = QO none H := rfl
theorem x_part {QO : Option Int → Hp → Prop} : tPart ta σ H QO = ta σ H (fun x H1 => ∃ i, x = .int i ∧ QO (some i) H1) := rfl
theorem x_revL : tRevL K ta σ H Q = ta σ H (fun x H1 => ∃ a xs, x = .ref a ∧ SqL K H1 a xs ∧ ∀ p, H1 p = none → Q (.ref p) (upd H1 p (.lst xs.reverse))) := rfl
theorem x_I0 {f : Int → Int → V} {m n : Int} : rI0 f (.int m) (.int n) H Q ↔ Q (f m n) H := ⟨fun ⟨i, j, e1, e2, q⟩ => by cases e1; cases e2; exact q, fun q => ⟨m, n, rfl, rfl, q⟩⟩
theorem x_I {C : Int → Int → Prop} {f : Int → Int → V} {m n : Int} : rI C f (.int m) (.int n) H Q ↔ C m n ∧ Q (f m n) H := ⟨fun ⟨i, j, e1, e2, q⟩ => by cases e1; cases e2; exact q, fun q => ⟨m, n, rfl, rfl, q⟩⟩
theorem x_U {f : Int → V} {m : Int} : rU f (.int m) H Q ↔ Q (f m) H := ⟨fun ⟨i, e1, q⟩ => by cases e1; exact q, fun q => ⟨m, rfl, q⟩⟩
theorem x_ip {f : Int → Int → Int} {m n : Int} : ipI f (.int m) (.int n) H Q ↔ Q (.int (f m n)) H := ⟨fun ⟨i, j, e1, e2, q⟩ => by cases e1; cases e2; exact q, fun q => ⟨m, n, rfl, rfl, q⟩⟩
theorem x_ipC {C : Int → Int → Prop} {f : Int → Int → Int} {m n : Int} : ipC C f (.int m) (.int n) H Q ↔ C m n ∧ Q (.int (f m n)) H := ⟨fun ⟨i, j, e1, e2, q⟩ => by cases e1; cases e2; exact q, fun q => ⟨m, n, rfl, rfl, q⟩⟩
theorem x_eqI {m n : Int} : rEq (.int m) (.int n) H Q ↔ Q (.bl (decide (m = n))) H := by
  unfold rEq
  rw [show scal (V.int m) (V.int n) = true from rfl]
  by_cases e : m = n
  · subst e; simp
  · simp [e]
theorem x_neI {m n : Int} : rNe (.int m) (.int n) H Q ↔ Q (.bl (!decide (m = n))) H := by
  unfold rNe
  rw [show scal (V.int m) (V.int n) = true from rfl]
  by_cases e : m = n
  · subst e; simp
  · simp [e]
end
/-! ### the rules that speak of the written part, by its own name -/
section
variable {X : Cx} {K : PySem.W.Frag}
theorem k_pi_list {tg l : Expr} {tl : TE} (hK : X.K = K) (hl : PE X l tl) : PI X tg l (iList K tl) := by subst hK; exact pi_list hl
theorem k_pi_tup {tg l : Expr} {tl : TE} (hK : X.K = K) (hl : PE X l tl) : PI X tg l (iTup K tl) := by subst hK; exact pi_tup hl
theorem k_pi_enum {e : Expr} {ta : TA} {p pos tpos : Pos} {elts : List Expr} {kk : Nat} (hK : X.K = K) (hg : Gl X "enumerate") (hm : X.mg "enumerate" = none) (ha : PA X [e] ta) (hs : starEach [e] X.env = [(false, eval e X.env)] := by rfl) : PI X (.Tuple elts kk tpos) (.Call (.Name "enumerate" p) [e] [] pos) (iEnum K ta) := by subst hK; exact pi_enum hg hm ha hs
theorem k_pi_zip {e e2 : Expr} {ta : TA} {p pos tpos : Pos} {elts : List Expr} {kk : Nat} (hK : X.K = K) (hg : Gl X "zip") (hm : X.mg "zip" = none) (ha : PA X [e, e2] ta)
    (hs : starEach [e, e2] X.env = (false, eval e X.env) :: starEach [e2] X.env := by rfl) (hpl : (backTo pos (starEach [e2] X.env)).any (·.1) = false := by rfl) : PI X (.Tuple elts kk tpos) (.Call (.Name "zip" p) [e, e2] [] pos) (iZip K ta) := by subst hK; exact pi_zip hg hm ha hs hpl
theorem k_ix_list (hK : X.K = K) : IxR X (rIxL K) := by subst hK; exact ix_list
theorem k_ix_tup (hK : X.K = K) : IxR X (rIxT K) := by subst hK; exact ix_tup
theorem k_sl_list (hK : X.K = K) : SlR X (rSlL K) := by subst hK; exact sl_list
theorem k_in (hK : X.K = K) : OpR X (compareOp .In) (rIn K false) := by subst hK; exact op_in_seq
theorem k_notIn (hK : X.K = K) : OpR X (compareOp .NotIn) (rIn K true) := by subst hK; exact op_notIn_seq
theorem k_eqD (hK : X.K = K) (hu : X.A.units + 64 < cLine) : OpR X (compareOp .Eq) (rEqD K) := by subst hK; exact op_eqD hu
theorem k_neD (hK : X.K = K) (hu : X.A.units + 64 < cLine) : OpR X (compareOp .NotEq) (rNeD K) := by subst hK; exact op_neD hu
def rLen (K : PySem.W.Frag) : List V → Hp → VK → Prop := fun xs H Q => ∃ p ys, xs = [.ref p] ∧ (SqL K H p ys ∨ SqT K H p ys) ∧ Q (.int ys.length) H
def rListOf (K : PySem.W.Frag) : List V → Hp → VK → Prop := fun xs H Q => ∃ p ys, xs = [.ref p] ∧ (SqL K H p ys ∨ SqT K H p ys) ∧ ∀ l, H l = none → Q (.ref l) (upd H l (.lst ys))
def rTupOf (K : PySem.W.Frag) : List V → Hp → VK → Prop := fun xs H Q => ∃ p ys, xs = [.ref p] ∧ ((SqL K H p ys ∧ ∀ l, H l = none → Q (.ref l) (upd H l (.tup ys))) ∨ (SqT K H p ys ∧ Q (.ref p) H))
theorem k_len (hK : X.K = K) : CallR X (.builtin "len") (rLen K) := by subst hK; exact call_len_seq
theorem k_listOf (hK : X.K = K) : CallR X (.type "list") (rListOf K) := by subst hK; exact call_list_of
theorem k_tupOf (hK : X.K = K) : CallR X (.type "tuple") (rTupOf K) := by subst hK; exact call_tuple_of
theorem k_isi (hK : X.K = K) : CallR X (.builtin "isinstance") (rIsi K) := by subst hK; exact call_isi
theorem k_sum (hK : X.K = K) (hc : X.calm = true) : CallR X (.builtin "sum") (rSum K) := by subst hK; exact cr_sum hc
theorem k_all (hK : X.K = K) (hc : X.calm = true) : CallR X (.builtin "all") (rAll K) := by subst hK; exact cr_all hc
theorem k_any (hK : X.K = K) (hc : X.calm = true) : CallR X (.builtin "any") (rAny K) := by subst hK; exact cr_any hc
theorem k_sorted (hK : X.K = K) : CallR X (.builtin "sorted") (rSorted K) := by subst hK; exact cr_sorted
def tTruK (K : PySem.W.Frag) (ta : TE) : TT := fun σ H Q => ta σ H fun x H' => ∃ k, TruV K x H' k ∧ Q k H'
theorem k_truth {a : Expr} {ta : TE} (hK : X.K = K) (ha : PE X a ta) (he : ∀ whole, isTrue a X.env whole = (do let v ← whole; standAt a.pos; holding [v] (truthy v))) : PT X a (tTruK K ta) := by subst hK; exact pt_truth ha he
theorem k_tup {es : List Expr} {k n : Nat} {pos : Pos} {t : TGs} (hK : X.K = K) (hc : X.calm = true) (h : PGs X es t)
    (hn : (assignEach es X.env).length = n := by rfl) (hst : (assignEach es X.env).findIdx? (·.1) = none := by rfl) : PG X (.Tuple es k pos) (gTup K n t) := by subst hK; exact pg_tup hc h hn hst
theorem k_bm0 {T : String} {to : TE} {r : V → List V → Hp → VK → Prop} {e : Expr} (hK : X.K = K) (h : PE X e (tBM0 X.K T r to)) : PE X e (tBM0 K T r to) := by subst hK; exact h
theorem k_bm {T : String} {to : TE} {ta : TA} {r : V → List V → Hp → VK → Prop} {e : Expr} (hK : X.K = K) (h : PE X e (tBM X.K T r to ta)) : PE X e (tBM K T r to ta) := by subst hK; exact h
theorem k_rev {e : Expr} {te : TE} {k : Nat} {p1 p2 p3 pos : Pos} (hK : X.K = K) (he : PE X e te) : PE X (.Subscript e (.Slice none none (some (.UnaryOp .USub (.Constant (.int 1) k p1) p2)) p3) pos) (tRevL K te) := by subst hK; exact pe_revL he
theorem k_index (hK : X.K = K) : MtR X "list.index" (rIndex K) := by subst hK; exact mt_index
end
section
variable {K : PySem.W.Frag} {σ : L2.St} {H : Hp} {ta : TE} {QT : Bool → Hp → Prop}
theorem x_tru : tTruK K ta σ H QT = ta σ H (fun x H' => ∃ k, TruV K x H' k ∧ QT k H') := rfl
end
/-! ### loops -/
section
variable {K : PySem.W.Frag} {σ : L2.St} {H : Hp} {D : Ends} {g : TG} {tb : TS}
theorem lg_rng {lo : Int} {n : Nat} (Pv : Nat → L2.St → Hp → Prop) (h0 : Pv 0 σ H)
    (hs : ∀ i σ H, i < n → Pv i σ H → g (.int (lo + i)) σ H fun σ2 H2 => tb { D with nx := Pv (i + 1), ct := Pv (i + 1), bk := D.nx } σ2 H2) (hd : ∀ σ H, Pv n σ H → D.nx σ H) : LoopG (Itr lo n) g tb D σ H := for_range Pv h0 hs hd
theorem lg_rngC {lo c : Int} {n : Nat} (Pv : Nat → L2.St → Hp → Prop) (h0 : Pv 0 σ H)
    (hs : ∀ i σ H, i < n → Pv i σ H → g (.int (lo + (i : Nat) * c)) σ H fun σ2 H2 => tb { D with nx := Pv (i + 1), ct := Pv (i + 1), bk := D.nx } σ2 H2) (hd : ∀ σ H, Pv n σ H → D.nx σ H) : LoopG (Itc lo c n) g tb D σ H := for_rangeC Pv h0 hs hd
theorem lg_list {a : Addr} {xs : List V} (Pv : Nat → L2.St → Hp → Prop) (h0 : Pv 0 σ H) (hl : ∀ i σ H, i ≤ xs.length → Pv i σ H → SqL K H a xs)
    (hs : ∀ i x σ H, xs[i]? = some x → Pv i σ H → g x σ H fun σ2 H2 => tb { D with nx := Pv (i + 1), ct := Pv (i + 1), bk := D.nx } σ2 H2) (hd : ∀ σ H, Pv xs.length σ H → D.nx σ H) : LoopG (Itl K a) g tb D σ H := for_list Pv h0 hl hs hd
/-- enumerate over a list that stands still: each pair is a new tuple -/
theorem lg_enum {a : Addr} {xs : List V} (Pv : Nat → L2.St → Hp → Prop) (h0 : Pv 0 σ H) (hl : ∀ i σ H, i ≤ xs.length → Pv i σ H → SqL K H a xs)
    (hs : ∀ i x σ H T, xs[i]? = some x → Pv i σ H → H T = none → g (.ref T) σ (upd H T (.tup [.int (i : Nat), x])) fun σ2 H2 => tb { D with nx := Pv (i + 1), ct := Pv (i + 1), bk := D.nx } σ2 H2) (hd : ∀ σ H, Pv xs.length σ H → D.nx σ H) : LoopG (Ite K a) g tb D σ H := by
  refine ⟨fun i m σ H => m = xs.length - i ∧ i ≤ xs.length ∧ Pv i σ H, ⟨xs.length, by simp, Nat.zero_le _, h0⟩, ?_⟩
  rintro i m σ H ⟨rfl, hi, p⟩
  have q := hl i σ H hi p
  by_cases hlt : i < xs.length
  · refine .inr ⟨⟨xs, xs[i], q, by simp [hlt]⟩, Pv (i + 1), fun σ' H' p' => ⟨xs.length - (i + 1), by omega, rfl, hlt, p'⟩, fun x H' y => ?_⟩
    obtain ⟨T, x', rfl, hT, rfl, f⟩ := y
    exact hs i x' σ H T (f xs q) p hT
  · have e : i = xs.length := by omega
    subst e
    exact .inl ⟨⟨xs, q, Nat.le_refl _⟩, hd σ H p⟩
/-- a pair unpacked -/
theorem g_two {i j : Nat} {T : Addr} {x y : V} {QG : L2.St → Hp → Prop} (h : H T = some (.tup [x, y])) (q : QG ((σ.set i (some x)).set j (some y)) H) : gTup K 2 (gCons (gName i) (gCons (gName j) gNil)) (.ref T) σ H QG :=
  ⟨T, [x, y], rfl, .inl (.inl h), rfl, x, [y], rfl, y, [], rfl, rfl, q⟩
end
/-! ### comprehensions over lists whose elements are given by a function of the turn -/
section
variable {K : PySem.W.Frag} {σ : L2.St} {H1 : Hp} {g : TG} {tt : TT} {te : TE} {vs : List Nat} {Dl : Addr} {Q : VK}
theorem lc_g (n : Nat) {J : It} (Pv : Nat → Hp → Prop) (h0 : Pv 0 (upd H1 Dl (.lst []))) (hst : ∀ H, Pv n H → J.stop n H) (hgo : ∀ i H, i < n → Pv i H → J.go i H)
    (hs : ∀ i H x H', i < n → Pv i H → J.yld i H x H' → g x (wipe σ vs) H' fun σ2 H2 => wipe σ2 vs = wipe σ vs ∧ tt σ2 H2 fun b H3 =>
      if b = true then te σ2 H3 fun y H4 => ∃ acc, H4 Dl = some (.lst acc) ∧ acc.length < sizeLine ∧ Pv (i + 1) (upd H4 Dl (.lst (acc ++ [y]))) else Pv (i + 1) H3) (hd : ∀ H, Pv n H → Q (.ref Dl) H) : LcG J g tt te vs σ Dl H1 Q := by
  refine ⟨fun i m H => m = n - i ∧ i ≤ n ∧ Pv i H, ⟨n, by simp, Nat.zero_le _, h0⟩, ?_⟩
  rintro i m H ⟨rfl, hi, p⟩
  by_cases hlt : i < n
  · exact .inr ⟨hgo i H hlt p, Pv (i + 1), fun H' p' => ⟨n - (i + 1), by omega, rfl, hlt, p'⟩, fun x H' y => hs i H x H' hlt p y⟩
  · have e : i = n := by omega
    subst e
    exact .inl ⟨hst H p, hd H p⟩
end
/-! ### comprehensions that change nothing -/
section
variable {K : PySem.W.Frag} {σ : L2.St} {H1 : Hp} {g : TG} {tt : TT} {te : TE} {vs : List Nat} {Dl : Addr} {Q : VK}
def kept (n : Nat) (keep : Nat → Bool) (f : Nat → V) : List V := ((List.range n).filter keep).map f
theorem kept_yes {n : Nat} {k : Nat → Bool} {f : Nat → V} (h : k n = true) : kept (n + 1) k f = kept n k f ++ [f n] := by
  unfold kept
  rw [List.range_succ, List.filter_append, List.map_append]
  simp [h]
theorem kept_no {n : Nat} {k : Nat → Bool} {f : Nat → V} (h : k n = false) : kept (n + 1) k f = kept n k f := by
  unfold kept
  rw [List.range_succ, List.filter_append, List.map_append]
  simp [h]
theorem kept_len (n : Nat) (k : Nat → Bool) (f : Nat → V) : (kept n k f).length ≤ n := by
  unfold kept
  rw [List.length_map]
  exact Nat.le_trans (List.length_filter_le _ _) (by rw [List.length_range]; exact Nat.le_refl _)
theorem kept_all (n : Nat) (f : Nat → V) : kept n (fun _ => true) f = (List.range n).map f := by
  unfold kept
  rw [List.filter_eq_self.mpr (by simp)]
theorem lc_pure {J : It} (n : Nat) (item : Nat → L2.St) (keep : Nat → Bool) (f : Nat → V) (hD : H1 Dl = none) (hn : n ≤ 100000)
    (hst : ∀ H', Evl.Ex H1 H' → J.stop n H') (hgo : ∀ i H', i < n → Evl.Ex H1 H' → J.go i H')
    (hy : ∀ i H' x H'' (QG : L2.St → Hp → Prop), i < n → Evl.Ex H1 H' → J.yld i H' x H'' → (Evl.Ex H' H'' → QG (item i) H'') → g x (wipe σ vs) H'' QG)
    (hw : ∀ i, i < n → wipe (item i) vs = wipe σ vs) (ht : ∀ i, i < n → Evl.EvT tt (item i) H1 (keep i)) (he : ∀ i, i < n → keep i = true → Evl.Ev te (item i) H1 (f i))
    (hd : ∀ H', Evl.Ex H1 H' → H' Dl = some (.lst (kept n keep f)) → Q (.ref Dl) H') : LcG J g tt te vs σ Dl H1 Q := by
  refine lc_g n (fun i H' => Evl.Ex H1 H' ∧ H' Dl = some (.lst (kept i keep f))) ⟨Evl.Ex.new hD, upd_same⟩ (fun H' h => hst H' h.1) (fun i H' hi h => hgo i H' hi h.1) (fun i H' x H'' hi h y => ?_) (fun H' h => hd H' h.1 h.2)
  obtain ⟨e, hl⟩ := h
  refine hy i H' x H'' _ hi e y fun e2 => ⟨hw i hi, ht i hi H'' (e.trans e2) _ fun H3 e3 => ?_⟩
  have hl3 := e3 _ _ (e2 _ _ hl)
  cases hk : keep i with
  | false =>
    show (if false = true then _ else _)
    rw [if_neg Bool.false_ne_true, kept_no hk]
    exact ⟨(e.trans e2).trans e3, hl3⟩
  | true =>
    show (if true = true then _ else _)
    rw [if_pos rfl]
    refine he i hi hk H3 ((e.trans e2).trans e3) _ fun H4 e4 => ⟨_, e4 _ _ hl3, Nat.lt_of_lt_of_le (Nat.lt_of_le_of_lt (kept_len i keep f) hi) (Nat.le_trans hn (by decide)), ?_⟩
    rw [kept_yes hk]
    exact ⟨(((e.trans e2).trans e3).trans e4).mut hD, upd_same⟩
theorem tyes {σ : L2.St} {H : Hp} : Evl.EvT tYes σ H true := fun H1 _ _ q => q H1 (Evl.Ex.refl H1)
theorem lc_enum {a : Addr} {xs : List V} {j k : Nat} (keep : Nat → Bool) (f : Nat → V) (hx : SqL K H1 a xs) (hD : H1 Dl = none) (hn : xs.length ≤ 100000)
    (hw : ∀ u v : V, wipe (((wipe σ vs).set j (some u)).set k (some v)) vs = wipe σ vs)
    (ht : ∀ i x, xs[i]? = some x → Evl.EvT tt (((wipe σ vs).set j (some (.int (i : Nat)))).set k (some x)) H1 (keep i))
    (he : ∀ i x, xs[i]? = some x → keep i = true → Evl.Ev te (((wipe σ vs).set j (some (.int (i : Nat)))).set k (some x)) H1 (f i))
    (hd : ∀ H', Evl.Ex H1 H' → H' Dl = some (.lst (kept xs.length keep f)) → Q (.ref Dl) H') : LcG (Ite K a) (gTup K 2 (gCons (gName j) (gCons (gName k) gNil))) tt te vs σ Dl H1 Q := by
  refine lc_pure xs.length (fun i => ((wipe σ vs).set j (some (.int (i : Nat)))).set k (some (xs.getD i .non))) keep f hD hn (fun H' e => ⟨xs, Evl.ex_l e hx, Nat.le_refl _⟩) (fun i H' hi e => ⟨xs, xs[i], Evl.ex_l e hx, List.getElem?_eq_getElem hi⟩)
    (fun i H' x H'' QG hi e y q => ?_) (fun i hi => hw _ _) (fun i hi => ht i _ (by rw [List.getD_eq_getElem?_getD, List.getElem?_eq_getElem hi]; rfl)) (fun i hi => he i _ (by rw [List.getD_eq_getElem?_getD, List.getElem?_eq_getElem hi]; rfl)) hd
  obtain ⟨T, v, rfl, hT, rfl, hf⟩ := y
  have hv := hf xs (Evl.ex_l e hx)
  have e1 : xs.getD i .non = v := by rw [List.getD_eq_getElem?_getD, hv]; rfl
  refine g_two upd_same ?_
  have q2 := q (Evl.Ex.new hT)
  rw [e1] at q2
  exact q2
theorem lc_list {a : Addr} {xs : List V} {j : Nat} (keep : Nat → Bool) (f : Nat → V) (hx : SqL K H1 a xs) (hD : H1 Dl = none) (hn : xs.length ≤ 100000)
    (hw : ∀ u : V, wipe ((wipe σ vs).set j (some u)) vs = wipe σ vs)
    (ht : ∀ i x, xs[i]? = some x → Evl.EvT tt ((wipe σ vs).set j (some x)) H1 (keep i))
    (he : ∀ i x, xs[i]? = some x → keep i = true → Evl.Ev te ((wipe σ vs).set j (some x)) H1 (f i))
    (hd : ∀ H', Evl.Ex H1 H' → H' Dl = some (.lst (kept xs.length keep f)) → Q (.ref Dl) H') : LcG (Itl K a) (gName j) tt te vs σ Dl H1 Q := by
  refine lc_pure xs.length (fun i => (wipe σ vs).set j (some (xs.getD i .non))) keep f hD hn (fun H' e => ⟨xs, Evl.ex_l e hx, Nat.le_refl _⟩) (fun i H' hi e => ⟨xs, xs[i], Evl.ex_l e hx, List.getElem?_eq_getElem hi⟩)
    (fun i H' x H'' QG hi e y q => ?_) (fun i hi => hw _) (fun i hi => ht i _ (by rw [List.getD_eq_getElem?_getD, List.getElem?_eq_getElem hi]; rfl)) (fun i hi => he i _ (by rw [List.getD_eq_getElem?_getD, List.getElem?_eq_getElem hi]; rfl)) hd
  obtain ⟨rfl, hf⟩ := y
  have hv := hf xs (Evl.ex_l e hx)
  have e1 : xs.getD i .non = x := by rw [List.getD_eq_getElem?_getD, hv]; rfl
  show QG _ _
  rw [← e1]
  exact q (Evl.Ex.refl _)
theorem lc_rng {lo : Int} {n j : Nat} (keep : Nat → Bool) (f : Nat → V) (hD : H1 Dl = none) (hn : n ≤ 100000)
    (hw : ∀ u : V, wipe ((wipe σ vs).set j (some u)) vs = wipe σ vs)
    (ht : ∀ i, i < n → Evl.EvT tt ((wipe σ vs).set j (some (.int (lo + i)))) H1 (keep i))
    (he : ∀ i, i < n → keep i = true → Evl.Ev te ((wipe σ vs).set j (some (.int (lo + i)))) H1 (f i))
    (hd : ∀ H', Evl.Ex H1 H' → H' Dl = some (.lst (kept n keep f)) → Q (.ref Dl) H') : LcG (Itr lo n) (gName j) tt te vs σ Dl H1 Q := by
  refine lc_pure n (fun i => (wipe σ vs).set j (some (.int (lo + i)))) keep f hD hn (fun H' e => Nat.le_refl _) (fun i H' hi e => hi)
    (fun i H' x H'' QG hi e y q => ?_) (fun i hi => hw _) ht he hd
  obtain ⟨rfl, rfl⟩ := y
  exact q (Evl.Ex.refl _)
end
/-! ### operations on values -/
section
variable {K : PySem.W.Frag} {H : Hp} {Q : VK}
theorem isi_int {i : Int} {T : String} {b : Bool} (h : kitB "int" T = some b) (q : Q (.bl b) H) : rIsi K [.int i, .ty T] H Q :=
  ⟨.int i, .ty T, .type "int", .type T, b, rfl, .ty T, .base (.int i), kit_ty h, q⟩
theorem ixL {p : Addr} {xs : List V} {i : Int} {v : V} (h : SqL K H p xs) (hi : atI xs i = some v) (q : Q v H) : rIxL K (.ref p) (.int i) H Q := ⟨p, xs, i, v, rfl, rfl, h, hi, q⟩
theorem setL {p : Addr} {xs : List V} {i : Int} {j : Nat} {v : V} {R : Hp → Prop} (h : H p = some (.lst xs)) (hj : ixN xs.length i = some j) (q : R (upd H p (.lst (xs.set j v)))) : rSetL (.ref p) (.int i) v H R := ⟨p, xs, i, j, rfl, rfl, h, hj, q⟩
theorem repL {p : Addr} {xs : List V} {k : Int} (h : H p = some (.lst xs)) (h1 : -(2 ^ 63) ≤ k) (h2 : k < 2 ^ 63) (hz : xs.length * k.toNat ≤ sizeLine) (q : ∀ l, H l = none → Q (.ref l) (upd H l (.lst (List.replicate k.toNat xs).flatten))) : rRep (.ref p) (.int k) H Q := ⟨p, k, xs, rfl, rfl, h, h1, h2, hz, q⟩
theorem catL {p b : Addr} {xs ys : List V} (h : H p = some (.lst xs)) (hb : H b = some (.lst ys)) (hz : xs.length + ys.length ≤ sizeLine) (q : ∀ l, H l = none → Q (.ref l) (upd H l (.lst (xs ++ ys)))) : rCat (.ref p) (.ref b) H Q := ⟨p, b, xs, ys, rfl, rfl, h, hb, hz, q⟩
theorem sumL {p : Addr} {ns : List Int} (h : SqL K H p (ns.map V.int)) (q : Q (.int ns.sum) H) : rSum K [.ref p] H Q := ⟨p, ns, rfl, h, q⟩
theorem appL {p : Addr} {xs : List V} {y : V} (h : H p = some (.lst xs)) (hz : xs.length < sizeLine) (q : Q .non (upd H p (.lst (xs ++ [y])))) : rAppend (.ref p) [y] H Q := ⟨p, xs, y, rfl, rfl, h, hz, q⟩
theorem tyL {p : Addr} {xs : List V} (h : H p = some (.lst xs)) : tyV K "list" (.ref p) H := Or.inl ⟨rfl, _, Or.inl (Or.inl h)⟩
theorem atI_n {xs : List V} {i : Int} {j : Nat} {v : V} (e : i = (j : Int)) (h : xs[j]? = some v) : atI xs i = some v := by
  subst e
  have hj := (List.getElem?_eq_some_iff.mp h).1
  unfold atI ixN
  rw [if_pos (by omega), if_pos (by omega)]
  exact h
theorem ixN_n {n : Nat} {i : Int} {j : Nat} (e : i = (j : Int)) (h : j < n) : ixN n i = some j := by
  subst e
  unfold ixN
  rw [if_pos (by omega), if_pos (by omega)]
  rfl
theorem sz_ok {n : Nat} (h : n ≤ 100000) : n ≤ sizeLine := Nat.le_trans h (by decide)
theorem sz_lt {n : Nat} (h : n < 100000) : n < sizeLine := Nat.lt_of_lt_of_le h (by decide)
end
end BC

set_option Elab.async false
set_option linter.all false
set_option maxRecDepth 100000
set_option maxHeartbeats 4000000
namespace BC
open PySem PySem.Spec PyProof.Rows L2 Evl RZ
/-! ### all but the object at b stands -/
def Fx (b : Addr) (H H' : Hp) : Prop := ∀ a o, a ≠ b → H a = some o → H' a = some o
theorem Fx.refl (b : Addr) (H : Hp) : Fx b H H := fun _ _ _ h => h
theorem Fx.trans {b : Addr} {H H1 H2 : Hp} (x : Fx b H H1) (y : Fx b H1 H2) : Fx b H H2 := fun a o n h => y a o n (x a o n h)
theorem Fx.of {b : Addr} {H H' : Hp} (e : Ex H H') : Fx b H H' := fun a o _ h => e a o h
theorem Fx.put {b : Addr} {H : Hp} {o : HO} : Fx b H (upd H b o) := fun a u n h => by rw [upd_ne n]; exact h
theorem Fx.ex {b : Addr} {H H' : Hp} (x : Fx b H H') (h : H b = none) : Ex H H' := fun a o e => x a o (ne_of_none e h) e
theorem Fx.l {K : PySem.W.Frag} {b a : Addr} {H H' : Hp} {xs : List V} (x : Fx b H H') (n : a ≠ b) (h : SqL K H a xs) : SqL K H' a xs := by
  rcases h with h | h
  · rcases h with h | ⟨o, h⟩
    · exact .inl (.inl (x a _ n h))
    · exact .inl (.inr ⟨o, x a _ n h⟩)
  · exact .inr h
/-! ### lists -/
theorem cutV_mem {xs : List V} {lo hi : Option Int} {x : V} (h : x ∈ cutV xs lo hi) : x ∈ xs := by
  unfold cutV at h
  exact List.mem_of_mem_drop (List.mem_of_mem_take h)
theorem cutV_len (xs : List V) (lo hi : Option Int) : (cutV xs lo hi).length ≤ xs.length := by
  unfold cutV
  rw [List.length_take, List.length_drop]
  omega
theorem two_at0 {x y r : Int} {n : Nat} (h0 : 0 ≤ r) (h1 : r < 2) (hx0 : 0 ≤ x) (hx1 : x ≤ n) (hy0 : 0 ≤ y) (hy1 : y ≤ n) : ∃ m : Nat, m ≤ n ∧ atI [V.int x, V.int y] r = some (.int m) := by
  by_cases e : r = 0
  · exact ⟨x.toNat, by omega, by rw [Int.toNat_of_nonneg hx0]; exact atI_n (j := 0) e rfl⟩
  · exact ⟨y.toNat, by omega, by rw [Int.toNat_of_nonneg hy0]; exact atI_n (j := 1) (by omega) rfl⟩
theorem two_at {x y r : Int} {n : Nat} (h0 : 0 ≤ r) (h1 : r < 2) (hx0 : 1 ≤ x) (hx1 : x ≤ n) (hy0 : 1 ≤ y) (hy1 : y ≤ n) : ∃ m : Nat, 1 ≤ m ∧ m ≤ n ∧ atI [V.int x, V.int y] r = some (.int m) := by
  by_cases e : r = 0
  · exact ⟨x.toNat, by omega, by omega, by rw [Int.toNat_of_nonneg (by omega)]; exact atI_n (j := 0) e rfl⟩
  · exact ⟨y.toNat, by omega, by omega, by rw [Int.toNat_of_nonneg (by omega)]; exact atI_n (j := 1) (by omega) rfl⟩
/-- a written list read at a drawn place -/
theorem pick {xs : List V} {r : Int} (h0 : 0 ≤ r) (h1 : r < xs.length) : ∃ v, v ∈ xs ∧ atI xs r = some v := by
  have hj : r.toNat < xs.length := by omega
  exact ⟨xs[r.toNat], List.getElem_mem hj, atI_n (j := r.toNat) (by omega) (List.getElem?_eq_getElem hj)⟩
theorem rep_one (n : Nat) (v : V) : (List.replicate n [v]).flatten = List.replicate n v := by
  induction n with
  | zero => rfl
  | succ n ih => rw [List.replicate_succ, List.flatten_cons, ih]; rfl
theorem take_succ {xs : List V} {i : Nat} {v : V} (h : xs[i]? = some v) : xs.take (i + 1) = xs.take i ++ [v] := by
  rw [List.take_add_one, h]
  rfl
theorem log2_small {i : Int} {k : Nat} (hk : 0 < k) (h : i.natAbs < 2 ^ k) : i.natAbs.log2 < k := PySem.Flt.log2_lt_of hk h
/-! ### kinds -/
section
variable {X : Cx} {K : PySem.W.Frag} {H : Hp} {Q : VK}
theorem k_pi_zipA {e e2 : Expr} {ta : TA} {p pos tpos : Pos} {elts : List Expr} {kk : Nat} (hK : X.K = K) (hg : Gl X "zip") (hm : X.mg "zip" = none) (ha : PA X [e, e2] ta)
    (hs : starEach [e, e2] X.env = (false, eval e X.env) :: starEach [e2] X.env := by rfl) (hpl : (backTo pos (starEach [e2] X.env)).any (·.1) = false := by rfl) : PI X (.Tuple elts kk tpos) (.Call (.Name "zip" p) [e, e2] [] pos) (iZipA K ta) := by subst hK; exact pi_zipA hg hm ha hs hpl
theorem k_isiT (hK : X.K = K) : CallR X (.builtin "isinstance") (rIsiT K) := by subst hK; exact call_isiT
theorem tyx_l {a : Addr} {xs : List V} (h : SqL K H a xs) : TyX K H (.ref a) (.type "list") := by
  rcases h with (h | ⟨o, h⟩) | ⟨o, its, n, h, c, _⟩
  · exact .base (.lst h)
  · exact .base (.frz h)
  · exact .kList h c
theorem tyx_t {a : Addr} {xs : List V} (h : SqT K H a xs) : TyX K H (.ref a) (.type "tuple") := by
  rcases h with (h | ⟨o, h⟩) | ⟨o, its, n, h, c, _⟩
  · exact .base (.tup h)
  · exact .fTuple h
  · exact .kTuple h c
def tyn : PyData → String
  | .none => "NoneType"
  | .bool _ => "bool"
  | .int _ => "int"
  | .str _ => "str"
  | .list _ => "list"
  | .tuple _ => "tuple"
  | .dict _ => "dict"
theorem tyx_d {v : V} {d : PyData} (h : Dp K H v d) : TyX K H v (.type (tyn d)) := by
  cases h with
  | non => exact .base .non
  | bl b => exact .base (.bl b)
  | int i => exact .base (.int i)
  | str x => exact .base (.str x)
  | lst h _ => exact tyx_l h
  | tup h _ => exact tyx_t h
theorem isi_x {v : V} {A T : String} {b : Bool} (h : TyX K H v (.type A)) (hk : kitB A T = some b) (q : Q (.bl b) H) : rIsi K [v, .ty T] H Q :=
  ⟨v, .ty T, .type A, .type T, b, rfl, .ty T, h, kit_ty hk, q⟩
theorem kit_two {A B C : String} {b c : Bool} (h1 : kitB A B = some b) (h2 : kitB A C = some c) : PySem.W.kitAny K (.type A) [.type B, .type C] = some (b || c) := by
  refine kitAny_cons (kit_ty h1) (fun e => ?_) (fun e => by rw [e]; rfl)
  subst e
  refine kitAny_cons (kit_ty h2) (fun e => ?_) (fun e => by rw [e]; rfl)
  subst e
  exact kitAny_nil
theorem isiT2 {v : V} {p : Addr} {A B C : String} {b c : Bool} (h : TyX K H v (.type A)) (hp : H p = some (.tup [.ty B, .ty C])) (h1 : kitB A B = some b) (h2 : kitB A C = some c) (q : Q (.bl (b || c)) H) : rIsiT K [v, .ref p] H Q :=
  ⟨v, p, [.ty B, .ty C], .type A, [.type B, .type C], b || c, rfl, hp, .cons (.ty B) (.cons (.ty C) .nil), h, kit_two h1 h2, q⟩
theorem ex_d {H H' : Hp} (e : Ex H H') : ∀ (d : PyData) (v : V), Dp K H v d → Dp K H' v d
  | .none, _, h => by cases h; exact .non
  | .bool _, _, h => by cases h; exact .bl _
  | .int _, _, h => by cases h; exact .int _
  | .str _, _, h => by cases h; exact .str _
  | .dict _, _, h => by cases h
  | .list ds, _, h => by
    cases h with
    | lst h1 h2 => exact .lst (ex_l e h1) (all ds _ h2)
  | .tuple ds, _, h => by
    cases h with
    | tup h1 h2 => exact .tup (ex_t e h1) (all ds _ h2)
where
  all : ∀ (ds : List PyData) (vs : List V), DpAll K H vs ds → DpAll K H' vs ds
  | [], _, h => by cases h; exact .nil
  | d :: ds, _, h => by
    cases h with
    | cons h1 h2 => exact .cons (ex_d e d _ h1) (all ds _ h2)
theorem dp_len : ∀ {vs : List V} {ds : List PyData}, DpAll K H vs ds → vs.length = ds.length
  | _, _, .nil => rfl
  | _, _, .cons _ h => by rw [List.length_cons, List.length_cons, dp_len h]
theorem dp_at : ∀ {vs : List V} {ds : List PyData} {i : Nat} {v : V}, DpAll K H vs ds → vs[i]? = some v → ∃ d, ds[i]? = some d ∧ Dp K H v d
  | _, _, _, _, .nil, e => by simp at e
  | _, _, 0, _, .cons h _, e => by simp at e; subst e; exact ⟨_, rfl, h⟩
  | _, _, i + 1, _, .cons _ h, e => by
    obtain ⟨d, e1, e2⟩ := dp_at (i := i) h (by simpa using e)
    exact ⟨d, by simpa using e1, e2⟩
theorem dp_ints : ∀ ns : List Int, DpAll K H (ns.map V.int) (ns.map PyData.int)
  | [] => .nil
  | n :: ns => .cons (.int n) (dp_ints ns)
/-- data of so many levels, of moderate size -/
inductive Sh : Nat → PyData → Prop
  | non (n : Nat) : Sh n .none
  | bl (n : Nat) (b : Bool) : Sh n (.bool b)
  | int (n : Nat) (i : Int) : Sh n (.int i)
  | str (n : Nat) (x : Str) : Sh n (.str x)
  | lst {n : Nat} {ds : List PyData} (hl : ds.length ≤ 100000) (h : ∀ d ∈ ds, Sh n d) : Sh (n + 1) (.list ds)
  | tup {n : Nat} {ds : List PyData} (hl : ds.length ≤ 100000) (h : ∀ d ∈ ds, Sh n d) : Sh (n + 1) (.tuple ds)
theorem sh_ints (ns : List Int) (h : ns.length ≤ 100000) : Sh 1 (.list (ns.map PyData.int)) := .lst (by rw [List.length_map]; exact h) fun d hd => by
  obtain ⟨n, _, rfl⟩ := List.mem_map.mp hd
  exact .int 0 n
end
/-! ### more readings -/
section
variable {K : PySem.W.Frag} {σ : L2.St} {H H1 : Hp} {g : TG} {tt : TT} {te : TE} {vs : List Nat} {Dl : Addr} {Q : VK}
theorem x_eqB {m n : Bool} : rEq (.bl m) (.bl n) H Q ↔ Q (.bl (decide (m = n))) H := by
  unfold rEq
  rw [show scal (V.bl m) (V.bl n) = true from rfl]
  cases m <;> cases n <;> simp
theorem x_neB {m n : Bool} : rNe (.bl m) (.bl n) H Q ↔ Q (.bl (!decide (m = n))) H := by
  unfold rNe
  rw [show scal (V.bl m) (V.bl n) = true from rfl]
  cases m <;> cases n <;> simp
theorem x_eqS {m n : Str} : rEq (.str m) (.str n) H Q ↔ Q (.bl (decide (m = n))) H := by
  unfold rEq
  rw [show scal (V.str m) (V.str n) = true from rfl]
  by_cases e : m = n
  · subst e; simp
  · simp [e]
theorem x_neS {m n : Str} : rNe (.str m) (.str n) H Q ↔ Q (.bl (!decide (m = n))) H := by
  unfold rNe
  rw [show scal (V.str m) (V.str n) = true from rfl]
  by_cases e : m = n
  · subst e; simp
  · simp [e]
theorem allL {p : Addr} {bs : List Bool} (h : SqL K H p (bs.map V.bl)) (q : Q (.bl (bs.all id)) H) : rAll K [.ref p] H Q := ⟨p, bs, rfl, h, q⟩
theorem anyL {p : Addr} {bs : List Bool} (h : SqL K H p (bs.map V.bl)) (q : Q (.bl (bs.any id)) H) : rAny K [.ref p] H Q := ⟨p, bs, rfl, h, q⟩
theorem lenL {p : Addr} {xs : List V} (h : SqL K H p xs) (q : Q (.int (xs.length : Nat)) H) : rLen K [.ref p] H Q := ⟨p, xs, rfl, .inl h, q⟩
theorem lenT {p : Addr} {xs : List V} (h : SqT K H p xs) (q : Q (.int (xs.length : Nat)) H) : rLen K [.ref p] H Q := ⟨p, xs, rfl, .inr h, q⟩
theorem x_izipA {a : TA} {R : It → Hp → Prop} : iZipA K a σ H R = a σ H (fun vs H1 => ∃ a b xs ys, vs = [.ref a, .ref b] ∧ ((SqL K H1 a xs ∧ SqL K H1 b ys ∧ R (Itz K a b) H1) ∨ (SqT K H1 a xs ∧ SqT K H1 b ys ∧ R (ItzT K a b) H1))) := rfl
theorem eq_same {v : V} (h : scal v v = true) (q : Q (.bl true) H) : rEq v v H Q := ⟨h, by rw [decide_eq_true rfl]; exact q⟩
theorem g_three {i j l : Nat} {T : Addr} {x y z : V} {QG : L2.St → Hp → Prop} (h : H T = some (.tup [x, y, z])) (q : QG (((σ.set i (some x)).set j (some y)).set l (some z)) H) : gTup K 3 (gCons (gName i) (gCons (gName j) (gCons (gName l) gNil))) (.ref T) σ H QG :=
  ⟨T, [x, y, z], rfl, .inl (.inl h), rfl, x, [y, z], rfl, y, [z], rfl, z, [], rfl, rfl, q⟩
theorem lc_zip {a b : Addr} {xs ys : List V} {j k : Nat} (keep : Nat → Bool) (f : Nat → V) (hx : SqL K H1 a xs) (hy : SqL K H1 b ys) (he0 : xs.length = ys.length) (hD : H1 Dl = none) (hn : xs.length ≤ 100000)
    (hw : ∀ u v : V, wipe (((wipe σ vs).set j (some u)).set k (some v)) vs = wipe σ vs)
    (ht : ∀ i x y, xs[i]? = some x → ys[i]? = some y → Evl.EvT tt (((wipe σ vs).set j (some x)).set k (some y)) H1 (keep i))
    (he : ∀ i x y, xs[i]? = some x → ys[i]? = some y → keep i = true → Evl.Ev te (((wipe σ vs).set j (some x)).set k (some y)) H1 (f i))
    (hd : ∀ H', Evl.Ex H1 H' → H' Dl = some (.lst (kept xs.length keep f)) → Q (.ref Dl) H') : LcG (Itz K a b) (gTup K 2 (gCons (gName j) (gCons (gName k) gNil))) tt te vs σ Dl H1 Q := by
  have gx : ∀ i, i < xs.length → xs[i]? = some (xs.getD i .non) := fun i hi => by rw [List.getD_eq_getElem?_getD, List.getElem?_eq_getElem hi]; rfl
  have gy : ∀ i, i < xs.length → ys[i]? = some (ys.getD i .non) := fun i hi => by rw [List.getD_eq_getElem?_getD, List.getElem?_eq_getElem (by omega)]; rfl
  refine lc_pure xs.length (fun i => ((wipe σ vs).set j (some (xs.getD i .non))).set k (some (ys.getD i .non))) keep f hD hn (fun H' e => ⟨xs, ys, Evl.ex_l e hx, Evl.ex_l e hy, .inl (Nat.le_refl _)⟩)
    (fun i H' hi e => ⟨xs, ys, _, _, Evl.ex_l e hx, Evl.ex_l e hy, gx i hi, gy i hi⟩)
    (fun i H' x H'' QG hi e y q => ?_) (fun i hi => hw _ _) (fun i hi => ht i _ _ (gx i hi) (gy i hi)) (fun i hi => he i _ _ (gx i hi) (gy i hi)) hd
  obtain ⟨T, u, v, rfl, hT, rfl, hf, hf2⟩ := y
  have hu := hf xs (Evl.ex_l e hx)
  have hv := hf2 ys (Evl.ex_l e hy)
  have e1 : xs.getD i .non = u := by rw [List.getD_eq_getElem?_getD, hu]; rfl
  have e2 : ys.getD i .non = v := by rw [List.getD_eq_getElem?_getD, hv]; rfl
  refine g_two upd_same ?_
  have q2 := q (Evl.Ex.new hT)
  rw [e1, e2] at q2
  exact q2
theorem lc_zipT {a b : Addr} {xs ys : List V} {j k : Nat} (keep : Nat → Bool) (f : Nat → V) (hx : SqT K H1 a xs) (hy : SqT K H1 b ys) (he0 : xs.length = ys.length) (hD : H1 Dl = none) (hn : xs.length ≤ 100000)
    (hw : ∀ u v : V, wipe (((wipe σ vs).set j (some u)).set k (some v)) vs = wipe σ vs)
    (ht : ∀ i x y, xs[i]? = some x → ys[i]? = some y → Evl.EvT tt (((wipe σ vs).set j (some x)).set k (some y)) H1 (keep i))
    (he : ∀ i x y, xs[i]? = some x → ys[i]? = some y → keep i = true → Evl.Ev te (((wipe σ vs).set j (some x)).set k (some y)) H1 (f i))
    (hd : ∀ H', Evl.Ex H1 H' → H' Dl = some (.lst (kept xs.length keep f)) → Q (.ref Dl) H') : LcG (ItzT K a b) (gTup K 2 (gCons (gName j) (gCons (gName k) gNil))) tt te vs σ Dl H1 Q := by
  have gx : ∀ i, i < xs.length → xs[i]? = some (xs.getD i .non) := fun i hi => by rw [List.getD_eq_getElem?_getD, List.getElem?_eq_getElem hi]; rfl
  have gy : ∀ i, i < xs.length → ys[i]? = some (ys.getD i .non) := fun i hi => by rw [List.getD_eq_getElem?_getD, List.getElem?_eq_getElem (by omega)]; rfl
  refine lc_pure xs.length (fun i => ((wipe σ vs).set j (some (xs.getD i .non))).set k (some (ys.getD i .non))) keep f hD hn (fun H' e => ⟨xs, ys, Evl.ex_t e hx, Evl.ex_t e hy, .inl (Nat.le_refl _)⟩)
    (fun i H' hi e => ⟨xs, ys, _, _, Evl.ex_t e hx, Evl.ex_t e hy, gx i hi, gy i hi⟩)
    (fun i H' x H'' QG hi e y q => ?_) (fun i hi => hw _ _) (fun i hi => ht i _ _ (gx i hi) (gy i hi)) (fun i hi => he i _ _ (gx i hi) (gy i hi)) hd
  obtain ⟨T, u, v, rfl, hT, rfl, hf, hf2⟩ := y
  have hu := hf xs (Evl.ex_t e hx)
  have hv := hf2 ys (Evl.ex_t e hy)
  have e1 : xs.getD i .non = u := by rw [List.getD_eq_getElem?_getD, hu]; rfl
  have e2 : ys.getD i .non = v := by rw [List.getD_eq_getElem?_getD, hv]; rfl
  refine g_two upd_same ?_
  have q2 := q (Evl.Ex.new hT)
  rw [e1, e2] at q2
  exact q2
theorem all_true (n : Nat) : ((List.replicate n true).all id) = true := by
  induction n with
  | zero => rfl
  | succ n ih => rw [List.replicate_succ, List.all_cons, ih]; rfl
theorem kept_const (n : Nat) (v : V) : kept n (fun _ => true) (fun _ => v) = List.replicate n v := by
  rw [kept_all]
  apply List.ext_getElem?
  intro j
  rw [List.getElem?_map]
  by_cases h : j < n
  · rw [List.getElem?_range h, List.getElem?_replicate, if_pos h]
    rfl
  · rw [List.getElem?_eq_none (by rw [List.length_range]; omega), List.getElem?_eq_none (by rw [List.length_replicate]; omega)]
    rfl
end
end BC

set_option Elab.async false
set_option linter.all false
set_option maxRecDepth 100000
set_option maxHeartbeats 4000000
/-! repr of lists wants to know that no repr is under way around: promises that hold where nothing is guarded -/
namespace BC
open PySem PySem.Spec PyProof.Rows L2 Evl
/-- nothing is guarded around -/
def G0 (A : Around) : Prop := A.guards = some []
theorem G0.deeper {A : Around} (g : G0 A) (env : Env) : G0 (A.deeper env) := g
/-- FnOk where nothing is guarded around -/
structure FnG (P : Program) (w : World) (K : PySem.W.Frag) (mg : Str → Option Value) (base : Heap) (CX : CXT) (k : Nat) (f : Addr) (fd : FuncData) (ps : List Str) (sp : Sp) : Prop where
  size : ∀ vs H Q E, sp vs H Q E → vs.length = ps.length
  go : ∀ (A : Around) (outer : List Env) (s : Shared) (H : Hp) (args : Args) (us : List Value) (vs : List V) (Q : VK) (E : XK), G0 A → Room k A → Env0 P w K mg base A outer s H →
    BindsTo s fd args (ps.zip us) → Vals vs us → sp vs H Q E → codeAny (model P w) A (.call (.ref f) args) (CR CX outer P w H s Q E) s
section
variable {P : Program} {w : World} {K : PySem.W.Frag} {mg : Str → Option Value} {base : Heap} {CX : CXT} {k : Nat} {f : Addr} {fd : FuncData} {ps : List Str} {sp : Sp}
theorem FnG.of (F : FnOk P w K mg base CX k f fd ps sp) : FnG P w K mg base CX k f fd ps sp :=
  ⟨F.len, fun A outer s H args us vs Q E _ => F.run A outer s H args us vs Q E⟩
theorem FnG.up (F : FnG P w K mg base CX k f fd ps sp) {j : Nat} (h : k ≤ j) : FnG P w K mg base CX j f fd ps sp :=
  ⟨F.size, fun A outer s H args us vs Q E g hr => F.go A outer s H args us vs Q E g (hr.mono h)⟩
/-- the rule for a def -/
theorem fun_okG {x qual : Str} {st : Stmt} {N : List Str} (F : Fun K x qual st f fd) (S : FnScope N ps (defScope st)) (size : ∀ vs H Q E, sp vs H Q E → vs.length = ps.length)
    (body : ∀ (cdv : Value) (A : Around) (outer : List Env) (s : Shared) (H : Hp) (vs : List V) (Q : VK) (E : XK), G0 (A.deeper (envOfC qual (defScope st) s.heap.objs.size f cdv)) → Room k (A.deeper (envOfC qual (defScope st) s.heap.objs.size f cdv)) → sp vs H Q E →
      ∃ t, PSs (cxOf CX P w K mg base N qual (defScope st) f cdv A outer s H E) (defBody st) t ∧ t { nx := fun _ H' => Q .non H', rt := Q } (start N vs) H) : FnG P w K mg base CX (k + 1) f fd ps sp := by
  obtain ⟨oc, od, kV, doc, pm, an, cdv, ct, osl, rfl, lk, hcd⟩ := F.ex
  refine ⟨size, fun A outer s H args us vs Q E g room env bind vals prom => ?_⟩
  have inK : K.In s.heap := env.mod.kin.keeps fun b o q => (env.bs b o q).1
  have loose : s.heap.NoLimit := env.mod.nolimit.keeps fun b o q => (env.bs b o q).1
  have kinds : ∀ z ∈ ps.zip us, (defScope st).names.lookup z.1 = some .local ∨ ((defScope st).names.lookup z.1 = some .cell ∧ ((cellsFrom (s.heap.objs.size + 1) (defScope st).names []).lookup z.1).isSome = true) := by
    rintro ⟨n, v⟩ hz
    have hn := (List.of_mem_zip hz).1
    rcases S.par n hn with h | h
    · exact Or.inl h
    · exact Or.inr ⟨h, PySem.W.cellsFrom_some _ _ _ (Or.inl h)⟩
  refine codeAny_call_function room.depth (inK _ _ lk) rfl S.co S.gen rfl (PySem.W.codeRec_of inK hcd) (bind _ _ _ _ ?_)
  refine wpAny_newFunctionEnv_cells S.kind kinds fun env' e1 s1 into => ?_
  subst e1
  refine ⟨loose.keeps into.toInCall.keep, codeAny_func ?_⟩
  obtain ⟨t, deriv, read⟩ := body cdv A outer s H vs Q E (g.deeper _) (room.deeper _) prom
  have I := inv_start (CX := CX) (E := E) S room.hd env (size _ _ _ _ prom) vals into
  refine wpAny_mono (deriv.run [] s1 (start N vs) H _ I read) (fun flow s' ends => ?_) fun _ _ q => q
  have done : ∀ {σ2 : L2.St} {H2 : Hp} {v : V} {u : Value}, Inv (cxOf CX P w K mg base N qual (defScope st) f cdv A outer s H E) [] σ2 H2 s' → RelV v u → Q v H2 → CE outer P w H s Q u s' := by
    intro σ2 H2 v u J rel q
    exact ⟨v, H2, J.os, J.bare, J.base, J.hok, rel, q⟩
  match flow, ends with
  | .ret u, ends =>
    obtain ⟨v, σ2, H2, J, rel, q⟩ := ends
    exact done J rel q
  | .next, ends =>
    obtain ⟨σ2, H2, J, q⟩ := ends
    exact done (v := V.non) (u := Value.none) J rfl q
  | .brk, ends =>
    obtain ⟨_, _, _, q⟩ := ends
    exact q.elim
  | .cont, ends =>
    obtain ⟨_, _, _, q⟩ := ends
    exact q.elim
end
section
variable {X : Cx} {CX : CXT} {k : Nat} {f : Addr} {fd : FuncData} {ps : List Str} {sp : Sp} {dvs : List V} {ds : List Value} {E : XK} {x : Str} {p pos : Pos} {e : Expr} {es : List Expr} {t : TA}
theorem call_G {pins : List (Addr × Obj)} {σ : L2.St} {H : Hp} {s : Shared} {Q : VK} {us : List Value} {vs : List V} (F : FnG X.prog X.w X.K X.mg X.base CX k f fd ps sp) (g : G0 X.A) (hr : Room k X.A) (hb : Binds X.K fd ps ds) (hd : Vals dvs ds)
    (hx : Passes CX X E) (I : Inv X pins σ H s) (r : Vals vs us) (h : sp (vs ++ dvs) H Q E) : wpAny (model X.prog X.w) X.A (call (.ref f) us) (EP X pins σ Q) X.xe s := by
  have both : Vals (vs ++ dvs) (us ++ ds) := r.append hd
  have many : (us ++ ds).length = ps.length := both.length.symm.trans (F.size _ _ _ _ h)
  have run := F.go X.A X.stack s H ⟨us, []⟩ (us ++ ds) (vs ++ dvs) Q E g hr I.env0 (hb s us I.kIn many) both h
  refine wpAny_call (codeAny_mono run fun res s' q => ?_)
  match res, q with
  | .error err, q => exact hx pins σ H s err s' I q
  | .ok (.ret u), q => exact I.after q
theorem pe_callG (F : FnG X.prog X.w X.K X.mg X.base CX k f fd ps sp) (g : G0 X.A) (hr : Room k X.A) (hg : Gl X x) (hm : X.mg x = some (.ref f)) (hk : PySem.W.keepIn X.K (.ref f) = true) (hb : Binds X.K fd ps ds) (hd : Vals dvs ds) (hx : Passes CX X E)
    (ha : PA X (e :: es) t) (hdb : (x == ("__debug__" : Str)) = false := by decide) (he : starEach (e :: es) X.env = (false, eval e X.env) :: starEach es X.env := by rfl) (hpl : (backTo pos (starEach es X.env)).any (·.1) = false := by rfl) :
    PE X (.Call (.Name x p) (e :: es) [] pos) (tCall sp dvs E t) := by
  constructor
  intro pins s σ H Q I h
  have args := ha.run pos pins s σ H _ I h
  refine wpAny_Call_Name_kw (ld_glob I hg hm (PySem.W.callWith_K (h₀ := X.base) I.ok.mod.kin hk (thn args ?_) he hpl) hdb)
  rintro us s1 ⟨vs, H1, I1, r, q⟩
  exact ⟨I1.kIn, call_G F g hr hb hd hx I1 r q⟩
end

/-! ### the law's own call, for a promise of this kind -/
section
variable {P : Program} {w : World} {K : PySem.W.Frag} {mg mb : Str → Option Value} {k : Nat} {fa a : Addr} {fd : FuncData} {x : Str} {sp : Sp} {s : Shared} {vs : List Value} {ns : List Int}
/-- the abstract heap at the entry: the script alone, locked; or nothing, where the script is the module's own -/
def entryH (a : Addr) (vs : List Value) (ns : List Int) (own : Bool) : Hp := fun b => if own = false ∧ b = a then some (.frz { cls := .type "list", data := .seq vs.toArray } (.lst (ns.map V.int))) else none
theorem entry_other {own : Bool} {b : Addr} (h : b ≠ a) : entryH a vs ns own b = none := if_neg fun z => h z.2
theorem entry_own {b : Addr} : entryH a vs ns true b = none := if_neg fun z => nomatch z.1
theorem entry_at : entryH a vs ns false a = some (.frz { cls := .type "list", data := .seq vs.toArray } (.lst (ns.map V.int))) := if_pos ⟨rfl, rfl⟩
theorem entry_case {own : Bool} {b : Addr} {o : HO} (h : entryH a vs ns own b = some o) : own = false ∧ b = a ∧ o = .frz { cls := .type "list", data := .seq vs.toArray } (.lst (ns.map V.int)) := by
  unfold entryH at h
  by_cases q : own = false ∧ b = a
  · rw [if_pos q] at h
    exact ⟨q.1, q.2, (Option.some.inj h).symm⟩
  · rw [if_neg q] at h
    cases h
theorem law_goG (hK : K.In s.heap) (hns : s.heap.Ns mainGlobals mg) (hb : s.heap.Ns builtinsNs mb) (hbb : ∀ x : Str, x ≠ "__name__" → mb x = bootBuiltins x) (hlim : s.heap.NoLimit) (hg : s.gens = #[])
    (ha : s.heap.get? a = some { cls := .type "list", data := .seq vs.toArray }) (hi : IntsAre vs ns) (hl : ns.length ≤ sizeLine) (hr : Room k callerA)
    (F : ∀ base : Heap, K.In base → base.Ns mainGlobals mg → FnG P w K mg base CX0 k fa fd [x] sp) (bind : ∀ (s : Shared) (u : Value), BindsTo s fd ⟨[u], []⟩ [(x, u)])
    (prom : ∀ H : Hp, SqL K H a (ns.map V.int) → sp [.ref a] H (fun v _ => v = .bl true) fun _ _ _ => False) :
    codeAny (model P w) callerA (.call (.ref fa) ⟨[.ref a], []⟩) (fun r s' => r = .ok (.ret (.bool true)) ∧ OldK s.heap s'.heap ∧ s'.os = s.os ∧ AllBare s'.gens) s := by
  have rv := vals_ints hi
  have many := hi.length
  obtain ⟨own, hown⟩ : ∃ own : Bool, own = (K.lookup a).isSome := ⟨_, rfl⟩
  let H : Hp := entryH a vs ns own
  have reads : SqL K H a (ns.map V.int) := by
    cases q : K.lookup a with
    | none =>
      have e : own = false := by rw [hown, q]; rfl
      exact Or.inl (Or.inr ⟨_, by show entryH a vs ns own a = _; rw [e]; exact entry_at⟩)
    | some o =>
      have z := hK a o q
      rw [ha] at z
      cases z
      refine Or.inr ⟨_, vs.toArray, _, q, rfl, rfl, rfl, ?_, ?_⟩
      · rw [List.size_toArray, many]
        exact hl
      · exact rv
  have held : HOk P w H s.heap := fun b o q => by
    obtain ⟨_, rfl, rfl⟩ := entry_case q
    exact ⟨ha, by rw [List.length_map]; exact hl, vs, _, rv, ha⟩
  have spare : ∀ {b : Addr} {o : Obj}, s.heap.get? b = some o → (∀ u n, o.data ≠ .seq u n) → H b = none := fun {b o} e d => by
    cases q : H b with
    | none => rfl
    | some u =>
      obtain ⟨_, rfl, _⟩ := entry_case q
      rw [ha] at e
      cases e
      exact absurd rfl (d _ _)
  have nsT : ∀ {b : Addr} {m : Str → Option Value}, s.heap.Ns b m → (hidT s.heap H).Ns b m := by
    rintro b m ⟨o, es, ep, e, d, r⟩
    exact ⟨o, es, ep, hidT_get e (spare e fun u n z => by rw [d] at z; cases z), d, r⟩
  have kT : K.In (hidT s.heap H) := fun b o e => hidT_get (hK b o e) (by
    cases q : H b with
    | none => rfl
    | some u =>
      obtain ⟨z, rfl, _⟩ := entry_case q
      rw [hown, e] at z
      cases z)
  have module : Mod K mg (hidT s.heap H) := ⟨kT, nsT hns, ⟨mb, nsT hb, hbb⟩, by obtain ⟨mc, h1, h2⟩ := hlim; exact ⟨mc, nsT h1, h2⟩⟩
  have entry : Env0 P w K mg (hidT s.heap H) callerA [] s H :=
    ⟨rfl, module, fun b o e => of_hidT e, Nat.le_of_eq (hidT_size _ _), trivial, fun b z => (List.not_mem_nil z).elim, held, .of_eq hg⟩
  have ran := (F _ kT (nsT hns)).go callerA [] s H ⟨[.ref a], []⟩ [.ref a] [.ref a] _ _ rfl hr entry (bind s (.ref a)) (.cons rfl .nil) (prom H reads)
  refine codeAny_mono ran fun r s' q => ?_
  match r, q with
  | .ok (.ret u), q =>
    obtain ⟨v, H', os, bare, un, held', rel, fin⟩ := q
    obtain rfl : v = .bl true := fin
    obtain rfl : u = Value.bool true := rel
    refine ⟨rfl, OldK.of_keep fun b o e => ?_, os, bare⟩
    cases q : H b with
    | none => exact un.keep b o e q (fun z => (List.not_mem_nil z).elim) List.not_mem_nil
    | some u =>
      obtain ⟨_, rfl, rfl⟩ := entry_case q
      have z := (held' _ _ (un.frzs _ _ _ q)).1
      rw [ha] at e
      cases e
      exact z
theorem walk_G {l : PySem.W.OpenLaw} {n k : Nat} {q : Program} {loose : List Str} {XP : (Str → Option Value) → Heap → Prop} {YP : World → Heap → Prop} {d : DefRec} {K : Params → PySem.W.Frag} {sp : World → Sp} {x : Str}
    (hn : l.most = some n) (hn2 : n ≤ sizeLine) (hdf : d.params.defaults = []) (hr : Room k callerA) (hY : ∀ (w : World) (h : Heap), YP w h → (K w.params).In h)
    (F : ∀ (w : World) (mg : Str → Option Value) (fa : Addr) (h : Heap), (K w.params).In h → h.Ns mainGlobals mg → mg d.name = some (.ref fa) →
      ∃ fd : FuncData, (∀ (s : Shared) (u : Value), BindsTo s fd ⟨[u], []⟩ [(x, u)]) ∧ ∀ base : Heap, (K w.params).In base → base.Ns mainGlobals mg → FnG l.prog w (K w.params) mg base CX0 k fa fd [x] (sp w))
    (prom : ∀ (w : World) (H : Hp) (a : Addr) (ns : List Int), ns.length ≤ n → SqL (K w.params) H a (ns.map V.int) → sp w [.ref a] H (fun v _ => v = .bl true) fun _ _ _ => False) :
    PySem.W.WalkO q loose XP YP l.row.toRowW d [] (fun f vs => PySem.call f vs) := by
  refine Att.attach_call hn hdf ?_
  intro w s0 s1 mg mb fa o pm cd doc a vs ns G Y _ hd hcd hmg hobj hints hlen hg
  have inK := hY w _ Y
  obtain ⟨fd, bind, keep⟩ := F w mg fa _ inK G.T.g hmg
  exact law_goG inK G.T.g G.T.b G.T.builtins G.T.nolimit hg hobj hints (Nat.le_trans hlen hn2) hr keep bind fun H hS => prom w H a ns hlen hS
end
end BC

set_option Elab.async false
set_option linter.all false
set_option maxRecDepth 100000
set_option maxHeartbeats 4000000
/-! repr, keywords, more readings -/
namespace BC
open PySem PySem.Spec PyProof.Rows L2 Evl
section
variable {X : Cx} {K : PySem.W.Frag} {σ : L2.St} {H : Hp} {Q : VK}
/-- repr of lists, tuples and what lies in them -/
def rRepr (K : PySem.W.Frag) : List V → Hp → VK → Prop := fun xs H Q => ∃ a d, xs = [.ref a] ∧ Dp K H (.ref a) d ∧ d.showable = true ∧ d.depth ≤ 60 ∧ d.hasDict = false ∧ d.shown.length ≤ sizeLine ∧ Q (.str d.shown) H
theorem k_repr (hK : X.K = K) (g : G0 X.A) (hu : X.A.units + 64 < cLine) : CallR X (.builtin "repr") (rRepr K) := by
  subst hK
  intro pins s σ H xs us Q I r h
  obtain ⟨a, d, rfl, hd, h1, h2, h3, h4, q⟩ := h
  obtain ⟨u, rfl, rfl⟩ := vals1 r
  obtain ⟨as, rd⟩ := Dp.reads I d (.ref a) (.ref a) hd rfl
  exact repr_of_reads' rd h1 (PyData.noDict_hsm h3) g (by omega) (fun _ _ e => e) (fun h' u tk hk => ⟨.str _, H, I.kept hk, ⟨_, rfl⟩, q⟩) h4
def rIsB : R2 := fun x y H Q => ∃ a b, x = .bl a ∧ y = .bl b ∧ Q (.bl (decide (a = b))) H
def rIsNB : R2 := fun x y H Q => ∃ a b, x = .bl a ∧ y = .bl b ∧ Q (.bl (!decide (a = b))) H
theorem op_isB : OpR X (compareOp .Is) rIsB := op_is_bl
theorem op_isNB : OpR X (compareOp .IsNot) rIsNB := op_isnot_bl
theorem x_isB {a b : Bool} : rIsB (.bl a) (.bl b) H Q ↔ Q (.bl (decide (a = b))) H := ⟨fun ⟨i, j, e1, e2, q⟩ => by cases e1; cases e2; exact q, fun q => ⟨a, b, rfl, rfl, q⟩⟩
theorem x_isNB {a b : Bool} : rIsNB (.bl a) (.bl b) H Q ↔ Q (.bl (!decide (a = b))) H := ⟨fun ⟨i, j, e1, e2, q⟩ => by cases e1; cases e2; exact q, fun q => ⟨a, b, rfl, rfl, q⟩⟩
theorem x_lrg {te : L2.St → Hp → (Int → Int → Hp → Prop) → Prop} : tLstRg te σ H Q = te σ H fun a b H1 => RgOk a b ∧ ∀ q, H1 q = none → Q (.ref q) (upd H1 q (.lst (rgV a b))) := rfl
theorem x_rg1 {ta : TE} {R : Int → Int → Hp → Prop} : tRg1 ta σ H R = ta σ H fun x H1 => ∃ n, x = .int n ∧ R 0 n H1 := rfl
theorem x_rg2 {ta tb : TE} {R : Int → Int → Hp → Prop} : tRg2 ta tb σ H R = ta σ H fun x H1 => tb σ H1 fun y H2 => ∃ i j, x = .int i ∧ y = .int j ∧ R i j H2 := rfl
end
theorem Fx.mut {b r : Addr} {H H' : Hp} {o : HO} (f : Fx b H H') (n : H r = none) : Fx b H (upd H' r o) := fun a u na h => by rw [upd_ne (ne_of_none h n)]; exact f a u na h
theorem fx_none {b x : Addr} {H H' : Hp} (h : Fx b H H') (n : H' x = none) (nb : x ≠ b) : H x = none := by
  cases e : H x with
  | none => rfl
  | some o => rw [h _ _ nb e] at n; cases n
/-- a promise that asks for more -/
theorem weak {P : Program} {w : World} {K : PySem.W.Frag} {mg : Str → Option Value} {base : Heap} {CX : CXT} {k : Nat} {f : Addr} {fd : FuncData} {ps : List Str} {sp sp' : Sp} (F : FnOk P w K mg base CX k f fd ps sp) (h : ∀ vs H Q E, sp' vs H Q E → sp vs H Q E) : FnOk P w K mg base CX k f fd ps sp' :=
  ⟨fun vs H Q E q => F.len vs H Q E (h _ _ _ _ q), fun A outer s H args us vs Q E hr env bind vals q => F.run A outer s H args us vs Q E hr env bind vals (h _ _ _ _ q)⟩
/-! ### a cut: what stands after one statement -/
section
variable {σ : L2.St} {H : Hp} {D : Ends} {ta : TE} {s1 s2 : TS} {i : Nat}
theorem seq_asg (C : V → Hp → Prop) (h1 : ∀ R : VK, (∀ v H', C v H' → R v H') → ta σ H R) (h2 : ∀ v H', C v H' → s2 D (σ.set i (some v)) H') : tSeq (tAsg ta (gName i)) s2 D σ H := h1 _ h2
theorem seq_cut (C : L2.St → Hp → Prop) (h1 : ∀ N : L2.St → Hp → Prop, (∀ σ' H', C σ' H' → N σ' H') → s1 { D with nx := N } σ H) (h2 : ∀ σ' H', C σ' H' → s2 D σ' H') : tSeq s1 s2 D σ H := h1 _ h2
end
/-! ### keywords -/
def kg {α : Type} (d : α) (a b : Nat) (perm : List Nat) (us ws : List α) : List α := if us.length = a ∧ ws.length = b then perm.map fun i => (us ++ ws).getD i d else []
theorem vals_getD : ∀ {vs : List V} {us : List Value}, Vals vs us → ∀ i, RelV (vs.getD i .non) (us.getD i .none)
  | [], [], .nil, _ => rfl
  | _ :: _, _ :: _, .cons h _, 0 => h
  | _ :: _, _ :: _, .cons _ r, i + 1 => vals_getD r i
theorem vals_perm {vs : List V} {us : List Value} (r : Vals vs us) : ∀ p : List Nat, Vals (p.map fun i => vs.getD i .non) (p.map fun i => us.getD i .none)
  | [] => .nil
  | i :: p => .cons (vals_getD r i) (vals_perm r p)
theorem kg_rel {a b : Nat} {p : List Nat} {vs : List V} {us : List Value} {zs : List V} {ws : List Value} (r : Vals vs us) (z : Vals zs ws) : Vals (kg .non a b p vs zs) (kg .none a b p us ws) := by
  unfold kg
  rw [r.length, z.length]
  split
  · exact vals_perm (r.append z) p
  · exact .nil
theorem kg_mk {K : PySem.W.Frag} {fd : FuncData} {q : Str} {ps ks : List Str} {a b : Nat} {p : List Nat} (h : ∀ us ws : List Value, us.length = a → ws.length = b → bindArgs fd ⟨us, ks.zip ws⟩ = pure ((q :: ps).zip (p.map fun i => (us ++ ws).getD i .none))) :
    KBinds K fd (q :: ps) ks (kg .none a b p) (kg .non a b p) := by
  refine ⟨fun s us ws _ hl => ?_, kg_rel⟩
  unfold kg at hl ⊢
  split at hl
  · next c =>
    rw [if_pos c]
    exact .of_eq (h us ws c.1 c.2)
  · cases hl
theorem fun_okN {P : Program} {w : World} {K : PySem.W.Frag} {mg : Str → Option Value} {base : Heap} {CX : CXT} {k : Nat} {f : Addr} {fd : FuncData} {ps : List Str} {sp : Sp} {x qual : Str} {st : Stmt} {N : List Str} (F : Fun K x qual st f fd) (S : FnScope N ps (defScope st)) (size : ∀ vs H Q E, sp vs H Q E → vs.length = ps.length)
    (body : ∀ (cdv : Value) (A : Around) (outer : List Env) (s : Shared) (H : Hp) (vs : List V) (Q : VK) (E : XK), G0 (A.deeper (envOfC qual (defScope st) s.heap.objs.size f cdv)) → Room k (A.deeper (envOfC qual (defScope st) s.heap.objs.size f cdv)) → sp vs H Q E →
      ∃ t, PSs (cxOf CX P w K mg base N qual (defScope st) f cdv A outer s H E).nox (defBody st) t ∧ t { nx := fun _ H' => Q .non H', rt := Q } (start N vs) H) : FnG P w K mg base CX (k + 1) f fd ps sp :=
  fun_okG F S size fun cdv A outer s H vs Q E hG hr h => let ⟨t, d, q⟩ := body cdv A outer s H vs Q E hG hr h; ⟨t, d.nox, q⟩
theorem Fun.kb {K : PySem.W.Frag} {x qual q : Str} {st : Stmt} {f : Addr} {fd : FuncData} {ps ks : List Str} {a b : Nat} {p : List Nat} (F : Fun K x qual st f fd)
    (h : ∀ (kV doc pm : Value) (an : Option Addr) (cdv ct : Value) (us ws : List Value), us.length = a → ws.length = b → bindArgs (PySem.W.fnOf x qual (defArgs st) (defBody st) (defScope st) .none kV doc pm an cdv ct) ⟨us, ks.zip ws⟩ = pure ((q :: ps).zip (p.map fun i => (us ++ ws).getD i .none))) :
    KBinds K fd (q :: ps) ks (kg .none a b p) (kg .non a b p) := by
  obtain ⟨oc, od, kV, doc, pm, an, cdv, ct, osl, rfl, lk, hcd⟩ := F.ex
  exact kg_mk (h kV doc pm an cdv ct)
section
variable {X : Cx} {CX : CXT} {k : Nat} {f : Addr} {fd : FuncData} {ps ks : List Str} {sp : Sp} {E : XK} {x : Str} {p pos : Pos} {e : Expr} {es : List Expr} {kws : List Keyword} {t tk : TA} {g : List Value → List Value → List Value} {gV : List V → List V → List V}
theorem pe_callK0 (F : FnOk X.prog X.w X.K X.mg X.base CX k f fd ps sp) (hr : Room k X.A) (hg : Gl X x) (hm : X.mg x = some (.ref f)) (hk : PySem.W.keepIn X.K (.ref f) = true) (hb : KBinds X.K fd ps ks g gV) (hx : Passes CX X E)
    (hkw : PK X kws tk) (hall : (backToKw pos (keywordEach kws X.env)).all (·.1.isSome) = true := by rfl) (hks : (backToKw pos (keywordEach kws X.env)).filterMap (·.1) = ks := by rfl)
    (hdb : (x == ("__debug__" : Str)) = false := by decide)
    (hpl : ((backTo pos (starEach [] X.env)).any (·.1) || (backToKw pos (keywordEach kws X.env)).any (·.1.isNone)) = false := by rfl) :
    PE X (.Call (.Name x p) [] kws pos) (tCallK sp gV E tNil tk) := by
  refine ⟨fun pins s σ H Q I h => ?_⟩
  refine wpAny_Call_Name_kw (ld_glob I hg hm ?_ hdb)
  refine PySem.W.callWith_KW0 (h₀ := X.base) I.ok.mod.kin hk hall (thn (hkw.run pos pins s σ H _ I h) fun ws s2 ⟨zs, H2, I2, rz, q2⟩ => ⟨I2.kIn, ?_⟩) hpl
  rw [hks]
  exact run_fnk F hr hb hx I2 .nil rz q2
theorem run_fnkG {pins : List (Addr × Obj)} {σ : L2.St} {H : Hp} {s : Shared} {Q : VK} {us ws : List Value} {vs zs : List V} (F : FnG X.prog X.w X.K X.mg X.base CX k f fd ps sp) (g0 : G0 X.A) (hr : Room k X.A) (hb : KBinds X.K fd ps ks g gV) (hx : Passes CX X E)
    (I : Inv X pins σ H s) (r : Vals vs us) (rz : Vals zs ws) (h : sp (gV vs zs) H Q E) : wpAny (model X.prog X.w) X.A (call (.ref f) us (ks.zip ws)) (EP X pins σ Q) X.xe s := by
  have r2 := hb.rel r rz
  have hl : (g us ws).length = ps.length := by rw [← r2.length]; exact F.size _ _ _ _ h
  refine wpAny_call (codeAny_mono (F.go X.A X.stack s H ⟨us, ks.zip ws⟩ (g us ws) (gV vs zs) Q E g0 hr I.env0 (hb.to s us ws I.kIn hl) r2 h) fun r s' hq => ?_)
  cases r with
  | error e => exact hx pins σ H s e s' I hq
  | ok fl =>
    cases fl with
    | ret u => exact I.after hq
    | next => exact False.elim hq
    | brk => exact False.elim hq
    | cont => exact False.elim hq
theorem pe_callKG (F : FnG X.prog X.w X.K X.mg X.base CX k f fd ps sp) (g0 : G0 X.A) (hr : Room k X.A) (hg : Gl X x) (hm : X.mg x = some (.ref f)) (hk : PySem.W.keepIn X.K (.ref f) = true) (hb : KBinds X.K fd ps ks g gV) (hx : Passes CX X E)
    (ha : PA X (e :: es) t) (hkw : PK X kws tk) (hall : (backToKw pos (keywordEach kws X.env)).all (·.1.isSome) = true := by rfl) (hks : (backToKw pos (keywordEach kws X.env)).filterMap (·.1) = ks := by rfl)
    (hdb : (x == ("__debug__" : Str)) = false := by decide) (he : starEach (e :: es) X.env = (false, eval e X.env) :: starEach es X.env := by rfl)
    (hpl : ((backTo pos (starEach (e :: es) X.env)).any (·.1) || (backToKw pos (keywordEach kws X.env)).any (·.1.isNone)) = false := by rfl) :
    PE X (.Call (.Name x p) (e :: es) kws pos) (tCallK sp gV E t tk) := by
  refine ⟨fun pins s σ H Q I h => ?_⟩
  refine wpAny_Call_Name_kw (ld_glob I hg hm ?_ hdb)
  refine PySem.W.callWith_KW (h₀ := X.base) I.ok.mod.kin hk hall (thn (ha.run pos pins s σ H _ I h) fun us s1 ⟨vs, H1, I1, r, q⟩ => ?_) hpl he
  refine thn (hkw.run pos pins s1 σ H1 _ I1 q) fun ws s2 ⟨zs, H2, I2, rz, q2⟩ => ⟨I2.kIn, ?_⟩
  rw [hks]
  exact run_fnkG F g0 hr hb hx I2 r rz q2
end
end BC

set_option Elab.async false
set_option linter.all false
set_option maxRecDepth 100000
set_option maxHeartbeats 4000000
/-! xs[:] = ys -/
namespace BC
open PySem PySem.Spec PyProof.Rows L2 Evl
theorem bounds_all (n : Nat) : sliceBounds none none none n = (((0 : Nat) : Int), ((n : Nat) : Int), 1) := by
  simp [sliceBounds]
section
variable {prog : Program} {w : World} {A : Around} {s : Shared} {E : Value → Shared → Prop}
theorem setItem_all {l b sl : Addr} {items new : Array Value} {n n2 : Nat} {vl vu : Value} {Q : Unit → Shared → Prop}
    (e : s.heap.get? l = some { cls := .type "list", data := .seq items n }) (e2 : s.heap.get? b = some { cls := .type "list", data := .seq new n2 }) (hne : l ≠ b)
    (hs : s.heap.IsSliceOf sl vl vu .none) (pl : IsPart vl none) (pu : IsPart vu none)
    (hsz : items.size + new.size ≤ sizeLine) (h : Q () { s with heap := s.heap.update l (Obj.mapSeq fun xs => xs.extract 0 0 ++ new ++ xs.extract items.size xs.size) }) :
    wpAny (model prog w) A (setItem (.ref l) (.ref sl) (.ref b)) Q E s := by
  have hl : s.heap.IsList l items := PySem.IsL.isList e
  have hb : s.heap.IsList b new := PySem.IsL.isList e2
  obtain ⟨os, hos, hcs, hds⟩ := id hs
  have hTs : s.TypeIs (.ref sl) "slice" := ⟨os, hos, hcs⟩
  have hstep : ¬ ((rawPart none == rawInt 0) = true) := Bool.false_ne_true
  have hsame : Builtin.List.listSameRef (.ref l) (.ref b) = false := by
    unfold Builtin.List.listSameRef
    exact beq_eq_false_iff_ne.mpr hne
  have hmax : (max ((0 : Nat) : Int) ((items.size : Nat) : Int)).toNat = items.size := by omega
  have hz' : ((fun xs : Array Value => xs.extract 0 0 ++ new ++ xs.extract items.size xs.size) items).size ≤ sizeLine + 1 := by
    simp only [Array.size_append, Array.size_extract]
    omega
  unfold setItem
  try with_reducible refine wpAny_holding ?_
  first | refine wpAny_bind (wpAny_pure ?_) | skip
  refine wpAny_bind (wpAny_sequenceKey hl.typeIs (by decide) ?_)
  refine wpAny_bind (wpAny_callSpecial?_slot (name := Str.ofString "__setitem__") hl.typeIs slot_list_setitem
    (wpAny_call_entry slot_list_setitem hl.typeIs entry_list_setitem ?_ (args_list_setitem _ _ _)))
  show wpAny _ _ (Builtin.List.listSubscript? (.ref sl) >>= _) _ _ s
  refine wpAny_bind ?_
  unfold Builtin.List.listSubscript?
  refine wpAny_bind (wpAny_specialOf hTs slice_no_index ?_)
  simp only [Option.isNone_none, if_true]
  refine wpAny_pure ?_
  show wpAny _ _ (typeOf (.ref sl) >>= _) _ _ s
  refine wpAny_bind (wpAny_typeOf hTs ?_)
  first
    | rw [if_neg (by decide)]
    | refine PySem.W.KFB.if_not (by decide) ?_
  rw [listSliceParts_eq]
  refine wpAny_bind (wpAny_bind (wpAny_field hos hds (x := .none) rfl (wpAny_bind (wpAny_listPart .none ?_))))
  rw [if_neg hstep]
  refine wpAny_bind (wpAny_field hos hds (x := vl) rfl (wpAny_bind (wpAny_listPart pl ?_)))
  refine wpAny_bind (wpAny_field hos hds (x := vu) rfl (wpAny_bind (wpAny_listPart pu (wpAny_pure ?_))))
  first
    | simp only [hsame, Bool.false_eq_true, if_false]
    | refine PySem.W.KFB.if_not hsame ?_
    | (dsimp only
       rw [if_neg (by rw [hsame]; exact Bool.false_ne_true)])
  refine wpAny_bind (m := Builtin.List.listAllItems (.ref b) "must assign iterable to extended slice") ?_
  unfold Builtin.List.listAllItems
  refine wpAny_bind (wpAny_typeOf hb.typeIs ?_)
  first
    | refine PySem.W.KFB.if_so (by decide) ?_
    | rw [if_pos (by decide)]
    | simp only [beq_self_eq_true, Bool.true_or, if_true]
  unfold Builtin.List.listItems
  refine wpAny_bind (wpAny_seqItems e2 rfl (wpAny_pure ?_))
  refine wpAny_bind (wpAny_bind (wpAny_seqItems e rfl (wpAny_pure ?_)))
  refine wpAny_bind (wpAny_of_eq ((sliceIndices_raw none none none items.size (by simp)).trans (congrArg (pure : Int × Int × Int → Sem (Int × Int × Int)) (bounds_all items.size))) ?_)
  show wpAny _ _ (if ((1 : Int) == 1) = true then _ else _) _ _ s
  rw [if_pos (by decide)]
  refine wpAny_bind (wpAny_rule ?_)
  first
    | simp only [notLongL hsz, Bool.false_eq_true, if_false]
    | refine PySem.W.KFB.if_not (notLongL hsz) ?_
  first | refine wpAny_bind (wpAny_pure ?_) | skip
  show wpAny _ _ (updateSeq l (fun xs => xs.extract 0 ((0 : Nat) : Int).toNat ++ new ++ xs.extract (max ((0 : Nat) : Int) ((items.size : Nat) : Int)).toNat xs.size) >>= _) _ _ s
  rw [hmax, Int.toNat_natCast]
  refine wpAny_bind (wpAny_updateSeq (hz := Nat.le_trans (Nat.le_add_right _ _) hsz) (_hz' := hz') e rfl ?_)
  refine wpAny_bind (wpAny_letGo ?_)
  first
    | exact wpAny_bind (wpAny_pure (wpAny_pure ⟨.none, rfl, wpAny_pure h⟩))
    | exact wpAny_pure ⟨.none, rfl, wpAny_pure h⟩
end
section
variable {X : Cx} {o e : Expr} {to : TE} {p2 pos : Pos}
/-- o[:] = v, both lists -/
def gAll (to : TE) : TG := fun v σ H QG => to σ H fun x H1 => ∃ a b xs ys, x = .ref a ∧ v = .ref b ∧ a ≠ b ∧ H1 a = some (.lst xs) ∧ H1 b = some (.lst ys) ∧ xs.length + ys.length ≤ sizeLine ∧ QG σ (upd H1 a (.lst ys))
theorem set_all {pins : List (Addr × Obj)} {s : Shared} {σ : L2.St} {H : Hp} {l b sl : Addr} {xs ys : List V} {vl vu : Value} {Q : Unit → Shared → Prop} (I : Inv X pins σ H s)
    (hH : H l = some (.lst xs)) (hB : H b = some (.lst ys)) (hne : l ≠ b) (hs : s.heap.IsSliceOf sl vl vu .none) (pl : IsPart vl none) (pu : IsPart vu none)
    (hz : xs.length + ys.length ≤ sizeLine) (h : ∀ s', Inv X pins σ (upd H l (.lst ys)) s' → Q () s') :
    wpAny (model X.prog X.w) X.A (setItem (.ref l) (.ref sl) (.ref b)) Q X.xe s := by
  obtain ⟨z, its, n, r, hl, e⟩ := I.lstM hH
  obtain ⟨z2, its2, n2, r2, hl2, e2⟩ := I.lstM hB
  refine setItem_all e e2 hne hs pl pu (by rw [List.size_toArray, List.size_toArray]; omega) (h _ ?_)
  refine I.lset (its' := its2) (t' := s.toks) hH e ?_ r2 (by omega)
  simp
theorem pg_all (ho : PE X o to)
    (ha0 : ∀ v, assign (.Subscript o (.Slice none none none p2) pos) X.env v = (do
      let ov ← holding [v] (eval o X.env)
      let iv ← holding [v, ov] (eval (.Slice none none none p2) X.env)
      standAt pos
      holding [v, ov, iv] (setItem ov iv v)
      release [iv, v, ov] []) := by intro _; rfl) : PG X (.Subscript o (.Slice none none none p2) pos) (gAll to) := by
  refine ⟨fun pins s σ H v u Q I r h => ?_⟩
  rw [ha0]
  refine wpAny_bind (wpAny_holding (thn (ho.run pins s σ H _ I h) fun ov s1 ⟨x, H1, I1, r1, q1⟩ => ?_))
  obtain ⟨a, b, xs, ys, rfl, rfl, hne, ha, hb, hz, q⟩ := q1
  cases r1
  cases r
  refine wpAny_bind (wpAny_holding ?_)
  refine wpAny_Slice ?_
  rw [evalPart_none]
  refine wpAny_pure ?_
  refine wpAny_pure ?_
  refine wpAny_pure ?_
  have I4 : Inv X pins σ H1 { s1 with heap := s1.heap.push { cls := .type "slice", data := .fields #[.none, .none, .none] } } := I1.kept (t' := s1.toks) fun b ob q => Heap.get?_push_of_some _ q
  refine wpAny_bind (wpAny_standAt (wpAny_bind (wpAny_holding ?_)))
  refine set_all I4 ha hb hne (Heap.IsSliceOf.new ..) .none .none hz fun s' I5 => ?_
  exact wpAny_release ⟨σ, _, I5, q⟩
def rDivmod : List V → Hp → VK → Prop := fun xs H Q => ∃ i j, xs = [.int i, .int j] ∧ CDivW i j ∧ ∀ p, H p = none → Q (.ref p) (upd H p (.tup [.int (i / j), .int (i % j)]))
theorem call_dmX : CallR X (.builtin "divmod") rDivmod := by
  intro pins s σ H xs us Q I r h
  obtain ⟨i, j, rfl, hc, q⟩ := h
  obtain ⟨u, u2, rfl, ⟨t, rfl⟩, ⟨t2, rfl⟩⟩ := vals2 r
  have pos : 0 < j := hc.1
  have new := I.hok.fresh (Nat.le_refl s.heap.objs.size)
  refine divmod_int (by omega) ?_ (.inl (PyProof.noPylong_of_log2 hc.2))
  rw [Int.fdiv_eq_ediv_of_nonneg i (by omega), Int.fmod_eq_emod_of_nonneg i (by omega)]
  refine ⟨.ref s.heap.objs.size, _, ?_, rfl, q _ new⟩
  refine I.laid (fun b o e => Heap.get?_push_of_some _ e) (Nat.le_refl _) ⟨?_, [.int (i / j) s.toks, .int (i % j) (s.toks + 1)], .cons ⟨_, rfl⟩ (.cons ⟨_, rfl⟩ .nil), ?_⟩
  · exact Evl.sz_of (by simp)
  · exact ⟨_, Heap.get?_push_size s.heap rfl, rfl, 0, rfl⟩
theorem x_gall {σ : L2.St} {H : Hp} {v : V} {QG : L2.St → Hp → Prop} : gAll to v σ H QG = to σ H fun x H1 => ∃ a b xs ys, x = .ref a ∧ v = .ref b ∧ a ≠ b ∧ H1 a = some (.lst xs) ∧ H1 b = some (.lst ys) ∧ xs.length + ys.length ≤ sizeLine ∧ QG σ (upd H1 a (.lst ys)) := rfl
end
end BC

set_option Elab.async false
set_option linter.all false
set_option maxRecDepth 100000
set_option maxHeartbeats 4000000
/-! comprehensions that change what stands, or whose values are chosen as they come -/
namespace BC
open PySem PySem.Spec PyProof.Rows L2 Evl
section
variable {K : PySem.W.Frag} {σ : L2.St} {H1 : Hp} {g : TG} {te : TE} {vs : List Nat} {Dl : Addr} {Q : VK}
theorem lc_rngE {lo : Int} {n : Nat} (Pv : Nat → Hp → Prop) (h0 : Pv 0 (upd H1 Dl (.lst [])))
    (hs : ∀ i H, i < n → Pv i H → g (.int (lo + i)) (wipe σ vs) H fun σ2 H2 => wipe σ2 vs = wipe σ vs ∧ te σ2 H2 fun y H4 => ∃ acc, H4 Dl = some (.lst acc) ∧ acc.length < sizeLine ∧ Pv (i + 1) (upd H4 Dl (.lst (acc ++ [y]))))
    (hd : ∀ H, Pv n H → Q (.ref Dl) H) : LcG (Itr lo n) g tYes te vs σ Dl H1 Q := by
  refine lc_g n Pv h0 (fun H h => Nat.le_refl _) (fun i H hi h => hi) (fun i H x H' hi h y => ?_) hd
  obtain ⟨rfl, rfl⟩ := y
  have q := hs i _ hi h
  exact q
theorem lc_listE {a : Addr} {xs : List V} (Pv : Nat → Hp → Prop) (h0 : Pv 0 (upd H1 Dl (.lst []))) (hl : ∀ i H, i ≤ xs.length → Pv i H → SqL K H a xs)
    (hs : ∀ i x H, xs[i]? = some x → Pv i H → g x (wipe σ vs) H fun σ2 H2 => wipe σ2 vs = wipe σ vs ∧ te σ2 H2 fun y H4 => ∃ acc, H4 Dl = some (.lst acc) ∧ acc.length < sizeLine ∧ Pv (i + 1) (upd H4 Dl (.lst (acc ++ [y]))))
    (hd : ∀ H, Pv xs.length H → Q (.ref Dl) H) : LcG (Itl K a) g tYes te vs σ Dl H1 Q := by
  refine lc_g xs.length Pv h0 (fun H h => ⟨xs, hl _ H (Nat.le_refl _) h, Nat.le_refl _⟩) (fun i H hi h => ⟨xs, xs[i], hl i H (by omega) h, List.getElem?_eq_getElem hi⟩) (fun i H x H' hi h y => ?_) hd
  obtain ⟨rfl, hf⟩ := y
  exact hs i x _ (hf xs (hl i _ (by omega) h)) h
end
/-- a fourfold tuple unpacked -/
theorem g_four {K : PySem.W.Frag} {σ : L2.St} {H : Hp} {i j l m : Nat} {T : Addr} {x y z u : V} {QG : L2.St → Hp → Prop} (h : H T = some (.tup [x, y, z, u])) (q : QG ((((σ.set i (some x)).set j (some y)).set l (some z)).set m (some u)) H) : gTup K 4 (gCons (gName i) (gCons (gName j) (gCons (gName l) (gCons (gName m) gNil)))) (.ref T) σ H QG :=
  ⟨T, [x, y, z, u], rfl, .inl (.inl h), rfl, x, [y, z, u], rfl, y, [z, u], rfl, z, [u], rfl, u, [], rfl, rfl, q⟩
theorem revL {H : Hp} {Q : VK} {p : Addr} {xs : List V} (h : H p = some (.lst xs)) (q : Q .non (upd H p (.lst xs.reverse))) : rReverse (.ref p) [] H Q := ⟨p, xs, rfl, rfl, h, q⟩
theorem Sh.mono {n m : Nat} {d : PyData} (h : Sh n d) (e : n ≤ m) : Sh m d := by
  induction h generalizing m with
  | non n => exact .non m
  | bl n b => exact .bl m b
  | int n i => exact .int m i
  | str n x => exact .str m x
  | @lst n ds hl h ih =>
    cases m with
    | zero => omega
    | succ m => exact .lst hl fun d hd => ih d hd (by omega)
  | @tup n ds hl h ih =>
    cases m with
    | zero => omega
    | succ m => exact .tup hl fun d hd => ih d hd (by omega)
end BC

set_option Elab.async false
set_option linter.all false
set_option maxRecDepth 100000
set_option maxHeartbeats 4000000
/-! visits and their trails, lists of numbers, their repr -/
namespace BC
open PySem PySem.Spec PyProof.Rows L2 Evl
/-! ### data whose repr is short -/
structure Tm (d : PyData) : Prop where
  s : d.showable = true
  n : d.hasDict = false
  l : d.leavesShort 13 = true
theorem Tm.int {i : Int} (h : i.natAbs < 10 ^ 12) : Tm (.int i) := ⟨by
  show decide (i.natAbs.log2 < 1920) = true
  refine decide_eq_true ?_
  by_cases z : i.natAbs = 0
  · rw [z]; decide
  · exact (Nat.log2_lt z).mpr (Nat.lt_of_lt_of_le h (by decide +kernel)), rfl, by
  show decide (_ ≤ 13) = true
  exact decide_eq_true (PyData.shown_int_le h)⟩
theorem Tm.all {ds : List PyData} (h : ∀ d ∈ ds, Tm d) : PyData.showableAll ds = true ∧ PyData.hasDictAll ds = false ∧ PyData.leavesShortAll 13 ds = true := by
  induction ds with
  | nil => exact ⟨rfl, rfl, rfl⟩
  | cons d ds ih =>
    have a := h d List.mem_cons_self
    obtain ⟨b1, b2, b3⟩ := ih fun e m => h e (List.mem_cons_of_mem _ m)
    refine ⟨?_, ?_, ?_⟩
    · show (d.showable && _) = true
      rw [a.s, b1]; rfl
    · show (d.hasDict || _) = false
      rw [a.n, b2]; rfl
    · show (d.leavesShort 13 && _) = true
      rw [a.l, b3]; rfl
theorem Tm.list {ds : List PyData} (h : ∀ d ∈ ds, Tm d) : Tm (.list ds) := ⟨by simp only [PyData.showable]; exact (Tm.all h).1, by simp only [PyData.hasDict]; exact (Tm.all h).2.1, by simp only [PyData.leavesShort]; exact (Tm.all h).2.2⟩
theorem Tm.tuple {ds : List PyData} (h : ∀ d ∈ ds, Tm d) : Tm (.tuple ds) := ⟨by simp only [PyData.showable]; exact (Tm.all h).1, by simp only [PyData.hasDict]; exact (Tm.all h).2.1, by simp only [PyData.leavesShort]; exact (Tm.all h).2.2⟩
theorem wt_int {i : Int} (h : i.natAbs < 2 ^ 40) : (PyData.int i).weight ≤ 40 := by
  simp only [PyData.weight]
  split
  · omega
  · next z =>
    have z0 : i.natAbs ≠ 0 := fun e => z (by rw [Int.natAbs_eq_zero.mp e]; rfl)
    have := (Nat.log2_lt z0).mpr h
    omega
theorem wt_all {ds : List PyData} {n : Nat} (h : ∀ d ∈ ds, d.weight ≤ n) : PyData.weightAll ds ≤ (n + 1) * ds.length := by
  induction ds with
  | nil => simp [PyData.weightAll]
  | cons d ds ih =>
    have a := h d List.mem_cons_self
    have b := ih fun e m => h e (List.mem_cons_of_mem _ m)
    simp only [PyData.weightAll, List.length_cons, Nat.mul_add]
    omega
theorem dep_all {ds : List PyData} {n : Nat} (h : ∀ d ∈ ds, d.depth ≤ n) : PyData.depthAll ds ≤ n := by
  induction ds with
  | nil => simp [PyData.depthAll]
  | cons d ds ih =>
    have a := h d List.mem_cons_self
    have b := ih fun e m => h e (List.mem_cons_of_mem _ m)
    simp only [PyData.depthAll]
    omega
section
variable {K : PySem.W.Frag} {H : Hp} {Q : VK} {a : Addr}
theorem reprX {d : PyData} (h : Dp K H (.ref a) d) (t : Tm d) (dp : d.depth ≤ 60) (wt : d.weight ≤ 2 ^ 20) (q : Q (.str d.shown) H) : rRepr K [.ref a] H Q :=
  ⟨a, d, rfl, h, t.s, dp, t.n, PyData.shown_fits (B := 13) (by decide) (by decide) t.l wt, q⟩
/-- what repr of a list of numbers says -/
def shInts (ns : List Int) : Str := (PyData.list (ns.map PyData.int)).shown
theorem reprInts {ns : List Int} (h : SqL K H a (ns.map V.int)) (hs : ∀ n ∈ ns, n.natAbs < 10 ^ 12) (hl : ns.length ≤ 20000) (q : Q (.str (shInts ns)) H) : rRepr K [.ref a] H Q := by
  refine reprX (.lst h (dp_ints ns)) (.list fun d m => ?_) ?_ ?_ q
  · obtain ⟨n, hn, rfl⟩ := List.mem_map.mp m
    exact .int (hs n hn)
  · simp only [PyData.depth]
    have := dep_all (ds := ns.map PyData.int) (n := 0) fun d m => by
      obtain ⟨n, hn, rfl⟩ := List.mem_map.mp m
      simp [PyData.depth]
    omega
  · simp only [PyData.weight]
    have := wt_all (ds := ns.map PyData.int) (n := 40) fun d m => by
      obtain ⟨n, hn, rfl⟩ := List.mem_map.mp m
      exact wt_int (Nat.lt_of_lt_of_le (hs n hn) (by decide +kernel))
    rw [List.length_map] at this
    omega
/-! ### in, index, a part of a list of numbers -/
theorem flat_ints (ns : List Int) : (ns.map V.int).all flatV = true := by
  rw [List.all_eq_true]
  intro x hx
  obtain ⟨n, _, rfl⟩ := List.mem_map.mp hx
  rfl
theorem inV_ints (p : Int) (ns : List Int) : inV (.int p) (ns.map V.int) = decide (p ∈ ns) := by
  unfold inV
  rw [List.any_map]
  by_cases h : p ∈ ns
  · rw [decide_eq_true h, List.any_eq_true]
    exact ⟨p, h, by simp [eqV]⟩
  · rw [decide_eq_false h, List.any_eq_false]
    intro x hx
    have : x ≠ p := fun e => h (e ▸ hx)
    simp [eqV, this]
theorem inL {p : Int} {ns : List Int} (h : SqL K H a (ns.map V.int)) (q : Q (.bl (decide (p ∈ ns))) H) : rIn K false (.int p) (.ref a) H Q :=
  ⟨a, _, rfl, .inl h, rfl, flat_ints ns, by rw [inV_ints]; exact q⟩
theorem ninL {p : Int} {ns : List Int} (h : SqL K H a (ns.map V.int)) (q : Q (.bl (!decide (p ∈ ns))) H) : rIn K true (.int p) (.ref a) H Q :=
  ⟨a, _, rfl, .inl h, rfl, flat_ints ns, by rw [inV_ints]; exact q⟩
theorem idxL {p : Int} {ns : List Int} (h : SqL K H a (ns.map V.int)) (hp : p ∈ ns) (q : Q (.int (ns.idxOf p : Nat)) H) : rIndex K (.ref a) [.int p] H Q := by
  have hl := List.idxOf_lt_length_of_mem hp
  refine ⟨a, _, _, ns.idxOf p, .int p, rfl, rfl, h, rfl, flat_ints ns, ?_, by simp [eqV], fun m z hm hz => ?_, q⟩
  · rw [List.getElem?_map, List.getElem?_eq_getElem hl, List.getElem_idxOf hl]
    rfl
  · rw [List.getElem?_map] at hz
    have hml : m < ns.length := by omega
    rw [List.getElem?_eq_getElem hml] at hz
    cases hz
    have ne : ns[m] ≠ p := fun e => by
      have := List.not_of_lt_findIdx (p := fun x => x == p) (xs := ns) hm
      simp [e] at this
    simp [eqV, ne]
/-- numbers that are kept -/
theorem kept_ints (n : Nat) (k : Nat → Bool) (f : Nat → Int) : ∃ fr : List Int, kept n k (fun i => V.int (f i)) = fr.map V.int ∧ (∀ x ∈ fr, ∃ i, i < n ∧ k i = true ∧ x = f i) ∧ (fr = [] → ∀ i, i < n → k i = false) := by
  induction n with
  | zero => exact ⟨[], rfl, fun x h => (List.not_mem_nil h).elim, fun _ i h => by omega⟩
  | succ n ih =>
    obtain ⟨fr, h1, h2, h3⟩ := ih
    cases c : k n with
    | true =>
      refine ⟨fr ++ [f n], by rw [kept_yes c, h1, List.map_append]; rfl, fun x h => ?_, fun e => by simp at e⟩
      rcases List.mem_append.mp h with h | h
      · obtain ⟨i, a, b⟩ := h2 x h
        exact ⟨i, by omega, b⟩
      · exact ⟨n, by omega, c, List.mem_singleton.mp h⟩
    | false =>
      refine ⟨fr, by rw [kept_no c, h1], fun x h => ?_, fun e i hi => ?_⟩
      · obtain ⟨i, a, b⟩ := h2 x h
        exact ⟨i, by omega, b⟩
      · by_cases q : i = n
        · rw [q]; exact c
        · exact h3 e i (by omega)
theorem rgV_ints (a b : Int) : rgV a b = ((List.range (b - a).toNat).map fun i => a + ((i : Nat) : Int)).map V.int := by
  unfold rgV
  rw [List.map_map]
  rfl
theorem shp_ints (ns : List Int) : SeqAt.shaped (.list (ns.map PyData.int)) = true := by
  have h1 : ∀ ns : List Int, PyData.canLayAll0 (ns.map PyData.int) = true := fun ns => by
    induction ns with
    | nil => simp [PyData.canLayAll0]
    | cons n ns ih => simp [PyData.canLayAll0, PyData.canLay0, ih]
  have h2 := dep_all (ds := ns.map PyData.int) (n := 0) fun d m => by
      obtain ⟨n, hn, rfl⟩ := List.mem_map.mp m
      simp [PyData.depth]
  show (PyData.canLay0 _ && decide (PyData.depth _ ≤ 64)) = true
  rw [Bool.and_eq_true]
  refine ⟨?_, decide_eq_true ?_⟩
  · simp only [PyData.canLay0]; exact h1 ns
  · simp only [PyData.depth]; omega
theorem eqv_ints : ∀ ns ms : List Int, PyData.eqv (.list (ns.map PyData.int)) (.list (ms.map PyData.int)) = decide (ns = ms) := fun ns ms => by
  simp only [PyData.eqv]
  induction ns generalizing ms with
  | nil => cases ms <;> simp [PyData.eqvAll]
  | cons n ns ih =>
    cases ms with
    | nil => simp [PyData.eqvAll]
    | cons m ms =>
      simp only [List.map_cons, PyData.eqvAll, PyData.eqv, ih]
      by_cases h : n = m
      · subst h; simp
      · simp [h]
theorem eqInts {b : Addr} {ns ms : List Int} (h : SqL K H a (ns.map V.int)) (g : SqL K H b (ms.map V.int)) (q : Q (.bl (decide (ns = ms))) H) : rEqD K (.ref a) (.ref b) H Q :=
  ⟨_, _, .lst h (dp_ints ns), .lst g (dp_ints ms), shp_ints ns, shp_ints ms, by rw [eqv_ints]; exact q⟩
theorem neInts {b : Addr} {ns ms : List Int} (h : SqL K H a (ns.map V.int)) (g : SqL K H b (ms.map V.int)) (q : Q (.bl (!decide (ns = ms))) H) : rNeD K (.ref a) (.ref b) H Q :=
  ⟨_, _, .lst h (dp_ints ns), .lst g (dp_ints ms), shp_ints ns, shp_ints ms, by rw [eqv_ints]; exact q⟩
theorem pickI {ns : List Int} {r : Int} (h0 : 0 ≤ r) (h1 : r < ns.length) : ∃ n, n ∈ ns ∧ atI (ns.map V.int) r = some (.int n) := by
  obtain ⟨v, hv, e⟩ := pick (xs := ns.map V.int) h0 (by rw [List.length_map]; exact h1)
  obtain ⟨n, hn, rfl⟩ := List.mem_map.mp hv
  exact ⟨n, hn, e⟩
theorem cut_to (xs : List V) {i : Int} {j : Nat} (e : i = (j : Int)) (h : j ≤ xs.length) : cutV xs none (some i) = xs.take j := by
  subst e
  unfold cutV
  have e1 : HT.sIx xs.length 0 none = 0 := rfl
  rw [HT.sIx_nat, e1, List.drop_zero, Nat.sub_zero, Nat.min_eq_left h]
theorem slL {lo hi : Option Int} {xs : List V} (h : SqL K H a xs) (q : ∀ p, H p = none → Q (.ref p) (upd H p (.lst (cutV xs lo hi)))) : rSlL K (.ref a) lo hi H Q := ⟨a, xs, rfl, h, q⟩
theorem tyLL {xs : List V} (h : SqL K H a xs) : tyV K "list" (.ref a) H := Or.inl ⟨rfl, _, h⟩
end
end BC
namespace TR
/-! ### trails -/
def Pg (w : Int) (l : List Int) : Prop := ∀ x ∈ l, 0 ≤ x ∧ x < w
def vis (t : List Int) (p : Int) : List Int := if p ∈ t then t.take (t.idxOf p + 1) else t ++ [p]
def trl (row : List Int) : List Int := row.foldl vis []
/-- the lengths of the trails -/
def lens (row : List Int) : List Int := (List.range row.length).map fun i => ((trl (row.take (i + 1))).length : Int)
theorem vis_mem {t : List Int} {p x : Int} (h : x ∈ vis t p) : x ∈ t ∨ x = p := by
  unfold vis at h
  split at h
  · exact .inl (List.mem_of_mem_take h)
  · simpa using h
theorem vis_nodup {t : List Int} {p : Int} (h : t.Nodup) : (vis t p).Nodup := by
  unfold vis
  split
  · exact h.sublist (List.take_sublist _ _)
  · next n =>
    rw [List.nodup_append]
    exact ⟨h, List.nodup_cons.mpr ⟨List.not_mem_nil, List.nodup_nil⟩, fun a ha b hb e => n (by simp at hb; rw [← hb, ← e]; exact ha)⟩
theorem vis_pos (t : List Int) (p : Int) : 1 ≤ (vis t p).length := by
  unfold vis
  split
  · next h =>
    have := List.idxOf_lt_length_of_mem h
    rw [List.length_take]; omega
  · rw [List.length_append, List.length_singleton]; omega
theorem vis_le (t : List Int) (p : Int) : (vis t p).length ≤ t.length + 1 := by
  unfold vis
  split
  · rw [List.length_take]; omega
  · rw [List.length_append, List.length_singleton]; omega
theorem vis_pg {w : Int} {t : List Int} {p : Int} (h : Pg w t) (h0 : 0 ≤ p) (h1 : p < w) : Pg w (vis t p) := fun x hx => by
  rcases vis_mem hx with h2 | rfl
  · exact h x h2
  · exact ⟨h0, h1⟩
theorem trl_snoc {row : List Int} {i : Nat} {p : Int} (h : row[i]? = some p) : trl (row.take (i + 1)) = vis (trl (row.take i)) p := by
  unfold trl
  rw [List.take_add_one, h, List.foldl_append]
  rfl
theorem fold_ok {w : Int} : ∀ {row t : List Int}, Pg w row → Pg w t → t.Nodup → Pg w (row.foldl vis t) ∧ (row.foldl vis t).Nodup
  | [], _, _, h2, h3 => ⟨h2, h3⟩
  | p :: row, t, h1, h2, h3 => fold_ok (row := row) (t := vis t p) (fun x hx => h1 x (List.mem_cons_of_mem _ hx)) (vis_pg h2 (h1 p List.mem_cons_self).1 (h1 p List.mem_cons_self).2) (vis_nodup h3)
theorem Pg.take {w : Int} {l : List Int} (h : Pg w l) (n : Nat) : Pg w (l.take n) := fun x hx => h x (List.mem_of_mem_take hx)
theorem Pg.mono {w v : Int} {l : List Int} (h : Pg w l) (e : w ≤ v) : Pg v l := fun x hx => ⟨(h x hx).1, by have := (h x hx).2; omega⟩
theorem Pg.at {w : Int} {l : List Int} (h : Pg w l) {i : Nat} {p : Int} (e : l[i]? = some p) : 0 ≤ p ∧ p < w := h p (List.mem_of_getElem? e)
theorem pg_nil (w : Int) : Pg w [] := fun _ m => (List.not_mem_nil m).elim
theorem trl_pg {w : Int} {row : List Int} (h : Pg w row) : Pg w (trl row) := (fold_ok h (pg_nil w) List.nodup_nil).1
theorem trl_nodup {w : Int} {row : List Int} (h : Pg w row) : (trl row).Nodup := (fold_ok h (pg_nil w) List.nodup_nil).2
/-- so many different pages at most -/
theorem nodup_len : ∀ (n : Nat) {l : List Int}, l.Nodup → Pg n l → l.length ≤ n
  | 0, [], _, _ => Nat.le_refl _
  | 0, x :: l, _, h => by have := h x List.mem_cons_self; omega
  | n + 1, l, h1, h2 => by
    by_cases m : ((n : Nat) : Int) ∈ l
    · have h3 := nodup_len n (l := l.erase (n : Int)) (h1.erase _) (fun x hx => by
        have a := h2 x (List.mem_of_mem_erase hx)
        have b : x ≠ (n : Int) := fun e => by
          rw [h1.mem_erase_iff] at hx
          exact hx.1 e
        omega)
      have := List.length_erase_of_mem m
      omega
    · have h3 := nodup_len n h1 (fun x hx => by
        have a := h2 x hx
        have b : x ≠ (n : Int) := fun e => m (e ▸ hx)
        omega)
      omega
theorem trl_len {n : Nat} {row : List Int} (h : Pg n row) : (trl row).length ≤ n := nodup_len n (trl_nodup h) (trl_pg h)
theorem lens_len (row : List Int) : (lens row).length = row.length := by unfold lens; rw [List.length_map, List.length_range]
theorem lens_at {row : List Int} {i : Nat} (h : i < row.length) : (lens row)[i]? = some ((trl (row.take (i + 1))).length : Int) := by
  unfold lens
  rw [List.getElem?_map, List.getElem?_range h]
  rfl
end TR

set_option Elab.async false
set_option linter.all false
set_option maxRecDepth 100000
set_option maxHeartbeats 4000000
/-! repr of anything that is shown: numbers, texts, None, lists, tuples, empty dicts, at any depth -/
namespace BC
open PySem PySem.Spec PyProof.Rows L2 Evl
mutual
inductive De (K : PySem.W.Frag) (H : Hp) : V → PyData → Prop
  | non : De K H .non .none
  | bl (b : Bool) : De K H (.bl b) (.bool b)
  | int (i : Int) : De K H (.int i) (.int i)
  | str (x : Str) : De K H (.str x) (.str x)
  | lst {a : Addr} {xs : List V} {ds : List PyData} : SqL K H a xs → DeAll K H xs ds → De K H (.ref a) (.list ds)
  | tup {a : Addr} {xs : List V} {ds : List PyData} : SqT K H a xs → DeAll K H xs ds → De K H (.ref a) (.tuple ds)
  | dic {a : Addr} : H a = some (.dK []) → De K H (.ref a) (.dict [])
inductive DeAll (K : PySem.W.Frag) (H : Hp) : List V → List PyData → Prop
  | nil : DeAll K H [] []
  | cons {v : V} {vs : List V} {d : PyData} {ds : List PyData} : De K H v d → DeAll K H vs ds → DeAll K H (v :: vs) (d :: ds)
end
section
variable {X : Cx} {pins : List (Addr × Obj)} {σ : L2.St} {H : Hp} {s : Shared}
/-- what is known of a value that is shown -/
def Shows (X : Cx) (s : Shared) (u : Value) (d : PyData) : Prop :=
  (∃ as, Reads s.heap u d as) ∧ ∃ bs, ReadAtMost s.heap d.depth bs ∧ ReprK X.prog X.w bs s.heap d.depth u d.shown
def ShowsAll (X : Cx) (s : Shared) (us : List Value) (ds : List PyData) : Prop :=
  (∃ as, ReadsAll s.heap us ds as) ∧ ∃ bs, ReadAtMost s.heap (PyData.depthAll ds) bs ∧ ReprAllK X.prog X.w bs s.heap (PyData.depthAll ds) us (PyData.shownAll ds)
theorem empty_dict (I : Inv X pins σ H s) {a : Addr} (e : H a = some (.dK [])) : (a == sysModules) = false ∧ ∃ o n, s.heap.get? a = some o ∧ o.cls = .type "dict" ∧ o.data = .dict #[] n := by
  obtain ⟨_, hs, vs, kv, o, es, ep, ho, hx, hd, _, hm, _⟩ := dk_of I.hok e
  cases kv
  have he : es = #[] := by
    obtain ⟨l⟩ := es
    cases l with
    | nil => rfl
    | cons y l => cases hm
  subst he
  exact ⟨hs, o, ep, ho, hx.1, hd⟩
mutual
theorem De.shows (I : Inv X pins σ H s) : ∀ (d : PyData) (v : V) (u : Value), De X.K H v d → RelV v u → d.showable = true → d.shown.length ≤ sizeLine → Shows X s u d
  | .none, _, _, h, r, _, _ => by
    cases h; cases r
    exact ⟨⟨_, .none⟩, [], (fun _ m => nomatch m), by rw [show PyData.shown .none = ("None" : Str) by simp only [PyData.shown]]; exact .of_is ReprIs.none _ _ _⟩
  | .bool b, _, _, h, r, _, _ => by
    cases h; cases r
    exact ⟨⟨_, .bool b⟩, [], (fun _ m => nomatch m), by simp only [PyData.shown]; exact .of_is (ReprIs.bool b) _ _ _⟩
  | .int i, _, _, h, r, hs, _ => by
    cases h
    obtain ⟨t, rfl⟩ := r
    have h1 : i.natAbs.log2 < 1920 := by simpa [PyData.showable] using hs
    exact ⟨⟨_, .int i t⟩, [], (fun _ m => nomatch m), by simp only [PyData.shown]; exact .of_is (ReprIs.int t h1) _ _ _⟩
  | .str x, _, _, h, r, _, hz => by
    cases h
    obtain ⟨t, rfl⟩ := r
    simp only [PyData.shown] at hz
    exact ⟨⟨_, .str x t⟩, [], (fun _ m => nomatch m), by simp only [PyData.shown]; exact .of_is (ReprIs.str x t hz) _ _ _⟩
  | .list ds, _, _, h, r, hs, hz => by
    cases h with
    | lst hl ha =>
      cases r
      obtain ⟨its, rv, ⟨o, n, ho, hc, _, hd⟩, _⟩ := I.list hl
      simp only [PyData.shown] at hz
      simp only [PyData.showable] at hs
      obtain ⟨⟨as, hr⟩, bs, hb, hk⟩ := DeAll.shows I ds _ its ha rv hs fun t ht => Nat.le_trans (listText_mem_le ht) hz
      have r1 : Reads s.heap _ (.list ds) _ := .list ho hc hd hr
      have na := not_mem_of_deeper r1 (show PyData.depthAll ds < PyData.depth (.list ds) by simp only [PyData.depth]; omega) hb
      refine ⟨⟨_, r1⟩, _ :: bs, ReadAtMost.cons r1 (by simp only [PyData.depth]; omega) hb, ?_⟩
      simp only [PyData.depth, PyData.shown]
      cases its with
      | nil =>
        cases hr
        simp only [PyData.shownAll, listText_nil]
        exact ReprK.listEmpty ho hc hd
      | cons y l => exact ReprK.list ho hc hd na (by simpa using hk.length_eq) (fun i y e => hk.item i y (by simpa using e))
  | .tuple ds, _, _, h, r, hs, hz => by
    cases h with
    | tup hl ha =>
      cases r
      obtain ⟨its, rv, ⟨o, ho, hc, n, hd⟩, _⟩ := I.tuple hl
      simp only [PyData.shown] at hz
      simp only [PyData.showable] at hs
      obtain ⟨⟨as, hr⟩, bs, hb, hk⟩ := DeAll.shows I ds _ its ha rv hs fun t ht => Nat.le_trans (tupleText_mem_le ht) hz
      have r1 : Reads s.heap _ (.tuple ds) _ := .tuple ho hc hd hr
      have na := not_mem_of_deeper r1 (show PyData.depthAll ds < PyData.depth (.tuple ds) by simp only [PyData.depth]; omega) hb
      refine ⟨⟨_, r1⟩, _ :: bs, ReadAtMost.cons r1 (by simp only [PyData.depth]; omega) hb, ?_⟩
      simp only [PyData.depth, PyData.shown]
      exact ReprK.tuple ho hc hd na hk
  | .dict kvs, _, _, h, r, hs, hz => by
    cases h with
    | dic e =>
      cases r
      obtain ⟨hsys, o, n, ho, hc, hd⟩ := empty_dict I e
      have r1 : Reads s.heap _ (.dict []) _ := .dict (kvs := []) ho hc hd .nil .nil
      refine ⟨⟨_, r1⟩, [_], ReadAtMost.cons r1 (Nat.zero_le _) (fun _ m => nomatch m), ?_⟩
      simp only [PyData.depth, PyData.shown, PyData.shownKv, PyData.depthKv]
      exact ReprK.dict ho hc hd hsys List.not_mem_nil .nil
theorem DeAll.shows (I : Inv X pins σ H s) : ∀ (ds : List PyData) (vs : List V) (us : List Value), DeAll X.K H vs ds → Vals vs us → PyData.showableAll ds = true → (∀ t ∈ PyData.shownAll ds, t.length ≤ sizeLine) → ShowsAll X s us ds
  | [], _, _, h, r, _, _ => by
    cases h; cases r
    exact ⟨⟨_, .nil⟩, [], (fun _ m => nomatch m), by simp only [PyData.shownAll]; exact .nil⟩
  | d :: ds, _, _, h, r, hs, hz => by
    cases h with
    | cons h1 h2 =>
      cases r with
      | cons r1 r2 =>
        have hs2 : d.showable = true ∧ PyData.showableAll ds = true := by simpa [PyData.showableAll] using hs
        obtain ⟨⟨as, q1⟩, b1, c1, k1⟩ := De.shows I d _ _ h1 r1 hs2.1 (hz _ (by simp only [PyData.shownAll]; exact List.mem_cons_self))
        obtain ⟨⟨as2, q2⟩, b2, c2, k2⟩ := DeAll.shows I ds _ _ h2 r2 hs2.2 (fun t ht => hz t (by simp only [PyData.shownAll]; exact List.mem_cons_of_mem _ ht))
        refine ⟨⟨_, .cons q1 q2⟩, b1 ++ b2, ReadAtMost.append (c1.mono ?_) (c2.mono ?_), ?_⟩
        · simp only [PyData.depthAll]; omega
        · simp only [PyData.depthAll]; omega
        · simp only [PyData.depthAll, PyData.shownAll]
          exact .cons ((k1.more fun b m => List.mem_append_left _ m).level_le (by omega)) (k2.more_le (fun b m => List.mem_append_right _ m) (by omega))
end
def rReprA (K : PySem.W.Frag) : List V → Hp → VK → Prop := fun xs H Q => ∃ v d, xs = [v] ∧ De K H v d ∧ d.showable = true ∧ d.depth ≤ 60 ∧ d.shown.length ≤ sizeLine ∧ Q (.str d.shown) H
theorem k_reprA {K : PySem.W.Frag} (hK : X.K = K) (g : G0 X.A) (hu : X.A.units + 64 < cLine) : CallR X (.builtin "repr") (rReprA K) := by
  subst hK
  intro pins s σ H xs us Q I r h
  obtain ⟨v, d, rfl, hd, h1, h2, h4, q⟩ := h
  obtain ⟨u, rfl, ru⟩ := vals1 r
  have fin : ∀ (h' : Heap) (t tk : Nat), (∀ b o, s.heap.get? b = some o → h'.get? b = some o) → EP X pins σ Q (.str d.shown t) { s with heap := h', toks := tk } := fun h' t tk hk => ⟨.str _, H, I.kept hk, ⟨_, rfl⟩, q⟩
  cases hd with
  | non =>
    cases ru
    simp only [PyData.shown] at fin
    exact P.repr_of_none (fin s.heap _ _ fun _ _ e => e)
  | bl b =>
    cases ru
    simp only [PyData.shown] at fin
    exact P.repr_of_bool (fin s.heap _ _ fun _ _ e => e)
  | int i =>
    obtain ⟨t, rfl⟩ := ru
    simp only [PyData.shown] at fin
    exact P.repr_of_int (by simpa [PyData.showable] using h1) (fin s.heap _ _ fun _ _ e => e)
  | str x =>
    obtain ⟨t, rfl⟩ := ru
    simp only [PyData.shown] at fin h4
    exact P.repr_of_str (fin s.heap _ _ fun _ _ e => e) h4
  | @lst a ys ds hl ha =>
    cases ru
    obtain ⟨its, rv, ⟨o, n, ho, hc, _, hd⟩, _⟩ := I.list hl
    simp only [PyData.shown] at h4 fin
    simp only [PyData.showable] at h1
    simp only [PyData.depth] at h2
    obtain ⟨⟨as, hr⟩, bs, hb, hk⟩ := DeAll.shows I ds _ its ha rv h1 fun t ht => Nat.le_trans (listText_mem_le ht) h4
    have r1 : Reads s.heap _ (.list ds) _ := .list ho hc hd hr
    have na := not_mem_of_deeper r1 (show PyData.depthAll ds < PyData.depth (.list ds) by simp only [PyData.depth]; omega) hb
    refine call_repr_slot (by omega) ⟨o, ho, hc⟩ PySem.F.slot_list_repr.toG ?_
    cases its with
    | nil =>
      cases hr
      simp only [PyData.shownAll, listText_nil] at fin
      exact call_list_repr_empty ⟨o, ho, hc⟩ ho hd ⟨_, _, rfl, fin s.heap _ _ fun _ _ e => e⟩
    | cons y l => exact call_list_reprK ho hc hd na (by simpa using hk.length_eq) (fun i y e => hk.item i y (by simpa using e)) g (fun b _ => Clear.nil b) (by show X.A.units + 1 + _ < cLine; omega) (fun _ _ e => e) (fun h' u tk k => ⟨_, _, rfl, fin h' u tk k⟩) h4
  | @tup a ys ds hl ha =>
    cases ru
    obtain ⟨its, rv, ⟨o, ho, hc, n, hd⟩, _⟩ := I.tuple hl
    simp only [PyData.shown] at h4 fin
    simp only [PyData.showable] at h1
    simp only [PyData.depth] at h2
    obtain ⟨⟨as, hr⟩, bs, hb, hk⟩ := DeAll.shows I ds _ its ha rv h1 fun t ht => Nat.le_trans (tupleText_mem_le ht) h4
    have r1 : Reads s.heap _ (.tuple ds) _ := .tuple ho hc hd hr
    have na := not_mem_of_deeper r1 (show PyData.depthAll ds < PyData.depth (.tuple ds) by simp only [PyData.depth]; omega) hb
    refine call_repr_slot (by omega) ⟨o, ho, hc⟩ PySem.F.slot_tuple_repr ?_
    exact call_tuple_reprK ho hc hd na hk g (fun b _ => Clear.nil b) (by show X.A.units + 1 + _ < cLine; omega) (fun _ _ e => e) (fun h' u tk k => ⟨_, _, rfl, fin h' u tk k⟩) h4
  | dic e =>
    cases ru
    obtain ⟨hsys, o, n, ho, hc, hd⟩ := empty_dict I e
    simp only [PyData.shown, PyData.shownKv] at h4 fin
    refine call_repr_slot (by omega) ⟨o, ho, hc⟩ PySem.F.slot_dict_repr ?_
    exact call_dict_reprK (as := []) (d := 0) ho hc hd hsys List.not_mem_nil .nil g (fun b _ => Clear.nil b) (by show X.A.units + 1 + _ < cLine; omega) (fun _ _ e => e) (fun h' u tk k => ⟨_, _, rfl, fin h' u tk k⟩) h4
end
/-! ### what is shown stays so, its type, its size -/
section
variable {K : PySem.W.Frag} {H H' : Hp} {Q : VK}
mutual
theorem De.ex (e : Ex H H') : ∀ (d : PyData) (v : V), De K H v d → De K H' v d
  | .none, _, h => by cases h; exact .non
  | .bool _, _, h => by cases h; exact .bl _
  | .int _, _, h => by cases h; exact .int _
  | .str _, _, h => by cases h; exact .str _
  | .dict _, _, h => by
    cases h with
    | dic h1 => exact .dic (e _ _ h1)
  | .list ds, _, h => by
    cases h with
    | lst h1 h2 => exact .lst (ex_l e h1) (DeAll.ex e ds _ h2)
  | .tuple ds, _, h => by
    cases h with
    | tup h1 h2 => exact .tup (ex_t e h1) (DeAll.ex e ds _ h2)
theorem DeAll.ex (e : Ex H H') : ∀ (ds : List PyData) (vs : List V), DeAll K H vs ds → DeAll K H' vs ds
  | [], _, h => by cases h; exact .nil
  | d :: ds, _, h => by
    cases h with
    | cons h1 h2 => exact .cons (De.ex e d _ h1) (DeAll.ex e ds _ h2)
end
theorem De.ty {v : V} {d : PyData} (h : De K H v d) : TyX K H v (.type (tyn d)) := by
  cases h with
  | non => exact .base .non
  | bl b => exact .base (.bl b)
  | int i => exact .base (.int i)
  | str x => exact .base (.str x)
  | lst h _ => exact tyx_l h
  | tup h _ => exact tyx_t h
  | dic h => exact .base (.dK h)
theorem de_ints (ns : List Int) : DeAll K H (ns.map V.int) (ns.map PyData.int) := by
  induction ns with
  | nil => exact .nil
  | cons n ns ih => exact .cons (.int n) ih
theorem DeAll.len {vs : List V} {ds : List PyData} (h : DeAll K H vs ds) : vs.length = ds.length := by
  induction ds generalizing vs with
  | nil => cases h; rfl
  | cons d ds ih =>
    cases h with
    | cons _ h2 => simp [ih h2]
theorem DeAll.at {vs : List V} {ds : List PyData} (h : DeAll K H vs ds) {i : Nat} {v : V} (hv : vs[i]? = some v) : ∃ d, ds[i]? = some d ∧ De K H v d := by
  induction ds generalizing vs i with
  | nil => cases h; simp at hv
  | cons d ds ih =>
    cases h with
    | cons h1 h2 =>
      cases i with
      | zero => cases hv; exact ⟨d, rfl, h1⟩
      | succ i => exact ih h2 (by simpa using hv)
theorem DeAll.app {vs ws : List V} {ds es : List PyData} (h : DeAll K H vs ds) (g : DeAll K H ws es) : DeAll K H (vs ++ ws) (ds ++ es) := by
  induction ds generalizing vs with
  | nil => cases h; exact g
  | cons d ds ih =>
    cases h with
    | cons h1 h2 => exact .cons h1 (ih h2)
/-- shown in few signs -/
structure Gd (n W : Nat) (d : PyData) : Prop where
  s : d.showable = true
  l : d.leavesShort 40 = true
  dp : d.depth ≤ n
  w : d.weight ≤ W
theorem Gd.mono {n W n2 W2 : Nat} {d : PyData} (h : Gd n W d) (a : n ≤ n2) (b : W ≤ W2) : Gd n2 W2 d := ⟨h.s, h.l, Nat.le_trans h.dp a, Nat.le_trans h.w b⟩
theorem Gd.non : Gd 0 0 .none := ⟨rfl, rfl, Nat.le_refl _, Nat.le_refl _⟩
theorem Gd.bl (b : Bool) : Gd 0 0 (.bool b) := ⟨rfl, rfl, Nat.le_refl _, Nat.le_refl _⟩
theorem Gd.dic : Gd 1 0 (.dict []) := ⟨by simp [PyData.showable, PyData.showableKv], by simp [PyData.leavesShort, PyData.leavesShortKv], by simp [PyData.depth, PyData.depthKv], by simp [PyData.weight, PyData.weightKv]⟩
theorem Gd.int {i : Int} (h : i.natAbs < 10 ^ 38) : Gd 0 130 (.int i) := by
  have h2 : i.natAbs < 2 ^ 130 := Nat.lt_trans h (by decide +kernel)
  have hl : i.natAbs.log2 < 130 := log2_small (by decide) h2
  refine ⟨?_, ?_, Nat.le_refl _, ?_⟩
  · show decide (i.natAbs.log2 < 1920) = true
    exact decide_eq_true (by omega)
  · show decide ((PyData.shown (.int i)).length ≤ 40) = true
    refine decide_eq_true ?_
    have e := int_text_length_le10 (k := 38) (by decide) h
    simp only [PyData.shown]
    rw [show ((toString i : String) : Str).length = (toString i).length from PySem.ofString_length _]
    omega
  · simp only [PyData.weight]
    split
    · omega
    · omega
theorem Gd.str {x : Str} (h : (PyData.str x).leavesShort 40 = true) : Gd 0 x.cps.size (.str x) := ⟨rfl, h, Nat.le_refl _, by simp only [PyData.weight]; exact Nat.le_refl _⟩
theorem gd_all {ds : List PyData} {n W : Nat} (h : ∀ d ∈ ds, Gd n W d) : PyData.showableAll ds = true ∧ PyData.leavesShortAll 40 ds = true ∧ PyData.depthAll ds ≤ n ∧ PyData.weightAll ds ≤ (W + 1) * ds.length := by
  induction ds with
  | nil => exact ⟨rfl, rfl, Nat.zero_le _, Nat.zero_le _⟩
  | cons d ds ih =>
    have a := h d List.mem_cons_self
    obtain ⟨b1, b2, b3, b4⟩ := ih fun e m => h e (List.mem_cons_of_mem _ m)
    have := a.dp
    have := a.w
    simp only [PyData.showableAll, PyData.leavesShortAll, PyData.depthAll, PyData.weightAll, List.length_cons, Nat.mul_add, a.s, a.l, b1, b2, Bool.and_self]
    exact ⟨trivial, trivial, by omega, by omega⟩
theorem Gd.list {ds : List PyData} {n W : Nat} (h : ∀ d ∈ ds, Gd n W d) : Gd (n + 1) ((W + 1) * ds.length) (.list ds) := by
  obtain ⟨b1, b2, b3, b4⟩ := gd_all h
  exact ⟨by simp only [PyData.showable]; exact b1, by simp only [PyData.leavesShort]; exact b2, by simp only [PyData.depth]; omega, by simp only [PyData.weight]; exact b4⟩
theorem Gd.tuple {ds : List PyData} {n W : Nat} (h : ∀ d ∈ ds, Gd n W d) : Gd (n + 1) ((W + 1) * ds.length) (.tuple ds) := by
  obtain ⟨b1, b2, b3, b4⟩ := gd_all h
  exact ⟨by simp only [PyData.showable]; exact b1, by simp only [PyData.leavesShort]; exact b2, by simp only [PyData.depth]; omega, by simp only [PyData.weight]; exact b4⟩
theorem Gd.fits {n W : Nat} {d : PyData} (h : Gd n W d) (hW : W ≤ 370000) : d.shown.length ≤ sizeLine := by
  have a := PyData.shown_le 40 (by decide) d h.l
  have b := h.w
  rw [sizeLine_eq]
  omega
theorem reprA {v : V} {d : PyData} {n W : Nat} (h : De K H v d) (g : Gd n W d) (hn : n ≤ 60) (hW : W ≤ 370000) (q : Q (.str d.shown) H) : rReprA K [v] H Q :=
  ⟨v, d, rfl, h, g.s, Nat.le_trans g.dp hn, g.fits hW, q⟩
end
/-! ### values that are shown in few signs; one address hidden -/
def hidB (b : Addr) (H : Hp) : Hp := fun a => if a = b then none else H a
theorem hid_ex {b : Addr} {H : Hp} : Ex (hidB b H) H := fun a o h => by
  unfold hidB at h
  split at h
  · cases h
  · exact h
theorem hid_ne {b a : Addr} {H : Hp} (n : a ≠ b) : hidB b H a = H a := by
  unfold hidB
  rw [if_neg n]
theorem hid_fx {b : Addr} {H H' : Hp} (f : Fx b H H') : Ex (hidB b H) (hidB b H') := fun a o h => by
  unfold hidB at h ⊢
  by_cases e : a = b
  · rw [if_pos e] at h; cases h
  · rw [if_neg e] at h ⊢
    exact f a o e h
theorem hid_of {b : Addr} {H H' : Hp} (e : Ex H H') : Ex (hidB b H) (hidB b H') := hid_fx (fun a o _ h => e a o h)
def Sv (K : PySem.W.Frag) (H : Hp) (n W : Nat) (v : V) : Prop := ∃ d, De K H v d ∧ Gd n W d
section
variable {K : PySem.W.Frag} {H H' : Hp} {Q : VK} {n W : Nat} {v : V}
theorem Sv.ex (h : Sv K H n W v) (e : Ex H H') : Sv K H' n W v := by
  obtain ⟨d, a, g⟩ := h
  exact ⟨d, De.ex e d v a, g⟩
theorem Sv.mono {n2 W2 : Nat} (h : Sv K H n W v) (a : n ≤ n2) (b : W ≤ W2) : Sv K H n2 W2 v := by
  obtain ⟨d, x, g⟩ := h
  exact ⟨d, x, g.mono a b⟩
theorem Sv.non : Sv K H n W .non := ⟨_, .non, Gd.non.mono (Nat.zero_le _) (Nat.zero_le _)⟩
theorem Sv.bl (b : Bool) : Sv K H n W (.bl b) := ⟨_, .bl b, (Gd.bl b).mono (Nat.zero_le _) (Nat.zero_le _)⟩
theorem Sv.int {i : Int} (h : i.natAbs < 10 ^ 38) (hW : 130 ≤ W) : Sv K H n W (.int i) := ⟨_, .int i, (Gd.int h).mono (Nat.zero_le _) hW⟩
theorem Sv.str {x : Str} (h : (PyData.str x).leavesShort 40 = true) (hW : x.cps.size ≤ W) : Sv K H n W (.str x) := ⟨_, .str x, (Gd.str h).mono (Nat.zero_le _) hW⟩
theorem Sv.dic {a : Addr} (h : H a = some (.dK [])) (hn : 1 ≤ n) : Sv K H n W (.ref a) := ⟨_, .dic h, Gd.dic.mono hn (Nat.zero_le _)⟩
theorem sv_all {xs : List V} (h : ∀ x ∈ xs, Sv K H n W x) : ∃ ds, DeAll K H xs ds ∧ (∀ d ∈ ds, Gd n W d) ∧ ds.length = xs.length := by
  induction xs with
  | nil => exact ⟨[], .nil, (fun _ m => nomatch m), rfl⟩
  | cons x xs ih =>
    obtain ⟨d, a, g⟩ := h x List.mem_cons_self
    obtain ⟨ds, b, c, l⟩ := ih fun y m => h y (List.mem_cons_of_mem _ m)
    refine ⟨d :: ds, .cons a b, fun e m => ?_, by simp [l]⟩
    rcases List.mem_cons.mp m with rfl | m
    · exact g
    · exact c e m
theorem Sv.lst {a : Addr} {xs : List V} {W2 n2 : Nat} (h : SqL K H a xs) (hx : ∀ x ∈ xs, Sv K H n W x) (hn : n + 1 ≤ n2) (hW : (W + 1) * xs.length ≤ W2) : Sv K H n2 W2 (.ref a) := by
  obtain ⟨ds, b, c, l⟩ := sv_all hx
  exact ⟨.list ds, .lst h b, (Gd.list c).mono hn (by rw [l]; exact hW)⟩
theorem Sv.tup {a : Addr} {xs : List V} {W2 n2 : Nat} (h : SqT K H a xs) (hx : ∀ x ∈ xs, Sv K H n W x) (hn : n + 1 ≤ n2) (hW : (W + 1) * xs.length ≤ W2) : Sv K H n2 W2 (.ref a) := by
  obtain ⟨ds, b, c, l⟩ := sv_all hx
  exact ⟨.tuple ds, .tup h b, (Gd.tuple c).mono hn (by rw [l]; exact hW)⟩
theorem sv_ints {ns : List Int} (h : ∀ i ∈ ns, i.natAbs < 10 ^ 38) (hW : 130 ≤ W) : ∀ x ∈ ns.map V.int, Sv K H n W x := fun x m => by
  obtain ⟨i, hi, rfl⟩ := List.mem_map.mp m
  exact .int (h i hi) hW
end
/-- a part of a list of numbers is one -/
theorem cut_ints (ns : List Int) (lo hi : Option Int) : ∃ ms : List Int, cutV (ns.map V.int) lo hi = ms.map V.int ∧ ms.length ≤ ns.length ∧ ∀ m ∈ ms, m ∈ ns := by
  have h : ∀ xs : List V, (∀ x ∈ xs, x ∈ ns.map V.int) → ∃ ms : List Int, xs = ms.map V.int ∧ ∀ m ∈ ms, m ∈ ns := fun xs => by
    induction xs with
    | nil => exact fun _ => ⟨[], rfl, fun _ m => nomatch m⟩
    | cons x xs ih =>
      intro hx
      obtain ⟨i, hi, rfl⟩ := List.mem_map.mp (hx x List.mem_cons_self)
      obtain ⟨ms, rfl, hm⟩ := ih fun y m => hx y (List.mem_cons_of_mem _ m)
      refine ⟨i :: ms, rfl, fun m e => ?_⟩
      rcases List.mem_cons.mp e with rfl | e
      · exact hi
      · exact hm m e
  obtain ⟨ms, e, hm⟩ := h _ fun x m => cutV_mem m
  refine ⟨ms, e, ?_, hm⟩
  have := cutV_len (ns.map V.int) lo hi
  rw [e, List.length_map, List.length_map] at this
  exact this
/-! ### new things with the heap left closed -/
section
variable {K : PySem.W.Frag} {H : Hp} {Q : VK}
theorem newE {o : HO} (q : ∀ (p : Addr) (H' : Hp), H p = none → Ex H H' → H' p = some o → Q (.ref p) H') : ∀ p, H p = none → Q (.ref p) (upd H p o) := fun p np => q p _ np (Ex.new np) upd_same
theorem slE {a : Addr} {lo hi : Option Int} {row : List Int} (h : SqL K H a (row.map V.int)) (q : ∀ (p : Addr) (H' : Hp) (ms : List Int), H p = none → Ex H H' → H' p = some (.lst (ms.map V.int)) → ms.length ≤ row.length → (∀ m ∈ ms, m ∈ row) → Q (.ref p) H') : rSlL K (.ref a) lo hi H Q := by
  obtain ⟨ms, e, l, i⟩ := cut_ints row lo hi
  refine slL h fun z nz => ?_
  rw [e]
  exact q z _ ms nz (Ex.new nz) upd_same l i
theorem slXE {a : Addr} {lo hi : Option Int} {xs : List V} (h : SqL K H a xs) (q : ∀ (p : Addr) (H' : Hp) (ys : List V), H p = none → Ex H H' → H' p = some (.lst ys) → ys = cutV xs lo hi → ys.length ≤ xs.length → (∀ m ∈ ys, m ∈ xs) → Q (.ref p) H') : rSlL K (.ref a) lo hi H Q :=
  slL h fun z nz => q z _ _ nz (Ex.new nz) upd_same rfl (cutV_len _ _ _) fun m hm => cutV_mem hm
theorem catE {a b : Addr} {xs ys : List V} (h : H a = some (.lst xs)) (hb : H b = some (.lst ys)) (hz : xs.length + ys.length ≤ 100000) (q : ∀ (p : Addr) (H' : Hp), H p = none → Ex H H' → H' p = some (.lst (xs ++ ys)) → Q (.ref p) H') : rCat (.ref a) (.ref b) H Q :=
  catL h hb (sz_ok hz) (newE q)
theorem repE {a : Addr} {xs : List V} {k : Nat} (h : H a = some (.lst xs)) (hk : k ≤ 100000) (hz : xs.length * k ≤ 100000) (q : ∀ (p : Addr) (H' : Hp), H p = none → Ex H H' → H' p = some (.lst (List.replicate k xs).flatten) → Q (.ref p) H') : rRep (.ref a) (.int k) H Q :=
  repL h (by omega) (by omega) (sz_ok (by simpa using hz)) (by simpa using newE q)
theorem lstE {xs : List V} (hz : xs.length ≤ 100000) (q : ∀ (p : Addr) (H' : Hp), H p = none → Ex H H' → H' p = some (.lst xs) → Q (.ref p) H') : xs.length ≤ sizeLine ∧ ∀ p, H p = none → Q (.ref p) (upd H p (.lst xs)) := ⟨sz_ok hz, newE q⟩
theorem tupE {xs : List V} (hz : xs.length ≤ 100000) (q : ∀ (p : Addr) (H' : Hp), H p = none → Ex H H' → H' p = some (.tup xs) → Q (.ref p) H') : xs.length ≤ sizeLine ∧ ∀ p, H p = none → Q (.ref p) (upd H p (.tup xs)) := ⟨sz_ok hz, newE q⟩
end
end BC

set_option Elab.async false
set_option linter.all false
set_option maxRecDepth 100000
set_option maxHeartbeats 4000000
/-! defs with one keyword-only parameter that has a default -/
namespace BC
open PySem PySem.Spec PyProof.Rows L2 Evl
theorem kwd1 {K : PySem.W.Frag} {x qual : Str} {st : Stmt} {f D : Addr} {ps : List Str} {nm : Str} {v : V} {u : Value} {n : Nat} {oc : Value} {od : Option Addr} {doc pm : Value} {an : Option Addr} {cdv ct : Value} {osl : Array (Option Value)}
    (lk : K.lookup f = some ⟨oc, od, .func (PySem.W.fnOf x qual (defArgs st) (defBody st) (defScope st) .none (.ref D) doc pm an cdv ct), osl⟩) (hcd : PySem.W.codeIn K cdv qual = true) (kp : PySem.W.keepIn K (.ref f) = true)
    (hq : PySem.W.nsIn K D nm = some (some u)) (hr : RelV v u) (hn : n + 1 = ps.length)
    (h : ∀ (D : Addr) (doc pm : Value) (an : Option Addr) (cdv ct : Value) (us ks : List Value), us.length = n → ks.length = 1 →
      KwChain D ([nm].zip ks) (bindArgs (PySem.W.fnOf x qual (defArgs st) (defBody st) (defScope st) .none (.ref D) doc pm an cdv ct) ⟨us, []⟩) (ps.zip (us ++ ks))) :
    ∃ ds, Vals [v] ds ∧ Binds K (PySem.W.fnOf x qual (defArgs st) (defBody st) (defScope st) .none (.ref D) doc pm an cdv ct) ps ds := by
  have F : FunD K x qual (defArgs st) (defBody st) (defScope st) [] [(nm, v)] f (PySem.W.fnOf x qual (defArgs st) (defBody st) (defScope st) .none (.ref D) doc pm an cdv ct) :=
    ⟨⟨oc, od, _, _, doc, pm, an, cdv, ct, osl, rfl, lk, hcd, .inl ⟨rfl, rfl⟩, .inr ⟨D, rfl, fun q hm => by
      obtain rfl : q = (nm, v) := by simpa using hm
      exact ⟨u, hq, hr⟩⟩⟩, kp⟩
  have z := F.binds0 n (by simp) (by simpa using hn) h
  exact z
/-! ### the bag of draws: a list of three numbers -/
def BagAt (H : Hp) (b : Addr) (c : Nat) : Prop := ∃ x0 x1 x2 : Int, H b = some (.lst [.int x0, .int x1, .int x2]) ∧ 0 ≤ x1 ∧ x1 < 10 ^ 65 ∧ 0 ≤ x2 ∧ x2 ≤ c
theorem BagAt.ex {H H' : Hp} {b : Addr} {c : Nat} (h : BagAt H b c) (e : Ex H H') : BagAt H' b c := by
  obtain ⟨x0, x1, x2, hb, r⟩ := h
  exact ⟨x0, x1, x2, e _ _ hb, r⟩
theorem BagAt.mono {H : Hp} {b : Addr} {c d : Nat} (h : BagAt H b c) (e : c ≤ d) : BagAt H b d := by
  obtain ⟨x0, x1, x2, hb, h1, h2, h3, h4⟩ := h
  exact ⟨x0, x1, x2, hb, h1, h2, h3, by omega⟩
theorem BagAt.some {H : Hp} {b : Addr} {c : Nat} (h : BagAt H b c) : ∃ o, H b = Option.some o := by
  obtain ⟨x0, x1, x2, hb, _⟩ := h
  exact ⟨_, hb⟩
theorem BagAt.apart {H : Hp} {b z : Addr} {c : Nat} (h : BagAt H b c) (nz : H z = none) : z ≠ b := fun e => by
  obtain ⟨o, ho⟩ := h.some
  subst e
  rw [ho] at nz
  cases nz
theorem BagAt.off {H : Hp} {b z : Addr} {c : Nat} {o : HO} (h : BagAt H b c) (nz : z ≠ b) : BagAt (upd H z o) b c := by
  obtain ⟨x0, x1, x2, hb, r⟩ := h
  exact ⟨x0, x1, x2, by rw [upd_ne (Ne.symm nz)]; exact hb, r⟩
theorem BagAt.ne {H : Hp} {b z : Addr} {c : Nat} (h : BagAt H b c) (nb : H z = none) : b ≠ z := fun e => h.apart nb e.symm
/-- the greatest number of ways that is drawn from -/
def BIG : Int := 2 ^ 2000
theorem big_of {m : Int} (h : m ≤ 100000) : m ≤ BIG := Int.le_trans h (by decide +kernel)
theorem big_lt {m : Int} (h : 0 < m) (h2 : m ≤ BIG) : m.natAbs < 2 ^ 2001 := by
  have a : m.natAbs ≤ BIG.natAbs := by omega
  exact Nat.lt_of_le_of_lt a (by decide +kernel)
def spDraw : Sp := fun vs H Q _ => ∃ (b : Addr) (m : Int) (c : Nat), vs = [.ref b, .int m] ∧ 0 < m ∧ m ≤ BIG ∧ BagAt H b c ∧ c ≤ 1000000 ∧ ∀ r H', 0 ≤ r → r < m → Fx b H H' → BagAt H' b (c + 1) → Q (.int r) H'
/-! ### lists of lists of numbers, shown -/
def dLL (ls : List (List Int)) : PyData := .list (ls.map fun l => .list (l.map PyData.int))
theorem tm_ints {l : List Int} (h : ∀ x ∈ l, x.natAbs < 10 ^ 12) : Tm (.list (l.map PyData.int)) := .list fun d m => by
  obtain ⟨x, hx, rfl⟩ := List.mem_map.mp m
  exact .int (h x hx)
theorem wt_ints {l : List Int} (h : ∀ x ∈ l, x.natAbs < 10 ^ 12) : (PyData.list (l.map PyData.int)).weight ≤ 41 * l.length := by
  simp only [PyData.weight]
  have := wt_all (ds := l.map PyData.int) (n := 40) fun d m => by
      obtain ⟨n, hn, rfl⟩ := List.mem_map.mp m
      exact wt_int (Nat.lt_of_lt_of_le (h n hn) (by decide +kernel))
  rw [List.length_map] at this
  exact this
theorem dp_ll {K : PySem.W.Frag} {H : Hp} {ps : List Addr} : ∀ {ls : List (List Int)}, ps.length = ls.length → (∀ (i : Nat) (p : Addr) (l : List Int), ps[i]? = some p → ls[i]? = some l → SqL K H p (l.map V.int)) → DpAll K H (ps.map V.ref) (ls.map fun l => PyData.list (l.map PyData.int)) := fun {ls} => by
  induction ps generalizing ls with
  | nil =>
    intro h _
    cases ls with
    | nil => exact .nil
    | cons l ls => simp at h
  | cons p ps ih =>
    intro h g
    cases ls with
    | nil => simp at h
    | cons l ls => exact .cons (.lst (g 0 p l rfl rfl) (dp_ints l)) (ih (by simpa using h) fun i q m a b => g (i + 1) q m (by rw [List.getElem?_cons_succ]; exact a) (by rw [List.getElem?_cons_succ]; exact b))
theorem reprLL {K : PySem.W.Frag} {H : Hp} {Q : VK} {a : Addr} {ls : List (List Int)} {n : Nat} (h : Dp K H (.ref a) (dLL ls)) (hv : ∀ l ∈ ls, ∀ x ∈ l, x.natAbs < 10 ^ 12) (hl : ∀ l ∈ ls, l.length ≤ n) (hz : (41 * n + 1) * ls.length ≤ 2 ^ 20) (q : Q (.str (dLL ls).shown) H) : rRepr K [.ref a] H Q := by
  refine reprX h (.list fun d m => ?_) ?_ ?_ q
  · obtain ⟨l, hm, rfl⟩ := List.mem_map.mp m
    exact tm_ints (hv l hm)
  · unfold dLL
    simp only [PyData.depth]
    have := dep_all (ds := ls.map fun l => PyData.list (l.map PyData.int)) (n := 1) fun d m => by
      obtain ⟨l, hm, rfl⟩ := List.mem_map.mp m
      simp only [PyData.depth]
      have := dep_all (ds := l.map PyData.int) (n := 0) fun d m => by
        obtain ⟨x, hx, rfl⟩ := List.mem_map.mp m
        simp [PyData.depth]
      omega
    omega
  · unfold dLL
    simp only [PyData.weight]
    have := wt_all (ds := ls.map fun l => PyData.list (l.map PyData.int)) (n := 41 * n) fun d m => by
      obtain ⟨l, hm, rfl⟩ := List.mem_map.mp m
      exact Nat.le_trans (wt_ints (hv l hm)) (Nat.mul_le_mul_left _ (hl l hm))
    rw [List.length_map] at this
    omega
theorem k_lenSet {X : Cx} {K : PySem.W.Frag} {a : Expr} {ta : TE} {p p2 q pos : Pos} (hK : X.K = K) (hg : Gl X "len") (hm : X.mg "len" = none) (hg2 : Gl X "set") (hm2 : X.mg "set" = none) (ha : PE X a ta) (hc : X.calm = true := by rfl)
    (na : starEach [a] X.env = (false, eval a X.env) :: starEach [] X.env := by rfl) : PE X (.Call (.Name "len" p) [.Call (.Name "set" p2) [a] [] q] [] pos) (RZ.tLenSetI K ta) := by subst hK; exact RZ.pe_lenSetI hg hm hg2 hm2 ha hc na
theorem x_lenSet {K : PySem.W.Frag} {ta : TE} {σ : L2.St} {H : Hp} {Q : VK} : RZ.tLenSetI K ta σ H Q = ta σ H fun x H1 => ∃ (l : Addr) (ns : List Int), x = .ref l ∧ SqL K H1 l (ns.map V.int) ∧ ns.Nodup ∧ ns.length ≤ 4000 ∧ Q (.int (ns.length : Nat)) H1 := rfl
end BC

set_option Elab.async false
set_option linter.all false
set_option maxRecDepth 100000
set_option maxHeartbeats 4000000
/-! sorted(set(xs)) of a list of numbers -/
namespace BC
open PySem PySem.Spec PyProof.Rows L2 Evl RZ
/-- the set that set() starts with -/
abbrev set0 (w : World) : Obj := { cls := .type "set", dict := none, data := .set #[] 0 (.fresh 0 0 (!w.params.followText "set-order")) }
abbrev with0 (w : World) (s : Shared) : Shared := { s with heap := s.heap.push (set0 w) }
section
variable {P : Program} {w : World} {A : Around} {E : Value → Shared → Prop} {s : Shared}
set_option maxHeartbeats 3200000 in
theorem set_of_list {l : Addr} {its : Array Value} (ns : List Int) {Q : Value → Shared → Prop} (hh : A.handled = none) (hl : s.heap.IsList l its) (hit : IntsAre its.toList ns) (hb : ns.length + 1 < scanBound)
    (fin : ∀ (h' : Heap) (tk c : Nat), SetR w h' s.heap.objs.size (fun j => decide (j ∈ ns)) c → c ≤ ns.length → (∀ b o, s.heap.get? b = some o → h'.get? b = some o) → Q (.ref s.heap.objs.size) { s with heap := h', toks := tk }) :
    wpAny (model P w) A (call (.type "set") [.ref l]) Q E s := by
  have many : its.size = ns.length := by rw [← IntsAre.length hit, Array.length_toList]
  obtain ⟨c, tl, hmro⟩ := F.called_set.mro
  have m1 := F.called_set.made
  have m2 := F.called_set.sub
  refine wpAny_call (codeAny_of_tree (wpAny_pure ⟨Code.quiet_builtin _ (by decide +kernel), codeAny_builtin F.entry_type_call ?_⟩))
  rw [Around.under_plain (weight_type_call_type "set" [.ref l] []) rfl]
  have m3 := F.called_set.notType
  have m4 := F.called_set.canCreate
  have m5 := F.typeCall_set_1 (.ref l)
  repeat (any_goals (first | assumption | wp_step))
  refine codeAny_mono (code_set_led1 (.ref l) (E := E) (Q₁ := fun obj s₁ => obj = .ref s.heap.objs.size ∧ s₁ = with0 w s) ⟨rfl, rfl⟩) fun r s₁ hr => ?_
  match r, hr with
  | .error e, hr => exact hr
  | .ok .next, hr => exact hr.elim
  | .ok .brk, hr => exact hr.elim
  | .ok .cont, hr => exact hr.elim
  | .ok (.ret obj), hr =>
    obtain ⟨rfl, rfl⟩ := hr
    have at0 : (s.heap.push (set0 w)).get? s.heap.objs.size = some (set0 w) := Heap.get?_push_size _ rfl
    have ty0 : Shared.TypeIs (with0 w s) (.ref s.heap.objs.size) "set" := ⟨_, at0, rfl⟩
    have i1 := F.called_set.init.lookup
    have i2 := F.called_set.init.bind (.ref s.heap.objs.size)
    repeat (any_goals (first | assumption | wp_step))
    refine codeAny_mono (codeAny_call_builtin (R := wants (fun r s₂ => r = .none ∧ ∃ h' tk c, s₂ = { s with heap := h', toks := tk } ∧ SetR w h' s.heap.objs.size (fun j => decide (j ∈ ns)) c ∧ c ≤ ns.length ∧ (∀ b o, s.heap.get? b = some o → h'.get? b = some o)) E)
      F.called_set.init.plain F.entry_set_init (check_set_init_1 ty0 ?_)) fun r₂ s₂ hr₂ => ?_
    · obtain ⟨⟨oc, od, dt, osl⟩, old, e1, nl, e2⟩ := hl
      obtain rfl : oc = .type "list" := e1
      obtain rfl : dt = .seq its nl := e2
      have pushed := Heap.get?_push_of_some (set0 w) old
      have isl : (s.heap.push (set0 w)).IsList l its := ⟨_, pushed, rfl, nl, rfl⟩
      have k1 := F.sub_list_set
      have k2 := F.sub_list_frozenset
      have k3 : (Value.type "list" == Value.type "dict") = false := by decide
      have hltl : l < s.heap.objs.size := Heap.lt_size old
      unfold Builtin.«set.__init__» noKeywords Builtin.Frozenset.updateFrom
      generalize hPI : pyIter = PI
      wp_walk
      subst hPI
      refine wpAny_pyIter_list isl (wpAny_bind (wpAny_runValue ?_))
      have calm3 : A.in1.in1.in1.handled = none := by simp [hh]
      have psz : (s.heap.push (set0 w)).objs.size = s.heap.objs.size + 1 := Heap.size_push ..
      have apart : l ≠ (s.heap.push (set0 w)).objs.size := fun z => Nat.lt_irrefl l (by rw [psz] at z; exact Nat.lt_of_lt_of_le hltl (by rw [z]; exact Nat.le_succ _))
      have away : s.heap.objs.size ∉ [(s.heap.push (set0 w)).objs.size, l] := by
        rw [psz]
        intro z
        simp only [List.mem_cons, List.mem_nil_iff, or_false] at z
        rcases z with z | z
        · exact absurd z (Nat.ne_of_lt (Nat.lt_succ_self _))
        · exact absurd z (Nat.ne_of_gt hltl)
      have items : ∀ (i : Nat) (v : Value), its[i]? = some v → ∃ k t, ns[i]? = some k ∧ v = .int k t := fun i v hv => by
        have hi : i < ns.length := by rw [← many]; exact (Array.getElem?_eq_some_iff.mp hv).1
        obtain ⟨t, e⟩ := IntsAre.int_at hit i v (by rw [Array.getElem?_toList]; exact hv)
        refine ⟨ns[i], t, List.getElem?_eq_getElem hi, ?_⟩
        rw [e, List.getD_eq_getElem?_getD, List.getElem?_eq_getElem hi]
        rfl
      refine set_update_ints ((Walks.list calm3 _ l apart its).toS) s.heap.objs.size away ns many hb items its.size 0 _ (by omega) (Nat.zero_le _) ⟨⟨_, Heap.get?_push_size _ rfl, rfl, rfl⟩, (isl.push _)⟩ ⟨0, Nat.le_refl 0, ?_⟩ fun s' c' mv hc' hS' => ?_
      · exact setR_new_at (Heap.get?_push_of_some _ at0)
      · obtain ⟨h', g2, d', tk', os'⟩ := s'
        obtain rfl : g2 = s.gens := mv.gens
        obtain rfl : d' = s.drawn := mv.drawn
        obtain rfl : os' = s.os := mv.os
        refine wpAny_pure (wpAny_pure ⟨rfl, h', tk', c', rfl, hS', by rw [many] at hc'; exact hc', fun b o e => ?_⟩)
        have lt := Heap.lt_size e
        refine mv.heap b o ?_ (Heap.get?_push_of_some _ (Heap.get?_push_of_some _ e))
        intro z
        rw [psz] at z
        simp only [List.mem_cons, List.mem_nil_iff, or_false] at z
        rcases z with z | z
        · exact absurd z (Nat.ne_of_lt lt)
        · exact absurd z (Nat.ne_of_lt (Nat.lt_succ_of_lt lt))
    · match r₂, hr₂ with
      | .error e, hr₂ => exact hr₂
      | .ok .next, hr₂ => exact hr₂.elim
      | .ok .brk, hr₂ => exact hr₂.elim
      | .ok .cont, hr₂ => exact hr₂.elim
      | .ok (.ret r), hr₂ =>
        obtain ⟨rfl, h', tk, c', rfl, q1, q2, q3⟩ := hr₂
        repeat (any_goals (first | assumption | wp_step))
        exact fin _ _ _ q1 q2 q3
end
section
variable {X : Cx} {K : PySem.W.Frag} {a : Expr} {ta : TE} {p p2 q pos : Pos}
/-- sorted(set(xs)): the different numbers in order -/
def tSortSet (K : PySem.W.Frag) (ta : TE) : TE := fun σ H Q => ta σ H fun x H1 => ∃ (l : Addr) (ns : List Int), x = .ref l ∧ SqL K H1 l (ns.map V.int) ∧ ns.length < 64 ∧
  ∀ (ms : List Int) r, ms.Pairwise (· < ·) → (∀ k : Int, k ∈ ms ↔ k ∈ ns) → H1 r = none → Q (.ref r) (upd H1 r (.lst (ms.map V.int)))
theorem k_sortSet (hK : X.K = K) (hg : Gl X "sorted") (hm : X.mg "sorted" = none) (hg2 : Gl X "set") (hm2 : X.mg "set" = none) (ha : PE X a ta) (hc : X.calm = true := by rfl)
    (na : starEach [a] X.env = (false, eval a X.env) :: starEach [] X.env := by rfl) : PE X (.Call (.Name "sorted" p) [.Call (.Name "set" p2) [a] [] q] [] pos) (tSortSet K ta) := by
  subst hK
  refine ⟨fun pins s σ H Q I h => ?_⟩
  refine Call_ (ld_blt I hg hm (show bootBuiltins ("sorted" : Str) = some (.builtin "sorted") by decide +kernel) ?_)
  refine callWith_builtin1 (args_cons ?_ rfl) rfl rfl
  refine Call_ (ld_blt I hg2 hm2 boot_set ?_)
  refine callWith_type1 (args_cons (thn (ha.run pins s σ H _ I h) fun v s1 ⟨x, H1, I1, r1, q1⟩ => args_nil ?_) na) na rfl
  obtain ⟨l, ns, rfl, hq, hl, q1⟩ := q1
  cases r1
  obtain ⟨its, r, pl, hz⟩ := I1.list hq
  refine set_of_list ns (I1.ok.hd hc) pl.isList (by simpa using intsAre_vals r) (by unfold scanBound; omega) fun h' tk c hS hcl hk => ?_
  refine args_nil ?_
  have I2 : Inv X pins σ H1 { s1 with heap := h', toks := tk } := I1.kept hk
  refine sorted_set hS (I2.ok.hd hc) (by omega) fun s' p out c2 ms k g o hp hg hi hs hm hlen => ?_
  have few : (ms.map V.int).length ≤ sizeLine := by rw [List.length_map, hlen, sizeLine_eq]; omega
  have hn : H1 p = none := I2.hok.fresh hp
  have J : Inv X pins σ (upd H1 p (.lst (ms.map V.int))) { ({ s1 with heap := h', toks := tk } : Shared) with heap := s'.heap, gens := s'.gens, drawn := s'.drawn, toks := s'.toks } :=
    I2.call (ch := []) (Un.laid k hp hn) (I2.hok.laid k hp ⟨few, out.toList, c2, vals_of_ints hi, hg⟩) (by rw [g]; exact I2.bare) (fun _ z => nomatch z)
  have e : s' = { ({ s1 with heap := h', toks := tk } : Shared) with heap := s'.heap, gens := s'.gens, drawn := s'.drawn, toks := s'.toks } := by
    cases s'
    cases o
    rfl
  rw [e]
  exact ⟨.ref p, _, J, rfl, q1 ms p hs (fun k => by rw [hm k, decide_eq_true_eq]) hn⟩
theorem x_sortSet {σ : L2.St} {H : Hp} {Q : VK} : tSortSet K ta σ H Q = ta σ H fun x H1 => ∃ (l : Addr) (ns : List Int), x = .ref l ∧ SqL K H1 l (ns.map V.int) ∧ ns.length < 64 ∧
  ∀ (ms : List Int) r, ms.Pairwise (· < ·) → (∀ k : Int, k ∈ ms ↔ k ∈ ns) → H1 r = none → Q (.ref r) (upd H1 r (.lst (ms.map V.int))) := rfl
end
/-- two ascending lists of the same numbers are the same -/
theorem asc_same : ∀ {a b : List Int}, a.Pairwise (· < ·) → b.Pairwise (· < ·) → (∀ k : Int, k ∈ a ↔ k ∈ b) → a = b
  | [], [], _, _, _ => rfl
  | [], y :: b, _, _, h => absurd ((h y).mpr List.mem_cons_self) List.not_mem_nil
  | x :: a, [], _, _, h => absurd ((h x).mp List.mem_cons_self) List.not_mem_nil
  | x :: a, y :: b, ha, hb, h => by
    rw [List.pairwise_cons] at ha hb
    have xy : x = y := by
      have h1 := (h x).mp List.mem_cons_self
      have h2 := (h y).mpr List.mem_cons_self
      rcases List.mem_cons.mp h1 with e | e
      · exact e
      · rcases List.mem_cons.mp h2 with e2 | e2
        · exact e2.symm
        · have := ha.1 y e2
          have := hb.1 x e
          omega
    subst xy
    rw [asc_same ha.2 hb.2 fun k => ⟨fun m => by
      rcases List.mem_cons.mp ((h k).mp (List.mem_cons_of_mem _ m)) with e | e
      · subst e; have := ha.1 k m; omega
      · exact e, fun m => by
      rcases List.mem_cons.mp ((h k).mpr (List.mem_cons_of_mem _ m)) with e | e
      · subst e; have := hb.1 k m; omega
      · exact e⟩]
end BC

set_option Elab.async false
set_option linter.all false
set_option maxRecDepth 100000
set_option maxHeartbeats 4000000
/-! sorted(set(xs)), len(set(xs)) of a longer list of numbers, with doubles -/
namespace BC
open PySem PySem.Spec PyProof.Rows L2 Evl RZ
theorem sub_len : ∀ {a b : List Int}, a.Nodup → (∀ x ∈ a, x ∈ b) → a.length ≤ b.length
  | [], _, _, _ => Nat.zero_le _
  | x :: a, b, nd, h => by
    rw [List.nodup_cons] at nd
    have hx := h x List.mem_cons_self
    have ih := sub_len (a := a) (b := b.erase x) nd.2 fun y hy => (List.mem_erase_of_ne (fun e => nd.1 (by rw [← e]; exact hy))).mpr (h y (List.mem_cons_of_mem _ hy))
    rw [List.length_erase_of_mem hx] at ih
    have := List.length_pos_of_mem hx
    rw [List.length_cons]
    omega
theorem dup_len {a b : List Int} (nd : a.Nodup) (h : ∀ x ∈ a, x ∈ b) (g : ∀ x ∈ b, x ∈ a) (e : a.length = b.length) : b.Nodup := by
  induction b generalizing a with
  | nil => exact List.nodup_nil
  | cons y b ih =>
    have hy := g y List.mem_cons_self
    have el := List.length_erase_of_mem hy
    have pos := List.length_pos_of_mem hy
    by_cases q : y ∈ b
    · have : a.length ≤ b.length := sub_len nd fun x hx => by
        rcases List.mem_cons.mp (h x hx) with rfl | m
        · exact q
        · exact m
      rw [List.length_cons] at e
      omega
    · rw [List.nodup_cons]
      refine ⟨q, ih (a := a.erase y) (nd.erase y) (fun x hx => ?_) (fun x hx => ?_) ?_⟩
      · have hne := (List.Nodup.mem_erase_iff nd).mp hx
        rcases List.mem_cons.mp (h x hne.2) with rfl | m
        · exact absurd rfl hne.1
        · exact m
      · exact (List.Nodup.mem_erase_iff nd).mpr ⟨fun z => q (by rw [← z]; exact hx), g x (List.mem_cons_of_mem _ hx)⟩
      · rw [List.length_cons] at e
        omega
theorem range_len {a : List Int} {m : Nat} (nd : a.Nodup) (h : ∀ x ∈ a, 0 ≤ x ∧ x < m) : a.length ≤ m := by
  have := sub_len (b := (List.range m).map fun i : Nat => (i : Int)) nd fun x hx => by
    have := h x hx
    exact List.mem_map.mpr ⟨x.toNat, List.mem_range.mpr (by omega), by show ((x.toNat : Nat) : Int) = x; omega⟩
  rw [List.length_map, List.length_range] at this
  exact this
section
variable {w : World} {h : Heap} {a : Addr} {S : Int → Bool} {n m : Nat}
theorem setR_few (R : SetR w h a S n) (hb : ∀ k, S k = true → 0 ≤ k ∧ k < m) : n ≤ m := by
  obtain ⟨o, es, ep, t, ho, hex, hd, g, nd, hm, hbd, hf, hn, hr, hl⟩ := R
  have := range_len (m := m) nd fun x hx => hb x ((hm x).mpr hx)
  rw [List.length_map, Array.length_toList] at this
  omega
theorem setR_count {ns : List Int} (R : SetR w h a (fun j => decide (j ∈ ns)) n) : n = ns.length ↔ ns.Nodup := by
  obtain ⟨o, es, ep, t, ho, hex, hd, g, nd, hm, hbd, hf, hn, hr, hl⟩ := R
  have sub : ∀ x ∈ es.toList.map keyOf, x ∈ ns := fun x hx => of_decide_eq_true ((hm x).mpr hx)
  have sup : ∀ x ∈ ns, x ∈ es.toList.map keyOf := fun x hx => (hm x).mp (decide_eq_true hx)
  have e1 : (es.toList.map keyOf).length = n := by rw [List.length_map, Array.length_toList]; exact hn
  constructor
  · intro e
    exact dup_len nd sub sup (by rw [e1]; exact e)
  · intro q
    have := sub_len q sup
    have := sub_len nd sub
    omega
end
section
variable {X : Cx} {K : PySem.W.Frag} {a : Expr} {ta : TE} {p p2 q pos : Pos}
/-- sorted(set(xs)): numbers below 60, as many as there are -/
def tSortSetB (K : PySem.W.Frag) (ta : TE) : TE := fun σ H Q => ta σ H fun x H1 => ∃ (l : Addr) (ns : List Int), x = .ref l ∧ SqL K H1 l (ns.map V.int) ∧ ns.length ≤ 4000 ∧ (∀ k ∈ ns, 0 ≤ k ∧ k < (60 : Nat)) ∧
  ∀ (ms : List Int) r, ms.Pairwise (· < ·) → (∀ k : Int, k ∈ ms ↔ k ∈ ns) → H1 r = none → Q (.ref r) (upd H1 r (.lst (ms.map V.int)))
theorem k_sortSetB (hK : X.K = K) (hg : Gl X "sorted") (hm : X.mg "sorted" = none) (hg2 : Gl X "set") (hm2 : X.mg "set" = none) (ha : PE X a ta) (hc : X.calm = true := by rfl)
    (na : starEach [a] X.env = (false, eval a X.env) :: starEach [] X.env := by rfl) : PE X (.Call (.Name "sorted" p) [.Call (.Name "set" p2) [a] [] q] [] pos) (tSortSetB K ta) := by
  subst hK
  refine ⟨fun pins s σ H Q I h => ?_⟩
  refine Call_ (ld_blt I hg hm (show bootBuiltins ("sorted" : Str) = some (.builtin "sorted") by decide +kernel) ?_)
  refine callWith_builtin1 (args_cons ?_ rfl) rfl rfl
  refine Call_ (ld_blt I hg2 hm2 boot_set ?_)
  refine callWith_type1 (args_cons (thn (ha.run pins s σ H _ I h) fun v s1 ⟨x, H1, I1, r1, q1⟩ => args_nil ?_) na) na rfl
  obtain ⟨l, ns, rfl, hq, hl, hb, q1⟩ := q1
  cases r1
  obtain ⟨its, r, pl, hz⟩ := I1.list hq
  refine set_of_list ns (I1.ok.hd hc) pl.isList (by simpa using intsAre_vals r) (by unfold scanBound; omega) fun h' tk c hS hcl hk => ?_
  refine args_nil ?_
  have I2 : Inv X pins σ H1 { s1 with heap := h', toks := tk } := I1.kept hk
  have few60 := setR_few (m := 60) hS fun k hk => hb k (of_decide_eq_true hk)
  refine sorted_set hS (I2.ok.hd hc) (by omega) fun s' p out c2 ms k g o hp hg hi hs hm hlen => ?_
  have few : (ms.map V.int).length ≤ sizeLine := by rw [List.length_map, hlen, sizeLine_eq]; omega
  have hn : H1 p = none := I2.hok.fresh hp
  have J : Inv X pins σ (upd H1 p (.lst (ms.map V.int))) { ({ s1 with heap := h', toks := tk } : Shared) with heap := s'.heap, gens := s'.gens, drawn := s'.drawn, toks := s'.toks } :=
    I2.call (ch := []) (Un.laid k hp hn) (I2.hok.laid k hp ⟨few, out.toList, c2, vals_of_ints hi, hg⟩) (by rw [g]; exact I2.bare) (fun _ z => nomatch z)
  have e : s' = { ({ s1 with heap := h', toks := tk } : Shared) with heap := s'.heap, gens := s'.gens, drawn := s'.drawn, toks := s'.toks } := by
    cases s'
    cases o
    rfl
  rw [e]
  exact ⟨.ref p, _, J, rfl, q1 ms p hs (fun k => by rw [hm k, decide_eq_true_eq]) hn⟩
theorem x_sortSetB {σ : L2.St} {H : Hp} {Q : VK} : tSortSetB K ta σ H Q = ta σ H fun x H1 => ∃ (l : Addr) (ns : List Int), x = .ref l ∧ SqL K H1 l (ns.map V.int) ∧ ns.length ≤ 4000 ∧ (∀ k ∈ ns, 0 ≤ k ∧ k < (60 : Nat)) ∧
  ∀ (ms : List Int) r, ms.Pairwise (· < ·) → (∀ k : Int, k ∈ ms ↔ k ∈ ns) → H1 r = none → Q (.ref r) (upd H1 r (.lst (ms.map V.int))) := rfl
/-- len(set(xs)): as many as the list has just where nothing stands twice -/
def tLenSetA (K : PySem.W.Frag) (ta : TE) : TE := fun σ H Q => ta σ H fun x H1 => ∃ (l : Addr) (ns : List Int), x = .ref l ∧ SqL K H1 l (ns.map V.int) ∧ ns.length ≤ 4000 ∧ ∀ n : Nat, (n = ns.length ↔ ns.Nodup) → n ≤ ns.length → Q (.int (n : Nat)) H1
theorem k_lenSetA (hK : X.K = K) (hg : Gl X "len") (hm : X.mg "len" = none) (hg2 : Gl X "set") (hm2 : X.mg "set" = none) (ha : PE X a ta) (hc : X.calm = true := by rfl)
    (na : starEach [a] X.env = (false, eval a X.env) :: starEach [] X.env := by rfl) : PE X (.Call (.Name "len" p) [.Call (.Name "set" p2) [a] [] q] [] pos) (tLenSetA K ta) := by
  subst hK
  refine ⟨fun pins s σ H Q I h => ?_⟩
  refine Call_ (ld_blt I hg hm boot_len ?_)
  refine callWith_builtin1 (args_cons ?_ rfl) rfl rfl
  refine Call_ (ld_blt I hg2 hm2 boot_set ?_)
  refine callWith_type1 (args_cons (thn (ha.run pins s σ H _ I h) fun v s1 ⟨x, H1, I1, r1, q1⟩ => args_nil ?_) na) na rfl
  obtain ⟨l, ns, rfl, hq, hl, q1⟩ := q1
  cases r1
  obtain ⟨its, r, pl, hz⟩ := I1.list hq
  refine set_of_list ns (I1.ok.hd hc) pl.isList (by simpa using intsAre_vals r) (by unfold scanBound; omega) fun h' tk c hS hcl hk => ?_
  refine args_nil ?_
  have I2 : Inv X pins σ H1 { s1 with heap := h', toks := tk } := I1.kept hk
  have cnt := setR_count hS
  obtain ⟨o, es, ep, t, ho, hex, hd, _, _, _, hbd, hf, hn, _, _⟩ := hS
  exact call_len_set ho hex hd hf (by rw [hn]; omega) ⟨.int c, H1, I2.tok _, ⟨_, by rw [hn]⟩, q1 c cnt hcl⟩
theorem x_lenSetA {σ : L2.St} {H : Hp} {Q : VK} : tLenSetA K ta σ H Q = ta σ H fun x H1 => ∃ (l : Addr) (ns : List Int), x = .ref l ∧ SqL K H1 l (ns.map V.int) ∧ ns.length ≤ 4000 ∧ ∀ n : Nat, (n = ns.length ↔ ns.Nodup) → n ≤ ns.length → Q (.int (n : Nat)) H1 := rfl
end
end BC

set_option Elab.async false
set_option linter.all false
set_option maxRecDepth 100000
set_option maxHeartbeats 4000000
/-! sites: lists of lists of natural numbers, and how they lie in the heap -/
namespace BC
open PySem PySem.Spec PyProof.Rows L2 Evl
/-! ### xs + ys of lists of any origin -/
section
variable {prog : Program} {w : World} {A : Around} {E : Value → Shared → Prop} {s : Shared}
theorem add_plain {l b : Addr} {its its2 : Array Value} {Q : Value → Shared → Prop} (x : PlainL s.heap l its) (y : PlainL s.heap b its2) (fits : its.size + its2.size ≤ sizeLine)
    (q : Q (.ref s.heap.objs.size) { s with heap := s.heap.push { cls := .type "list", data := .seq (its ++ its2) } }) : wpAny (model prog w) A (binaryOp .Add (.ref l) (.ref b)) Q E s := by
  obtain ⟨⟨c1, d1, k1, z1⟩, n1, g1, e1, e2, e3⟩ := x
  obtain ⟨⟨c2, d2, k2, z2⟩, n2, g2, e4, e5, e6⟩ := y
  obtain rfl : c1 = .type "list" := e1
  obtain rfl : c2 = .type "list" := e4
  obtain rfl : k1 = .seq its n1 := e3
  obtain rfl : k2 = .seq its2 n2 := e6
  exact concat_meets ⟨_, g1, rfl⟩ ⟨_, g2, rfl⟩ noFill_list_add seq_list_add F.slot_list_add F.entry_list_add (F.args_list_add_2 _ _) (list_addW l b its its2 n1 n2 d1 d2 z1 z2 fits) ⟨g1, g2, q⟩
end
def rCatS (K : PySem.W.Frag) : R2 := fun x y H Q => ∃ l b xs zs, x = .ref l ∧ y = .ref b ∧ SqL K H l xs ∧ SqL K H b zs ∧ xs.length + zs.length ≤ sizeLine ∧ ∀ p, H p = none → Q (.ref p) (upd H p (.lst (xs ++ zs)))
theorem k_catS {X : Cx} {K : PySem.W.Frag} (hK : X.K = K) : OpR X (binaryOp .Add) (rCatS K) := by
  subst hK
  intro pins s σ H x y v u Q I rx ry h
  obtain ⟨l, b, xs, zs, rfl, rfl, hH, hB, hz, q⟩ := h
  cases rx
  cases ry
  obtain ⟨its, r, p1, _⟩ := I.list hH
  obtain ⟨its2, r2, p2, _⟩ := I.list hB
  have l1 := r.length
  have l2 := r2.length
  refine add_plain p1 p2 (by rw [List.size_toArray, List.size_toArray]; omega) ?_
  have ea : its.toArray ++ its2.toArray = (its ++ its2).toArray := by simp
  rw [ea]
  exact ⟨.ref _, _, I.lnew (t' := s.toks) (r.append r2) (by rw [List.length_append]; omega), rfl, q _ I.fresh⟩
theorem catS {K : PySem.W.Frag} {H : Hp} {Q : VK} {p b : Addr} {xs ys : List V} (h : SqL K H p xs) (hb : SqL K H b ys) (hz : xs.length + ys.length ≤ sizeLine) (q : ∀ l, H l = none → Q (.ref l) (upd H l (.lst (xs ++ ys)))) : rCatS K (.ref p) (.ref b) H Q := ⟨p, b, xs, ys, rfl, rfl, h, hb, hz, q⟩
/-- natural numbers as the program's -/
def nz (L : List Nat) : List Int := L.map fun x : Nat => (x : Int)
theorem nz_len (L : List Nat) : (nz L).length = L.length := List.length_map _
theorem nz_at {L : List Nat} {i x : Nat} (h : L[i]? = some x) : ((nz L).map V.int)[i]? = some (.int (x : Int)) := by
  unfold nz
  rw [List.getElem?_map, List.getElem?_map, h]
  rfl
theorem at_nz {L : List Nat} {i : Nat} {v : V} (h : ((nz L).map V.int)[i]? = some v) : ∃ x, L[i]? = some x ∧ v = .int (x : Int) := by
  unfold nz at h
  rw [List.getElem?_map, List.getElem?_map] at h
  cases e : L[i]? with
  | none => rw [e] at h; cases h
  | some x => rw [e] at h; cases h; exact ⟨x, rfl, rfl⟩
theorem nz_mem {L : List Nat} {x : Nat} : ((x : Nat) : Int) ∈ nz L ↔ x ∈ L := by
  unfold nz
  rw [List.mem_map]
  exact ⟨fun ⟨y, h, e⟩ => by rw [← Int.ofNat.inj e]; exact h, fun h => ⟨x, h, rfl⟩⟩
theorem nz_inj : ∀ {a b : List Nat}, nz a = nz b → a = b
  | [], [], _ => rfl
  | [], y :: b, h => by cases h
  | x :: a, [], h => by cases h
  | x :: a, y :: b, h => by
    have h1 := (List.cons.inj h).1
    have h2 := (List.cons.inj h).2
    rw [nz_inj (show nz a = nz b from h2), Int.ofNat.inj h1]
theorem nz_app (a b : List Nat) : nz (a ++ b) = nz a ++ nz b := List.map_append
theorem nz_v (a : List Nat) (x : Nat) : (nz a).map V.int ++ [V.int (x : Int)] = (nz (a ++ [x])).map V.int := by rw [nz_app, List.map_append]; rfl
theorem lts {l : List Nat} (h : l.Pairwise (· < ·)) : (nz l).Pairwise (· < ·) := by
  unfold nz
  rw [List.pairwise_map]
  exact h.imp fun h => by omega
theorem nz_nodup {l : List Nat} (h : l.Nodup) : (nz l).Nodup := by
  unfold nz List.Nodup
  rw [List.pairwise_map]
  exact h.imp fun h e => h (Int.ofNat.inj e)
theorem nodup_lt : ∀ (n : Nat) {l : List Nat}, l.Nodup → (∀ x ∈ l, x < n) → l.length ≤ n
  | 0, [], _, _ => Nat.le_refl _
  | 0, x :: l, _, h => by have := h x List.mem_cons_self; omega
  | n + 1, l, h1, h2 => by
    by_cases m : n ∈ l
    · have h3 := nodup_lt n (l := l.erase n) (h1.erase _) (fun x hx => by
        have a := h2 x (List.mem_of_mem_erase hx)
        have b : x ≠ n := fun e => by
          rw [h1.mem_erase_iff] at hx
          exact hx.1 e
        omega)
      have := List.length_erase_of_mem m
      omega
    · have h3 := nodup_lt n h1 (fun x hx => by
        have a := h2 x hx
        have b : x ≠ n := fun e => m (e ▸ hx)
        omega)
      omega
theorem asc_nodup {l : List Nat} (h : l.Pairwise (· < ·)) : l.Nodup := h.imp fun h => by omega
/-! ### sites -/
abbrev Grid := List (List Nat)
structure SiteOk (G : Grid) : Prop where
  n1 : 1 ≤ G.length
  n2 : G.length ≤ 12
  asc : ∀ (i : Nat) (r : List Nat), G[i]? = some r → r.Pairwise (· < ·)
  lt : ∀ (i : Nat) (r : List Nat), G[i]? = some r → ∀ x ∈ r, x < G.length
  no : ∀ (i : Nat) (r : List Nat), G[i]? = some r → i ∉ r
theorem SiteOk.len {G : Grid} (h : SiteOk G) {i : Nat} {r : List Nat} (e : G[i]? = some r) : r.length ≤ 12 := Nat.le_trans (nodup_lt _ (asc_nodup (h.asc i r e)) (h.lt i r e)) h.n2
/-- the row of a page -/
def row (G : Grid) (i : Nat) : List Nat := G.getD i []
theorem row_at {G : Grid} {i : Nat} {r : List Nat} (h : G[i]? = some r) : row G i = r := by
  unfold row
  rw [List.getD_eq_getElem?_getD, h]
  rfl
theorem at_row {G : Grid} {i : Nat} (h : i < G.length) : G[i]? = some (row G i) := by
  unfold row
  rw [List.getD_eq_getElem?_getD, List.getElem?_eq_getElem h]
  rfl
theorem SiteOk.rlt {G : Grid} (h : SiteOk G) {i x : Nat} (m : x ∈ row G i) : x < G.length := by
  by_cases q : i < G.length
  · exact h.lt i _ (at_row q) x m
  · unfold row at m
    rw [List.getD_eq_getElem?_getD, List.getElem?_eq_none (by omega)] at m
    exact (List.not_mem_nil m).elim
theorem SiteOk.rlen {G : Grid} (h : SiteOk G) (i : Nat) : (row G i).length ≤ 12 := by
  by_cases q : i < G.length
  · exact h.len (at_row q)
  · unfold row
    rw [List.getD_eq_getElem?_getD, List.getElem?_eq_none (by omega)]
    exact Nat.zero_le _
/-- a list at s of lists of numbers -/
def GridAt (H : Hp) (s : Addr) (G : Grid) : Prop := ∃ ps : List Addr, H s = some (.lst (ps.map V.ref)) ∧ ps.length = G.length ∧ ∀ i p, ps[i]? = some p → H p = some (.lst ((nz (row G i)).map V.int))
theorem GridAt.ex {H H' : Hp} {s : Addr} {G : Grid} (h : GridAt H s G) (e : Ex H H') : GridAt H' s G := by
  obtain ⟨ps, h1, h2, h3⟩ := h
  exact ⟨ps, e _ _ h1, h2, fun i p q => e _ _ (h3 i p q)⟩
theorem GridAt.get {H : Hp} {s : Addr} {G : Grid} (h : GridAt H s G) {i : Nat} (hi : i < G.length) : ∃ p xs, H s = some (.lst xs) ∧ xs.length = G.length ∧ xs[i]? = some (.ref p) ∧ H p = some (.lst ((nz (row G i)).map V.int)) := by
  obtain ⟨ps, h1, h2, h3⟩ := h
  have hx : ps[i]? = some ps[i] := List.getElem?_eq_getElem (by omega)
  exact ⟨ps[i], _, h1, by rw [List.length_map]; exact h2, by rw [List.getElem?_map, hx]; rfl, h3 i _ hx⟩
theorem GridAt.lst {H : Hp} {s : Addr} {G : Grid} (h : GridAt H s G) : ∃ xs, H s = some (.lst xs) ∧ xs.length = G.length ∧ ∀ (i : Nat) (v : V), xs[i]? = some v → i < G.length ∧ ∃ p, v = .ref p ∧ H p = some (.lst ((nz (row G i)).map V.int)) := by
  obtain ⟨ps, h1, h2, h3⟩ := h
  refine ⟨_, h1, by rw [List.length_map]; exact h2, fun i v e => ?_⟩
  rw [List.getElem?_map] at e
  cases q : ps[i]? with
  | none => rw [q] at e; cases e
  | some p =>
    rw [q] at e
    cases e
    exact ⟨by have := (List.getElem?_eq_some_iff.mp q).1; omega, p, rfl, h3 i p q⟩
/-- such a list, all of it new -/
def GridN (H H' : Hp) (s : Addr) (G : Grid) : Prop := H s = none ∧ ∃ ps : List Addr, H' s = some (.lst (ps.map V.ref)) ∧ ps.length = G.length ∧ ps.Nodup ∧ s ∉ ps ∧ ∀ i p, ps[i]? = some p → H p = none ∧ H' p = some (.lst ((nz (row G i)).map V.int))
theorem GridN.at {H H' : Hp} {s : Addr} {G : Grid} (h : GridN H H' s G) : GridAt H' s G := by
  obtain ⟨_, ps, h1, h2, _, _, h3⟩ := h
  exact ⟨ps, h1, h2, fun i p q => (h3 i p q).2⟩
theorem GridN.ex {H H' H2 : Hp} {s : Addr} {G : Grid} (h : GridN H H' s G) (e : Ex H' H2) : GridN H H2 s G := by
  obtain ⟨h0, ps, h1, h2, h4, h5, h3⟩ := h
  exact ⟨h0, ps, e _ _ h1, h2, h4, h5, fun i p q => ⟨(h3 i p q).1, e _ _ (h3 i p q).2⟩⟩
theorem GridN.back {H0 H H' : Hp} {s : Addr} {G : Grid} (h : GridN H H' s G) (e : Ex H0 H) : GridN H0 H' s G := by
  obtain ⟨h0, ps, h1, h2, h4, h5, h3⟩ := h
  exact ⟨fresh_back e h0, ps, h1, h2, h4, h5, fun i p q => ⟨fresh_back e (h3 i p q).1, (h3 i p q).2⟩⟩
/-- what was new after Hc stands -/
def Nw (Hc H H' : Hp) : Prop := ∀ x o, Hc x = none → H x = some o → H' x = some o
theorem Nw.of {Hc H H' : Hp} (e : Ex H H') : Nw Hc H H' := fun x o _ h => e x o h
theorem Nw.trans {Hc H H' H'' : Hp} (e : Nw Hc H H') (f : Nw Hc H' H'') : Nw Hc H H'' := fun x o n h => f x o n (e x o n h)
theorem Nw.fx {Hc H H' : Hp} {b : Addr} {o : HO} (h : Hc b = some o) (f : Fx b H H') : Nw Hc H H' := fun x v n g => f x v (fun e => by subst e; rw [h] at n; cases n) g
theorem Nw.put {Hc H : Hp} {a : Addr} {o u : HO} (h : Hc a = some u) : Nw Hc H (upd H a o) := fun x v n g => by
  rw [upd_ne (fun e => by subst e; rw [h] at n; cases n)]
  exact g
theorem GridN.nw {H H1 H2 : Hp} {s : Addr} {G : Grid} (h : GridN H H1 s G) (e : Nw H H1 H2) : GridN H H2 s G := by
  obtain ⟨h0, ps, h1, h2, h4, h5, h3⟩ := h
  exact ⟨h0, ps, e _ _ h0 h1, h2, h4, h5, fun i p q => ⟨(h3 i p q).1, e _ _ (h3 i p q).1 (h3 i p q).2⟩⟩
/-- one row more, made while the grid stood -/
theorem GridN.push {H H1 H' : Hp} {s p : Addr} {G : Grid} {r : List Nat} (h : GridN H H1 s G) (nH : H p = none) (np : H1 p = none) (e : Nw H H1 H') (hp : H' p = some (.lst ((nz r).map V.int))) :
    ∃ xs, H' s = some (.lst xs) ∧ xs.length = G.length ∧ GridN H (upd H' s (.lst (xs ++ [.ref p]))) s (G ++ [r]) := by
  have q1 := h
  obtain ⟨h0, ps, h1, h2, h4, h5, h3⟩ := h
  have hs : p ≠ s := Ne.symm (ne_of_none h1 np)
  refine ⟨_, e _ _ h0 h1, by rw [List.length_map]; exact h2, h0, ps ++ [p], by rw [upd_same, List.map_append]; rfl, by rw [List.length_append, List.length_append, h2]; rfl, ?_, ?_, fun i q eq => ?_⟩
  · rw [List.nodup_append]
    refine ⟨h4, by simp, fun a ha b hb e => ?_⟩
    rw [List.mem_singleton.mp hb] at e
    subst e
    obtain ⟨j, hj, ej⟩ := List.getElem_of_mem ha
    have := (h3 j a (List.getElem?_eq_some_iff.mpr ⟨hj, ej⟩)).2
    rw [np] at this
    cases this
  · intro m
    rcases List.mem_append.mp m with m | m
    · exact h5 m
    · exact hs (List.mem_singleton.mp m).symm
  · by_cases hi : i < ps.length
    · rw [List.getElem?_append_left hi] at eq
      have := h3 i q eq
      have ns : q ≠ s := fun z => h5 (z ▸ List.mem_of_getElem? eq)
      refine ⟨this.1, ?_⟩
      rw [upd_ne ns, e _ _ this.1 this.2]
      unfold row
      rw [List.getD_eq_getElem?_getD, List.getD_eq_getElem?_getD, List.getElem?_append_left (by omega)]
    · rw [List.getElem?_append_right (by omega)] at eq
      have hi2 : i - ps.length = 0 := by
        have := (List.getElem?_eq_some_iff.mp eq).1
        rw [List.length_singleton] at this
        omega
      rw [hi2] at eq
      obtain rfl : p = q := by simpa using eq
      refine ⟨nH, ?_⟩
      rw [upd_ne hs, hp]
      unfold row
      have : i = G.length := by omega
      rw [this, List.getD_eq_getElem?_getD, List.getElem?_append_right (Nat.le_refl _), Nat.sub_self]
      rfl
theorem GridN.nil {H : Hp} {s : Addr} (h : H s = none) : GridN H (upd H s (.lst [])) s [] := ⟨h, [], upd_same, rfl, List.nodup_nil, List.not_mem_nil, fun i p e => by simp at e⟩
/-- as data -/
def dG (G : Grid) : PyData := .list (G.map fun r => .list ((nz r).map PyData.int))
theorem dG_LL (G : Grid) : dG G = dLL (G.map nz) := by unfold dG dLL; rw [List.map_map]; rfl
theorem GridAt.dp {K : PySem.W.Frag} {H : Hp} {s : Addr} {G : Grid} (h : GridAt H s G) : Dp K H (.ref s) (dG G) := by
  obtain ⟨ps, h1, h2, h3⟩ := h
  rw [dG_LL]
  refine .lst (.inl (.inl h1)) (dp_ll (by rw [List.length_map]; exact h2) fun i p l a b => ?_)
  rw [List.getElem?_map] at b
  cases q : G[i]? with
  | none => rw [q] at b; cases b
  | some r =>
    rw [q] at b
    cases b
    have := h3 i p a
    rw [row_at q] at this
    exact .inl (.inl this)
theorem shp_LL (ls : List (List Int)) : SeqAt.shaped (dLL ls) = true := by
  have h0 : ∀ ns : List Int, PyData.canLayAll0 (ns.map PyData.int) = true := fun ns => by
    induction ns with
    | nil => simp [PyData.canLayAll0]
    | cons n ns ih => simp [PyData.canLayAll0, PyData.canLay0, ih]
  have h1 : ∀ ls : List (List Int), PyData.canLayAll0 (ls.map fun l => PyData.list (l.map PyData.int)) = true := fun ls => by
    induction ls with
    | nil => simp [PyData.canLayAll0]
    | cons l ls ih => simp [PyData.canLayAll0, PyData.canLay0, ih, h0]
  have h2 := dep_all (ds := ls.map fun l => PyData.list (l.map PyData.int)) (n := 1) fun d m => by
      obtain ⟨l, hm, rfl⟩ := List.mem_map.mp m
      simp only [PyData.depth]
      have := dep_all (ds := l.map PyData.int) (n := 0) fun d m => by
        obtain ⟨x, hx, rfl⟩ := List.mem_map.mp m
        simp [PyData.depth]
      omega
  show (PyData.canLay0 _ && decide (PyData.depth _ ≤ 64)) = true
  rw [Bool.and_eq_true]
  refine ⟨?_, decide_eq_true ?_⟩
  · unfold dLL; simp only [PyData.canLay0]; exact h1 ls
  · unfold dLL; simp only [PyData.depth]; omega
theorem eqv_LL : ∀ as bs : List (List Int), PyData.eqv (dLL as) (dLL bs) = decide (as = bs) := fun as bs => by
  unfold dLL
  simp only [PyData.eqv]
  induction as generalizing bs with
  | nil => cases bs <;> simp [PyData.eqvAll]
  | cons a as ih =>
    cases bs with
    | nil => simp [PyData.eqvAll]
    | cons b bs =>
      simp only [List.map_cons, PyData.eqvAll, eqv_ints, ih]
      by_cases h : a = b
      · subst h; simp
      · simp [h]
theorem nzs_inj : ∀ {a b : Grid}, a.map nz = b.map nz → a = b
  | [], [], _ => rfl
  | [], y :: b, h => by cases h
  | x :: a, [], h => by cases h
  | x :: a, y :: b, h => by
    rw [List.map_cons, List.map_cons] at h
    rw [nz_inj (List.cons.inj h).1, nzs_inj (List.cons.inj h).2]
theorem eqGrid {K : PySem.W.Frag} {H : Hp} {Q : VK} {a b : Addr} {F G : Grid} (h : GridAt H a F) (g : GridAt H b G) (q : Q (.bl (decide (F = G))) H) : rEqD K (.ref a) (.ref b) H Q := by
  have e : decide (F.map nz = G.map nz) = decide (F = G) := by
    by_cases z : F = G
    · rw [z, decide_eq_true rfl, decide_eq_true rfl]
    · rw [decide_eq_false z, decide_eq_false fun y => z (nzs_inj y)]
  refine ⟨_, _, h.dp, g.dp, by rw [dG_LL]; exact shp_LL _, by rw [dG_LL]; exact shp_LL _, ?_⟩
  rw [dG_LL, dG_LL, eqv_LL, e]
  exact q
theorem neGrid {K : PySem.W.Frag} {H : Hp} {Q : VK} {a b : Addr} {F G : Grid} (h : GridAt H a F) (g : GridAt H b G) (q : Q (.bl (!decide (F = G))) H) : rNeD K (.ref a) (.ref b) H Q := by
  have e : decide (F.map nz = G.map nz) = decide (F = G) := by
    by_cases z : F = G
    · rw [z, decide_eq_true rfl, decide_eq_true rfl]
    · rw [decide_eq_false z, decide_eq_false fun y => z (nzs_inj y)]
  refine ⟨_, _, h.dp, g.dp, by rw [dG_LL]; exact shp_LL _, by rw [dG_LL]; exact shp_LL _, ?_⟩
  rw [dG_LL, dG_LL, eqv_LL, e]
  exact q
theorem at_ints {ns : List Int} {i : Nat} {n : Int} (h : ns[i]? = some n) : (ns.map V.int)[i]? = some (.int n) := by rw [List.getElem?_map, h]; rfl
theorem atI_last {xs : List V} {v : V} (h : xs[xs.length - 1]? = some v) : atI xs (-1) = some v := by
  have hl : xs.length - 1 < xs.length := (List.getElem?_eq_some_iff.mp h).1
  have e : ixN xs.length (-1) = some (xs.length - 1) := by
    unfold ixN
    rw [if_neg (by omega), if_pos (by omega)]
    congr 1
    omega
  unfold atI
  rw [e]
  exact h
theorem cutV_from1 (xs : List V) : cutV xs (some 1) none = xs.drop 1 := by
  unfold cutV
  have e2 : HT.sIx xs.length xs.length none = xs.length := rfl
  have e1 : HT.sIx xs.length 0 (some 1) = min 1 xs.length := HT.sIx_nat ..
  rw [e1, e2]
  by_cases h : 1 ≤ xs.length
  · rw [Nat.min_eq_left h, List.take_of_length_le (by rw [List.length_drop]; omega)]
  · have : xs = [] := List.length_eq_zero_iff.mp (by omega)
    rw [this]
    rfl
theorem cut_take (xs : List V) (j : Nat) : cutV xs none (some (j : Int)) = xs.take j := by
  by_cases h : j ≤ xs.length
  · exact BC.cut_to xs rfl h
  · unfold cutV
    have e1 : HT.sIx xs.length 0 none = 0 := rfl
    rw [HT.sIx_nat, e1, List.drop_zero, Nat.sub_zero, Nat.min_eq_right (by omega), List.take_length, List.take_of_length_le (by omega)]
theorem GridN.get {H H' : Hp} {s : Addr} {G : Grid} (h : GridN H H' s G) {i : Nat} (hi : i < G.length) : ∃ p xs, H' s = some (.lst xs) ∧ xs.length = G.length ∧ xs[i]? = some (.ref p) ∧ H' p = some (.lst ((nz (row G i)).map V.int)) ∧ H p = none := by
  obtain ⟨_, ps, h1, h2, _, _, h3⟩ := h
  have hx : ps[i]? = some ps[i] := List.getElem?_eq_getElem (by omega)
  exact ⟨ps[i], _, h1, by rw [List.length_map]; exact h2, by rw [List.getElem?_map, hx]; rfl, (h3 i _ hx).2, (h3 i _ hx).1⟩
theorem GridN.lower {Hl H H' : Hp} {b s : Addr} {G : Grid} (h : GridN H H' s G) (f : Fx b Hl H) (hb : ∃ o, H b = some o) : GridN Hl H' s G := by
  obtain ⟨o, ho⟩ := hb
  obtain ⟨h0, ps, h1, h2, h4, h5, h3⟩ := h
  have nb : ∀ {x : Addr}, H x = none → x ≠ b := fun n e => by subst e; rw [ho] at n; cases n
  exact ⟨fx_none f h0 (nb h0), ps, h1, h2, h4, h5, fun i p q => ⟨fx_none f (h3 i p q).1 (nb (h3 i p q).1), (h3 i p q).2⟩⟩
theorem nd_at {l : List Addr} (h : l.Nodup) {i j : Nat} {x : Addr} (a : l[i]? = some x) (b : l[j]? = some x) : i = j := by
  obtain ⟨h1, h2⟩ := List.getElem?_eq_some_iff.mp a
  obtain ⟨h3, h4⟩ := List.getElem?_eq_some_iff.mp b
  have e1 := h.idxOf_getElem i h1
  have e2 := h.idxOf_getElem j h3
  rw [h2] at e1
  rw [h4] at e2
  exact e1.symm.trans e2
/-- kept of a list -/
theorem kept_nz (s : List Nat) (k : Nat → Bool) : kept s.length (fun i => k (s.getD i 0)) (fun i => V.int ((s.getD i 0 : Nat) : Int)) = (nz (s.filter k)).map V.int := by
  unfold kept nz
  have e : (List.range s.length).map (fun i => s.getD i 0) = s := by
    apply List.ext_getElem?
    intro j
    by_cases h : j < s.length
    · rw [List.getElem?_map, List.getElem?_range h, List.getElem?_eq_getElem h]
      show some (s.getD j 0) = _
      rw [List.getD_eq_getElem?_getD, List.getElem?_eq_getElem h]
      rfl
    · rw [List.getElem?_eq_none (by rw [List.length_map, List.length_range]; omega), List.getElem?_eq_none (by omega)]
  conv => rhs; rw [← e]
  rw [List.filter_map, List.map_map, List.map_map]
  rfl
theorem kept_rng (n : Nat) (k : Nat → Bool) : kept n k (fun i => V.int ((i : Nat) : Int)) = (nz ((List.range n).filter k)).map V.int := by
  unfold kept nz
  rw [List.map_map]
  rfl
/-- zip of lists of different lengths -/
theorem lc_zipM {K : PySem.W.Frag} {σ : L2.St} {H1 : Hp} {tt : TT} {te : TE} {vs : List Nat} {Dl : Addr} {Q : VK} {a b : Addr} {xs ys : List V} {j k : Nat} (n : Nat) (keep : Nat → Bool) (f : Nat → V) (hx : SqL K H1 a xs) (hy : SqL K H1 b ys) (h1 : n ≤ xs.length) (h2 : n ≤ ys.length) (h3 : n = xs.length ∨ n = ys.length) (hD : H1 Dl = none) (hn : n ≤ 100000)
    (hw : ∀ u v : V, wipe (((wipe σ vs).set j (some u)).set k (some v)) vs = wipe σ vs)
    (ht : ∀ i x y, xs[i]? = some x → ys[i]? = some y → Evl.EvT tt (((wipe σ vs).set j (some x)).set k (some y)) H1 (keep i))
    (he : ∀ i x y, xs[i]? = some x → ys[i]? = some y → keep i = true → Evl.Ev te (((wipe σ vs).set j (some x)).set k (some y)) H1 (f i))
    (hd : ∀ H', Evl.Ex H1 H' → H' Dl = some (.lst (kept n keep f)) → Q (.ref Dl) H') : LcG (Itz K a b) (gTup K 2 (gCons (gName j) (gCons (gName k) gNil))) tt te vs σ Dl H1 Q := by
  have gx : ∀ i, i < n → xs[i]? = some (xs.getD i .non) := fun i hi => by rw [List.getD_eq_getElem?_getD, List.getElem?_eq_getElem (by omega)]; rfl
  have gy : ∀ i, i < n → ys[i]? = some (ys.getD i .non) := fun i hi => by rw [List.getD_eq_getElem?_getD, List.getElem?_eq_getElem (by omega)]; rfl
  refine lc_pure n (fun i => ((wipe σ vs).set j (some (xs.getD i .non))).set k (some (ys.getD i .non))) keep f hD hn (fun H' e => ⟨xs, ys, Evl.ex_l e hx, Evl.ex_l e hy, by omega⟩)
    (fun i H' hi e => ⟨xs, ys, _, _, Evl.ex_l e hx, Evl.ex_l e hy, gx i hi, gy i hi⟩)
    (fun i H' x H'' QG hi e y q => ?_) (fun i hi => hw _ _) (fun i hi => ht i _ _ (gx i hi) (gy i hi)) (fun i hi => he i _ _ (gx i hi) (gy i hi)) hd
  obtain ⟨T, u, v, rfl, hT, rfl, hf, hf2⟩ := y
  have hu := hf xs (Evl.ex_l e hx)
  have hv := hf2 ys (Evl.ex_l e hy)
  have e1 : xs.getD i .non = u := by rw [List.getD_eq_getElem?_getD, hu]; rfl
  have e2 : ys.getD i .non = v := by rw [List.getD_eq_getElem?_getD, hv]; rfl
  refine g_two upd_same ?_
  have q2 := q (Evl.Ex.new hT)
  rw [e1, e2] at q2
  exact q2
end BC

set_option Elab.async false
set_option linter.all false
set_option maxRecDepth 100000
set_option maxHeartbeats 4000000
/-! walks on a site, by number and one by one -/
namespace BC
section
open PySem PySem.Spec PyProof.Rows L2 Evl
/-- xs[i] of xs[i] += e -/
def rGetL (K : PySem.W.Frag) : V → V → Hp → VK → Prop := fun x y H Q => ∃ p xs, ∃ i : Nat, ∃ v, x = .ref p ∧ y = .int i ∧ SqL K H p xs ∧ xs[i]? = some v ∧ Q v H
theorem k_get {X : Cx} {K : PySem.W.Frag} (hK : X.K = K) : PGet X (rGetL K) := by
  subst hK
  intro pins s σ H o i ov iv Q I ro ri h
  obtain ⟨p, xs, j, v, rfl, rfl, hq, hv, q⟩ := h
  cases ro
  obtain ⟨t, rfl⟩ := ri
  obtain ⟨its, r, pl, hz⟩ := I.list hq
  obtain ⟨u, eu, ru⟩ := r.get hv
  have hl := r.length
  have hn := line63
  have hj := (List.getElem?_eq_some_iff.mp hv).1
  refine wpAny_getItem_list (x := u) pl.isList (by omega) (by omega) (by simpa using eu) ⟨v, H, I, ru, q⟩
theorem getL {K : PySem.W.Frag} {H : Hp} {Q : VK} {p : Addr} {xs : List V} {k : Int} {i : Nat} {v : V} (h : SqL K H p xs) (e : k = (i : Int)) (hv : xs[i]? = some v) (q : Q v H) : rGetL K (.ref p) (.int k) H Q := by subst e; exact ⟨p, xs, i, v, rfl, rfl, h, hv, q⟩
theorem x_augS {to ti te : TE} {tget : V → V → Hp → VK → Prop} {tip : TIp} {tset : TSet} {D : Ends} {σ : L2.St} {H : Hp} : tAugS to ti te tget tip tset D σ H = to σ H fun o H1 => ti σ H1 fun i H2 => tget o i H2 fun x H3 => te σ H3 fun y H4 => tip x y H4 fun z H5 => tset o i z H5 fun H6 => D.nx σ H6 := rfl
end
/-- the walks of t steps from v -/
def wf (G : Grid) : Nat → Nat → List (List Nat)
  | 0, v => [[v]]
  | t + 1, v => ((row G v).map fun u => (wf G t u).map (v :: ·)).flatten
def lst (r : List Nat) : Nat := r.getLast?.getD 0
def grow (G : Grid) (r : List Nat) : List (List Nat) := (row G (lst r)).map fun u => r ++ [u]
theorem wf_ne {G : Grid} : ∀ (t v : Nat), ∀ r ∈ wf G t v, r ≠ []
  | 0, v, r, h => by
    obtain rfl : r = [v] := by simpa [wf] using h
    simp
  | t + 1, v, r, h => by
    unfold wf at h
    obtain ⟨a, ha, hr⟩ := List.mem_flatten.mp h
    obtain ⟨u, _, rfl⟩ := List.mem_map.mp ha
    obtain ⟨q, _, rfl⟩ := List.mem_map.mp hr
    simp
theorem grow_cons (G : Grid) (v : Nat) {r : List Nat} (h : r ≠ []) : grow G (v :: r) = (grow G r).map (v :: ·) := by
  unfold grow lst
  rw [List.map_map, List.getLast?_cons_of_ne_nil h]
  rfl
theorem sum_zeros {α : Type} : ∀ l : List α, (l.map fun _ => 0).sum = 0
  | [] => rfl
  | x :: l => by rw [List.map_cons, List.sum_cons, sum_zeros l]
theorem map_flatten' {α β : Type} (f : α → β) : ∀ l : List (List α), l.flatten.map f = (l.map (·.map f)).flatten
  | [] => rfl
  | a :: l => by rw [List.flatten_cons, List.map_append, map_flatten' f l]; rfl
theorem flatten_flatten' {α : Type} : ∀ l : List (List (List α)), l.flatten.flatten = (l.map (·.flatten)).flatten
  | [] => rfl
  | a :: l => by rw [List.flatten_cons, List.flatten_append, flatten_flatten' l]; rfl
theorem wf_snoc (G : Grid) : ∀ (t v : Nat), wf G (t + 1) v = ((wf G t v).map (grow G)).flatten
  | 0, v => by
    show ((row G v).map fun u => [[v, u]]).flatten = (grow G [v]) ++ []
    rw [List.append_nil]
    show ((row G v).map fun u => [[v, u]]).flatten = (row G v).map fun u => [v, u]
    generalize row G v = l
    induction l with
    | nil => rfl
    | cons x l ih =>
      rw [List.map_cons, List.flatten_cons, ih]
      rfl
  | t + 1, v => by
    have ih := fun u => wf_snoc G t u
    show ((row G v).map fun u => (wf G (t + 1) u).map (v :: ·)).flatten = ((((row G v).map fun u => (wf G t u).map (v :: ·)).flatten).map (grow G)).flatten
    rw [map_flatten', flatten_flatten', List.map_map, List.map_map]
    congr 1
    apply List.map_congr_left
    intro u _
    show (wf G (t + 1) u).map (v :: ·) = ((wf G t u |>.map (v :: ·)).map (grow G)).flatten
    rw [ih u, map_flatten', List.map_map, List.map_map]
    congr 1
    apply List.map_congr_left
    intro r hr
    show (grow G r).map (v :: ·) = grow G (v :: r)
    rw [grow_cons G v (wf_ne t u r hr)]
/-- the number of walks of t steps from v to the page that keep out -/
def fw (G : Grid) (out : List Nat) (p : Nat) : Nat → Nat → Nat
  | 0, v => if v = p ∧ v ∉ out then 1 else 0
  | t + 1, v => if v ∉ out then ((row G v).map fun u => fw G out p t u).sum else 0
/-- a walk to the page that keeps out -/
def good (out : List Nat) (p : Nat) (r : List Nat) : Bool := decide (lst r = p) && decide (r.filter (fun x => decide (x ∈ out)) = [])
theorem good_cons {out : List Nat} {p v : Nat} {r : List Nat} (h : r ≠ []) : good out p (v :: r) = (decide (v ∉ out) && good out p r) := by
  unfold good lst
  rw [List.getLast?_cons_of_ne_nil h]
  by_cases c : v ∈ out
  · simp [c]
  · simp [c]
theorem len_flat {α : Type} (P : α → Bool) : ∀ l : List (List α), (l.flatten.filter P).length = (l.map fun a => (a.filter P).length).sum
  | [] => rfl
  | a :: l => by rw [List.flatten_cons, List.filter_append, List.length_append, len_flat P l]; rfl
theorem fw_count (G : Grid) (out : List Nat) (p : Nat) : ∀ (t v : Nat), ((wf G t v).filter (good out p)).length = fw G out p t v
  | 0, v => by
    show ([[v]].filter (good out p)).length = if v = p ∧ v ∉ out then 1 else 0
    have e : good out p [v] = (decide (v = p) && decide (v ∉ out)) := by
      show (decide (v = p) && decide ([v].filter (fun x => decide (x ∈ out)) = [])) = _
      congr 1
      by_cases c : v ∈ out <;> simp [c]
    by_cases a : v = p <;> by_cases c : v ∈ out <;> simp [e, a, c]
    all_goals (subst a; simp_all)
  | t + 1, v => by
    show ((((row G v).map fun u => (wf G t u).map (v :: ·)).flatten).filter (good out p)).length = if v ∉ out then ((row G v).map fun u => fw G out p t u).sum else 0
    rw [len_flat, List.map_map]
    have key : ∀ u, (((wf G t u).map (v :: ·)).filter (good out p)).length = if v ∉ out then fw G out p t u else 0 := fun u => by
      rw [List.filter_map, List.length_map]
      have e : (wf G t u).filter (good out p ∘ fun x => v :: x) = (wf G t u).filter fun r => decide (v ∉ out) && good out p r := by
        apply List.filter_congr
        intro r hr
        show good out p (v :: r) = _
        rw [good_cons (wf_ne t u r hr)]
      rw [e]
      by_cases c : v ∈ out
      · simp [c]
      · rw [if_pos c]
        simp only [c, not_false_eq_true, decide_true, Bool.true_and]
        exact fw_count G out p t u
    by_cases c : v ∈ out
    · rw [if_neg (by simpa using c)]
      have : (row G v).map ((fun a => (List.filter (good out p) a).length) ∘ fun u => (wf G t u).map (v :: ·)) = (row G v).map fun _ => 0 := List.map_congr_left fun u _ => by
        show (((wf G t u).map (v :: ·)).filter (good out p)).length = 0
        rw [key u, if_neg (by simpa using c)]
      rw [this, sum_zeros]
    · rw [if_pos c]
      congr 1
      apply List.map_congr_left
      intro u _
      show (((wf G t u).map (v :: ·)).filter (good out p)).length = _
      rw [key u, if_pos c]
theorem wf_lt {G : Grid} (h : SiteOk G) : ∀ (t v : Nat), v < G.length → ∀ r ∈ wf G t v, (∀ x ∈ r, x < G.length) ∧ r.length = t + 1
  | 0, v, hv, r, hr => by
    obtain rfl : r = [v] := by simpa [wf] using hr
    exact ⟨fun x hx => by rw [List.mem_singleton.mp hx]; exact hv, rfl⟩
  | t + 1, v, hv, r, hr => by
    unfold wf at hr
    obtain ⟨a, ha, hr⟩ := List.mem_flatten.mp hr
    obtain ⟨u, hu, rfl⟩ := List.mem_map.mp ha
    obtain ⟨q, hq, rfl⟩ := List.mem_map.mp hr
    obtain ⟨h1, h2⟩ := wf_lt h t u (h.rlt hu) q hq
    refine ⟨fun x hx => ?_, by rw [List.length_cons, h2]⟩
    rcases List.mem_cons.mp hx with rfl | hx
    · exact hv
    · exact h1 x hx
theorem sum_le {f : Nat → Nat} {b : Nat} : ∀ {l : List Nat}, (∀ x ∈ l, f x ≤ b) → (l.map f).sum ≤ l.length * b
  | [], _ => by simp
  | x :: l, h => by
    have a := h x List.mem_cons_self
    have b := sum_le (l := l) fun y hy => h y (List.mem_cons_of_mem _ hy)
    rw [List.map_cons, List.sum_cons, List.length_cons, Nat.succ_mul]
    omega
theorem fw_le {G : Grid} (h : SiteOk G) (out : List Nat) (p : Nat) : ∀ t v, fw G out p t v ≤ 12 ^ t
  | 0, v => by
    unfold fw
    split <;> simp
  | t + 1, v => by
    unfold fw
    split
    · have a := sum_le (f := fun u => fw G out p t u) (b := 12 ^ t) (l := row G v) fun u _ => fw_le h out p t u
      have b := Nat.mul_le_mul_right (12 ^ t) (h.rlen v)
      rw [Nat.pow_succ, Nat.mul_comm]
      omega
    · exact Nat.zero_le _
theorem wf_len {G : Grid} (h : SiteOk G) : ∀ (t v : Nat), (wf G t v).length ≤ G.length ^ t
  | 0, v => by simp [wf]
  | t + 1, v => by
    show (((row G v).map fun u => (wf G t u).map (v :: ·)).flatten).length ≤ _
    have e : (((row G v).map fun u => (wf G t u).map (v :: ·)).flatten).length = ((row G v).map fun u => (wf G t u).length).sum := by
      rw [List.length_flatten, List.map_map]
      congr 1
      apply List.map_congr_left
      intro u _
      show ((wf G t u).map _).length = _
      rw [List.length_map]
    rw [e]
    have a := sum_le (f := fun u => (wf G t u).length) (b := G.length ^ t) (l := row G v) fun u _ => wf_len h t u
    have rl : (row G v).length ≤ G.length := by
      by_cases q : v < G.length
      · exact nodup_lt _ (asc_nodup (h.asc v _ (at_row q))) (h.lt v _ (at_row q))
      · unfold row
        rw [List.getD_eq_getElem?_getD, List.getElem?_eq_none (by omega)]
        exact Nat.zero_le _
    have b := Nat.mul_le_mul_right (G.length ^ t) rl
    rw [Nat.pow_succ, Nat.mul_comm]
    omega
theorem flat_le {α β : Type} {f : α → List β} {b : Nat} : ∀ {l : List α}, (∀ x ∈ l, (f x).length ≤ b) → (l.map f).flatten.length ≤ l.length * b
  | [], _ => by simp
  | x :: l, h => by
    have a := h x List.mem_cons_self
    have c := flat_le (l := l) fun y hy => h y (List.mem_cons_of_mem _ hy)
    rw [List.map_cons, List.flatten_cons, List.length_append, List.length_cons, Nat.succ_mul]
    omega
/-! ### products of lists of numbers -/
def cnv (a b : List Nat) (k : Nat) : Nat := ((List.range (k + 1)).map fun i => a.getD i 0 * b.getD (k - i) 0).sum
def conv (a b : List Nat) (n : Nat) : List Nat := (List.range (n + 1)).map fun k => cnv a b k
theorem conv_len (a b : List Nat) (n : Nat) : (conv a b n).length = n + 1 := by unfold conv; rw [List.length_map, List.length_range]
theorem conv_at {a b : List Nat} {n k : Nat} (h : k ≤ n) : (conv a b n)[k]? = some (cnv a b k) := by
  unfold conv
  rw [List.getElem?_map, List.getElem?_range (by omega)]
  rfl
/-- what is added up while the first i of a are done, and j of b at the next one -/
def part (a b : List Nat) (i j k : Nat) : Nat := ((List.range (k + 1)).map fun u => if u < i ∨ (u = i ∧ k - u < j) then a.getD u 0 * b.getD (k - u) 0 else 0).sum
theorem part_zero (a b : List Nat) (k : Nat) : part a b 0 0 k = 0 := by
  unfold part
  have : (List.range (k + 1)).map (fun u => if u < 0 ∨ (u = 0 ∧ k - u < 0) then a.getD u 0 * b.getD (k - u) 0 else 0) = (List.range (k + 1)).map fun _ => 0 := List.map_congr_left fun u _ => by rw [if_neg (by omega)]
  rw [this, sum_zeros]
theorem sum_one (n i : Nat) (f g : Nat → Nat) (c : Nat) (hi : i < n) (h1 : ∀ u, u < n → u ≠ i → g u = f u) (h2 : g i = f i + c) : ((List.range n).map g).sum = ((List.range n).map f).sum + c := by
  induction n with
  | zero => omega
  | succ n ih =>
    rw [List.range_succ, List.map_append, List.map_append, List.sum_append, List.sum_append]
    simp only [List.map_cons, List.map_nil, List.sum_cons, List.sum_nil]
    by_cases e : i = n
    · subst e
      have : (List.range i).map g = (List.range i).map f := List.map_congr_left fun u hu => h1 u (by rw [List.mem_range] at hu; omega) (by rw [List.mem_range] at hu; omega)
      rw [this, h2]
      omega
    · rw [ih (by omega) (fun u hu ne => h1 u (by omega) ne), h1 n (by omega) (Ne.symm e)]
      omega
theorem part_step {a b : List Nat} {i j k : Nat} : part a b i (j + 1) k = part a b i j k + if k = i + j then a.getD i 0 * b.getD j 0 else 0 := by
  unfold part
  by_cases c : k = i + j
  · rw [if_pos c]
    refine sum_one (k + 1) i _ _ _ (by omega) (fun u hu ne => ?_) ?_
    · have : (u < i ∨ (u = i ∧ k - u < j + 1)) ↔ (u < i ∨ (u = i ∧ k - u < j)) := by omega
      simp only [this]
    · have e : k - i = j := by omega
      rw [if_pos (by omega), if_neg (by omega), e, Nat.zero_add]
  · rw [if_neg c, Nat.add_zero]
    congr 1
    apply List.map_congr_left
    intro u hu
    rw [List.mem_range] at hu
    have : (u < i ∨ (u = i ∧ k - u < j + 1)) ↔ (u < i ∨ (u = i ∧ k - u < j)) := by omega
    simp only [this]
theorem part_next {a b : List Nat} {i j k : Nat} (h : k < i + j ∨ b.length ≤ j ∨ a.getD i 0 = 0) : part a b i j k = part a b (i + 1) 0 k := by
  unfold part
  congr 1
  apply List.map_congr_left
  intro u hu
  rw [List.mem_range] at hu
  by_cases c1 : u < i
  · rw [if_pos (.inl c1), if_pos (by omega)]
  · by_cases c2 : u = i
    · subst c2
      rw [if_pos (show u < u + 1 ∨ _ by omega)]
      by_cases c3 : k - u < j
      · rw [if_pos (by omega)]
      · rw [if_neg (by omega)]
        rcases h with h | h | h
        · omega
        · rw [show b.getD (k - u) 0 = 0 by rw [List.getD_eq_getElem?_getD, List.getElem?_eq_none (by omega)]; rfl, Nat.mul_zero]
        · rw [h, Nat.zero_mul]
    · rw [if_neg (by omega), if_neg (by omega)]
theorem part_full {a b : List Nat} {i k : Nat} (h : k < i ∨ a.length ≤ i) : part a b i 0 k = cnv a b k := by
  unfold part cnv
  congr 1
  apply List.map_congr_left
  intro u hu
  rw [List.mem_range] at hu
  by_cases c : u < i
  · rw [if_pos (.inl c)]
  · rw [if_neg (by omega)]
    rw [show a.getD u 0 = 0 by rw [List.getD_eq_getElem?_getD, List.getElem?_eq_none (by omega)]; rfl, Nat.zero_mul]
theorem part_le {a b : List Nat} {i j k B C : Nat} (ha : ∀ x ∈ a, x ≤ B) (hb : ∀ x ∈ b, x ≤ C) : part a b i j k ≤ (k + 1) * (B * C) := by
  unfold part
  have ga : ∀ u, a.getD u 0 ≤ B := fun u => by
    by_cases q : u < a.length
    · rw [List.getD_eq_getElem?_getD, List.getElem?_eq_getElem q]
      exact ha _ (List.getElem_mem q)
    · rw [List.getD_eq_getElem?_getD, List.getElem?_eq_none (by omega)]
      exact Nat.zero_le _
  have gb : ∀ u, b.getD u 0 ≤ C := fun u => by
    by_cases q : u < b.length
    · rw [List.getD_eq_getElem?_getD, List.getElem?_eq_getElem q]
      exact hb _ (List.getElem_mem q)
    · rw [List.getD_eq_getElem?_getD, List.getElem?_eq_none (by omega)]
      exact Nat.zero_le _
  have := sum_le (f := fun u => if u < i ∨ (u = i ∧ k - u < j) then a.getD u 0 * b.getD (k - u) 0 else 0) (b := B * C) (l := List.range (k + 1)) fun u _ => by
    split
    · exact Nat.mul_le_mul (ga u) (gb _)
    · exact Nat.zero_le _
  rw [List.length_range] at this
  exact this
/-- the list of the sums -/
def parts (a b : List Nat) (n i j : Nat) : List Nat := (List.range (n + 1)).map fun k => part a b i j k
theorem parts_len (a b : List Nat) (n i j : Nat) : (parts a b n i j).length = n + 1 := by unfold parts; rw [List.length_map, List.length_range]
theorem parts_at {a b : List Nat} {n i j k : Nat} (h : k ≤ n) : (parts a b n i j)[k]? = some (part a b i j k) := by
  unfold parts
  rw [List.getElem?_map, List.getElem?_range (by omega)]
  rfl
theorem parts_zero (a b : List Nat) (n : Nat) : parts a b n 0 0 = List.replicate (n + 1) 0 := by
  apply List.ext_getElem?
  intro k
  by_cases h : k < n + 1
  · rw [parts_at (by omega), part_zero, List.getElem?_replicate, if_pos h]
  · rw [List.getElem?_eq_none (by rw [parts_len]; omega), List.getElem?_eq_none (by rw [List.length_replicate]; omega)]
theorem parts_step {a b : List Nat} {n i j : Nat} (h : i + j ≤ n) : (parts a b n i j).set (i + j) (part a b i j (i + j) + a.getD i 0 * b.getD j 0) = parts a b n i (j + 1) := by
  apply List.ext_getElem?
  intro k
  by_cases hk : k < n + 1
  · rw [parts_at (by omega), part_step, List.getElem?_set]
    by_cases e : i + j = k
    · subst e
      rw [if_pos rfl, if_pos (by rw [parts_len]; omega), if_pos rfl]
    · rw [if_neg e, parts_at (by omega), if_neg (Ne.symm e), Nat.add_zero]
  · rw [List.getElem?_eq_none (by rw [List.length_set, parts_len]; omega), List.getElem?_eq_none (by rw [parts_len]; omega)]
theorem parts_over {a b : List Nat} {n i j : Nat} (h : n < i + j) : parts a b n i (j + 1) = parts a b n i j := by
  unfold parts
  apply List.map_congr_left
  intro k hk
  rw [List.mem_range] at hk
  rw [part_step, if_neg (by omega), Nat.add_zero]
theorem parts_next {a b : List Nat} {n i j : Nat} (h : n < i + j ∨ b.length ≤ j ∨ a.getD i 0 = 0) : parts a b n i j = parts a b n (i + 1) 0 := by
  unfold parts
  apply List.map_congr_left
  intro k hk
  rw [List.mem_range] at hk
  exact part_next (by omega)
theorem parts_full {a b : List Nat} {n i : Nat} (h : n < i ∨ a.length ≤ i) : parts a b n i 0 = conv a b n := by
  unfold parts conv
  apply List.map_congr_left
  intro k hk
  rw [List.mem_range] at hk
  exact part_full (by omega)
section
open PySem PySem.Spec PyProof.Rows L2 Evl
theorem lc_enumE {K : PySem.W.Frag} {σ : L2.St} {H1 : Hp} {g : TG} {te : TE} {vs : List Nat} {Dl : Addr} {Q : VK} {a : Addr} {xs : List V} (Pv : Nat → Hp → Prop) (h0 : Pv 0 (upd H1 Dl (.lst []))) (hl : ∀ i H, i ≤ xs.length → Pv i H → SqL K H a xs)
    (hs : ∀ i x H T, xs[i]? = some x → Pv i H → H T = none → g (.ref T) (wipe σ vs) (upd H T (.tup [.int (i : Nat), x])) fun σ2 H2 => wipe σ2 vs = wipe σ vs ∧ te σ2 H2 fun y H4 => ∃ acc, H4 Dl = some (.lst acc) ∧ acc.length < sizeLine ∧ Pv (i + 1) (upd H4 Dl (.lst (acc ++ [y]))))
    (hd : ∀ H, Pv xs.length H → Q (.ref Dl) H) : LcG (Ite K a) g tYes te vs σ Dl H1 Q := by
  refine lc_g xs.length Pv h0 (fun H h => ⟨xs, hl _ H (Nat.le_refl _) h, Nat.le_refl _⟩) (fun i H hi h => ⟨xs, xs[i], hl i H (by omega) h, List.getElem?_eq_getElem hi⟩) (fun i H x H' hi h y => ?_) hd
  obtain ⟨T, v, rfl, hT, rfl, hf⟩ := y
  exact hs i v H T (hf xs (hl i _ (by omega) h)) h hT
/-- a row of a new grid changed -/
theorem GridN.chg {H H1 : Hp} {s : Addr} {G : Grid} (h : GridN H H1 s G) {j : Nat} (hj : j < G.length) : ∃ p xs, H1 s = some (.lst xs) ∧ xs.length = G.length ∧ xs[j]? = some (.ref p) ∧ H1 p = some (.lst ((nz (row G j)).map V.int)) ∧ H p = none ∧
    ∀ r : List Nat, GridN H (upd H1 p (.lst ((nz r).map V.int))) s (G.set j r) := by
  obtain ⟨h0, ps, h1, h2, h4, h5, h3⟩ := h
  have hx : ps[j]? = some ps[j] := List.getElem?_eq_getElem (by omega)
  have hp := h3 j _ hx
  refine ⟨ps[j], _, h1, by rw [List.length_map]; exact h2, by rw [List.getElem?_map, hx]; rfl, hp.2, hp.1, fun r => ?_⟩
  have ns : s ≠ ps[j] := fun e => h5 (by rw [e]; exact List.getElem_mem _)
  refine ⟨h0, ps, by rw [upd_ne ns]; exact h1, by rw [List.length_set]; exact h2, h4, h5, fun i q e => ⟨(h3 i q e).1, ?_⟩⟩
  by_cases c : i = j
  · subst c
    rw [hx] at e
    obtain rfl := Option.some.inj e
    rw [upd_same]
    unfold row
    rw [List.getD_eq_getElem?_getD, List.getElem?_set, if_pos rfl, if_pos hj]
    rfl
  · have nq : q ≠ ps[j] := fun z => by
      subst z
      exact c (nd_at h4 e hx)
    rw [upd_ne nq, (h3 i q e).2]
    unfold row
    rw [List.getD_eq_getElem?_getD, List.getD_eq_getElem?_getD, List.getElem?_set, if_neg (Ne.symm c)]
/-! ### what the functions of loops.py give -/
def cl (G : Grid) (out : List Nat) (p n : Nat) : List Nat := (List.range (n + 1)).map fun t => fw G out p t p
def stg (G : Grid) (out : List Nat) (p k j : Nat) : Grid := (List.range G.length).map fun v => (List.range (if v < j then k + 2 else k + 1)).map fun t => fw G out p t v
theorem stg_len (G : Grid) (out : List Nat) (p k j : Nat) : (stg G out p k j).length = G.length := by unfold stg; rw [List.length_map, List.length_range]
theorem stg_row {G : Grid} {out : List Nat} {p k j v : Nat} (h : v < G.length) : row (stg G out p k j) v = (List.range (if v < j then k + 2 else k + 1)).map fun t => fw G out p t v := by
  unfold row stg
  rw [List.getD_eq_getElem?_getD, List.getElem?_map, List.getElem?_range h]
  rfl
theorem stg_set {G : Grid} {out : List Nat} {p k j : Nat} (h : j < G.length) : (stg G out p k j).set j (row (stg G out p k j) j ++ [fw G out p (k + 1) j]) = stg G out p k (j + 1) := by
  apply List.ext_getElem?
  intro v
  by_cases hv : v < G.length
  · rw [List.getElem?_set, stg_row h, if_neg (Nat.lt_irrefl j)]
    have rhs : (stg G out p k (j + 1))[v]? = some (row (stg G out p k (j + 1)) v) := at_row (by rw [stg_len]; exact hv)
    rw [rhs, stg_row hv]
    by_cases e : j = v
    · subst e
      rw [if_pos rfl, if_pos (by rw [stg_len]; exact hv), if_pos (Nat.lt_succ_self j), List.range_succ (n := k + 1), List.map_append]
      rfl
    · rw [if_neg e, at_row (by rw [stg_len]; exact hv), stg_row hv]
      by_cases c : v < j
      · rw [if_pos c, if_pos (by omega)]
      · rw [if_neg c, if_neg (by omega)]
  · rw [List.getElem?_eq_none (by rw [List.length_set, stg_len]; omega), List.getElem?_eq_none (by rw [stg_len]; omega)]
theorem stg_next (G : Grid) (out : List Nat) (p k : Nat) : stg G out p k G.length = stg G out p (k + 1) 0 := by
  unfold stg
  apply List.map_congr_left
  intro v hv
  rw [List.mem_range] at hv
  rw [if_pos hv, if_neg (by omega)]
theorem stg_cl {G : Grid} {out : List Nat} {p n : Nat} (h : p < G.length) : row (stg G out p n 0) p = cl G out p n := by
  rw [stg_row h, if_neg (by omega)]
  rfl
def prs (G : Grid) (L : List Nat) (n : Nat) : Grid := (List.range L.length).map fun i => cl G (L.take i) (L.getD i 0) n
theorem prs_len (G : Grid) (L : List Nat) (n : Nat) : (prs G L n).length = L.length := by unfold prs; rw [List.length_map, List.length_range]
theorem prs_row {G : Grid} {L : List Nat} {n i : Nat} (h : i < L.length) : row (prs G L n) i = cl G (L.take i) (L.getD i 0) n := by
  unfold row prs
  rw [List.getD_eq_getElem?_getD, List.getElem?_map, List.getElem?_range h]
  rfl
def fold (n : Nat) (P : Grid) : List Nat := P.foldl (fun f q => conv f q n) (1 :: List.replicate n 0)
theorem fold_len (n : Nat) (P : Grid) : (fold n P).length = n + 1 := by
  unfold fold
  have : ∀ (P : Grid) (f : List Nat), f.length = n + 1 → (P.foldl (fun f q => conv f q n) f).length = n + 1 := fun P => by
    induction P with
    | nil => exact fun f h => h
    | cons q P ih => exact fun f _ => ih _ (conv_len _ _ _)
  exact this P _ (by simp)
theorem fold_snoc {n : Nat} {P : Grid} {i : Nat} {q : List Nat} (h : P[i]? = some q) : fold n (P.take (i + 1)) = conv (fold n (P.take i)) q n := by
  unfold fold
  rw [List.take_add_one, h, List.foldl_append]
  rfl
theorem cl_le {G : Grid} (h : SiteOk G) (out : List Nat) (p n : Nat) : ∀ x ∈ cl G out p n, x ≤ 12 ^ n := fun x hx => by
  unfold cl at hx
  obtain ⟨t, ht, rfl⟩ := List.mem_map.mp hx
  rw [List.mem_range] at ht
  exact Nat.le_trans (fw_le h out p t p) (Nat.pow_le_pow_right (by omega) (by omega))
theorem cl_len (G : Grid) (out : List Nat) (p n : Nat) : (cl G out p n).length = n + 1 := by unfold cl; rw [List.length_map, List.length_range]
theorem cnv_le {a b : List Nat} {k B C : Nat} (ha : ∀ x ∈ a, x ≤ B) (hb : ∀ x ∈ b, x ≤ C) : cnv a b k ≤ (k + 1) * (B * C) := by
  rw [← part_full (a := a) (b := b) (i := k + 1) (k := k) (.inl (by omega))]
  exact part_le ha hb
theorem fold_le {n : Nat} {P : Grid} (hP : ∀ q ∈ P, ∀ x ∈ q, x ≤ 12 ^ n) : ∀ i, ∀ x ∈ fold n (P.take i), x ≤ ((n + 1) * 12 ^ n) ^ i := fun i => by
  induction i with
  | zero =>
    intro x hx
    rw [List.take_zero] at hx
    have : x ∈ 1 :: List.replicate n 0 := hx
    rcases List.mem_cons.mp this with rfl | h
    · simp
    · rw [List.eq_of_mem_replicate h]; exact Nat.zero_le _
  | succ i ih =>
    intro x hx
    by_cases c : i < P.length
    · have e : P[i]? = some P[i] := List.getElem?_eq_getElem c
      rw [fold_snoc e] at hx
      unfold conv at hx
      obtain ⟨k, hk, rfl⟩ := List.mem_map.mp hx
      rw [List.mem_range] at hk
      have a := cnv_le (k := k) ih (hP P[i] (List.getElem_mem c))
      have b : (k + 1) * (((n + 1) * 12 ^ n) ^ i * 12 ^ n) ≤ (n + 1) * (((n + 1) * 12 ^ n) ^ i * 12 ^ n) := Nat.mul_le_mul_right _ (by omega)
      have d : (n + 1) * (((n + 1) * 12 ^ n) ^ i * 12 ^ n) = ((n + 1) * 12 ^ n) ^ (i + 1) := by
        rw [Nat.pow_succ, Nat.mul_left_comm]
      omega
    · rw [List.take_of_length_le (by omega)] at hx
      rw [List.take_of_length_le (by omega)] at ih
      have a := ih x hx
      have b : ((n + 1) * 12 ^ n) ^ i ≤ ((n + 1) * 12 ^ n) ^ (i + 1) := Nat.pow_le_pow_right (Nat.mul_pos (by omega) (Nat.pow_pos (by omega))) (by omega)
      omega
theorem big_fold {n i : Nat} (hn : n ≤ 60) (hi : i ≤ 12) : ((n + 1) * 12 ^ n) ^ i < 2 ^ 4000 := by
  have a : (n + 1) * 12 ^ n ≤ 61 * 12 ^ 60 := Nat.mul_le_mul (by omega) (Nat.pow_le_pow_right (by omega) hn)
  have b : ((n + 1) * 12 ^ n) ^ i ≤ (61 * 12 ^ 60) ^ i := Nat.pow_le_pow_left a i
  have c : (61 * 12 ^ 60) ^ i ≤ (61 * 12 ^ 60) ^ 12 := Nat.pow_le_pow_right (by decide) hi
  have d : (61 * 12 ^ 60) ^ 12 < 2 ^ 4000 := by decide +kernel
  omega
theorem big_cl {n : Nat} (hn : n ≤ 60) : 12 ^ n < 2 ^ 4000 := by
  have a : 12 ^ n ≤ 12 ^ 60 := Nat.pow_le_pow_right (by omega) hn
  have d : 12 ^ 60 < 2 ^ 4000 := by decide +kernel
  omega
/-- a new grid behind a new grid -/
theorem GridN.ext {H H1 H2 : Hp} {s d : Addr} {G F : Grid} (h : GridN H H1 s G) (g : GridN H1 H2 d F) (e : Ex H1 H2) (low : ∀ x, H1 x = none → H x = none) : ∃ xs zs, H2 s = some (.lst xs) ∧ H2 d = some (.lst zs) ∧ xs.length = G.length ∧ zs.length = F.length ∧ GridN H (upd H2 s (.lst (xs ++ zs))) s (G ++ F) := by
  obtain ⟨h0, ps, h1, h2, h4, h5, h3⟩ := h
  obtain ⟨g0, qs, g1, g2, g4, g5, g3⟩ := g
  refine ⟨_, _, e _ _ h1, g1, by rw [List.length_map, h2], by rw [List.length_map, g2], h0, ps ++ qs, by rw [upd_same, List.map_append], by rw [List.length_append, List.length_append, h2, g2], ?_, ?_, fun i p q => ?_⟩
  · rw [List.nodup_append]
    refine ⟨h4, g4, fun a ha b hb z => ?_⟩
    subst z
    obtain ⟨i, hi, ei⟩ := List.getElem_of_mem ha
    obtain ⟨j, hj, ej⟩ := List.getElem_of_mem hb
    have a1 := (h3 i a (List.getElem?_eq_some_iff.mpr ⟨hi, ei⟩)).2
    have a2 := (g3 j a (List.getElem?_eq_some_iff.mpr ⟨hj, ej⟩)).1
    rw [a2] at a1
    cases a1
  · intro m
    rcases List.mem_append.mp m with m | m
    · exact h5 m
    · obtain ⟨j, hj, ej⟩ := List.getElem_of_mem m
      have a2 := (g3 j s (List.getElem?_eq_some_iff.mpr ⟨hj, ej⟩)).1
      rw [a2] at h1
      cases h1
  · by_cases hi : i < ps.length
    · rw [List.getElem?_append_left hi] at q
      have := h3 i p q
      have ns : p ≠ s := fun z => h5 (z ▸ List.mem_of_getElem? q)
      refine ⟨this.1, ?_⟩
      rw [upd_ne ns, e _ _ this.2]
      unfold row
      rw [List.getD_eq_getElem?_getD, List.getD_eq_getElem?_getD, List.getElem?_append_left (by omega)]
    · rw [List.getElem?_append_right (by omega)] at q
      have := g3 _ p q
      have ns : p ≠ s := fun z => by
        have a := this.1
        rw [z, h1] at a
        cases a
      refine ⟨low p this.1, ?_⟩
      rw [upd_ne ns, this.2]
      unfold row
      rw [List.getD_eq_getElem?_getD, List.getD_eq_getElem?_getD, List.getElem?_append_right (by omega), h2]
theorem kept_ones (s : List Nat) (k : Nat → Bool) : kept s.length (fun i => k (s.getD i 0)) (fun _ => V.int 1) = (nz ((s.filter k).map fun _ => 1)).map V.int := by
  unfold kept nz
  have e : (List.range s.length).map (fun i => s.getD i 0) = s := by
    apply List.ext_getElem?
    intro j
    by_cases h : j < s.length
    · rw [List.getElem?_map, List.getElem?_range h, List.getElem?_eq_getElem h]
      show some (s.getD j 0) = _
      rw [List.getD_eq_getElem?_getD, List.getElem?_eq_getElem h]
      rfl
    · rw [List.getElem?_eq_none (by rw [List.length_map, List.length_range]; omega), List.getElem?_eq_none (by omega)]
  conv => rhs; rw [← e]
  rw [List.filter_map, List.map_map, List.map_map, List.map_map]
  rfl
/-- the rows that are kept -/
theorem GridAt.keep {H' : Hp} {D : Addr} {ps : List Addr} {G : Grid} (P : List Nat → Bool) (k : Nat → Bool) (hl : ps.length = G.length) (hr : ∀ i p, ps[i]? = some p → H' p = some (.lst ((nz (row G i)).map V.int))) (hk : ∀ i, i < G.length → k i = P (row G i))
    (hD : H' D = some (.lst (kept G.length k fun i => .ref (ps.getD i 0)))) : GridAt H' D (G.filter P) := by
  have eG : G = (List.range G.length).map (row G) := by
    apply List.ext_getElem?
    intro j
    by_cases h : j < G.length
    · rw [List.getElem?_map, List.getElem?_range h, at_row h]
      rfl
    · rw [List.getElem?_eq_none (by omega), List.getElem?_eq_none (by rw [List.length_map, List.length_range]; omega)]
  have eF : G.filter P = ((List.range G.length).filter k).map (row G) := by
    conv => lhs; rw [eG]
    rw [List.filter_map]
    congr 1
    apply List.filter_congr
    intro i hi
    rw [List.mem_range] at hi
    exact (hk i hi).symm
  refine ⟨((List.range G.length).filter k).map fun i => ps.getD i 0, ?_, ?_, fun i p e => ?_⟩
  · rw [hD]
    unfold kept
    rw [List.map_map]
    rfl
  · rw [eF, List.length_map, List.length_map]
  · rw [List.getElem?_map] at e
    cases q : ((List.range G.length).filter k)[i]? with
    | none => rw [q] at e; cases e
    | some j =>
      rw [q] at e
      have hj : j < G.length := List.mem_range.mp (List.mem_filter.mp (List.mem_of_getElem? q)).1
      have hx : ps[j]? = some ps[j] := List.getElem?_eq_getElem (by omega)
      have ep : ps.getD j 0 = p := Option.some.inj e
      rw [List.getD_eq_getElem?_getD, hx] at ep
      obtain rfl : ps[j] = p := ep
      rw [hr j _ hx]
      have : row (G.filter P) i = row G j := by
        rw [eF]
        unfold row
        rw [List.getD_eq_getElem?_getD, List.getElem?_map, q]
        rfl
      rw [this]
end
end BC

set_option Elab.async false
set_option linter.all false
set_option maxRecDepth 100000
set_option maxHeartbeats 4000000
/-! dicts: readings, loops over keys, keys that are texts of lists of digits -/
namespace BC
open PySem PySem.Spec PyProof.Rows L2 Evl
section
variable {K : PySem.W.Frag} {σ : L2.St} {H : Hp} {Q : VK} {QT : Bool → Hp → Prop} {td ty tv tx : TE} {D : Ends} {g : TG} {tb : TS} {c : TE}
theorem x_dnewK : tDNewK σ H Q = ∀ p, H p = none → Q (.ref p) (upd H p (.dK [])) := rfl
theorem x_dnewT : tDNewT σ H Q = ∀ p, H p = none → Q (.ref p) (upd H p (.dT [])) := rfl
theorem x_dget : tDGet td ty σ H Q = td σ H (fun x H1 => ty σ H1 fun y H2 => ∃ a v, x = .ref a ∧ DGet H2 a y (some v) ∧ Q v H2) := rfl
theorem x_dget1 : tDGet1 td ty σ H Q = td σ H (fun x H1 => ∃ a, x = .ref a ∧ IsD H1 a ∧ ty σ H1 fun y H2 => ∃ o, DGet H2 a y o ∧ Q (o.getD .non) H2) := rfl
theorem x_dget2 : tDGet2 td ty tx σ H Q = td σ H (fun x H1 => ∃ a, x = .ref a ∧ IsD H1 a ∧ ty σ H1 fun y H2 => tx σ H2 fun z H3 => ∃ o, DGet H3 a y o ∧ Q (o.getD z) H3) := rfl
theorem x_din : tDIn ty td σ H Q = ty σ H (fun y H1 => td σ H1 fun x H2 => ∃ a o, x = .ref a ∧ DGet H2 a y o ∧ Q (.bl o.isSome) H2) := rfl
theorem x_dnotin : tDNotIn ty td σ H Q = ty σ H (fun y H1 => td σ H1 fun x H2 => ∃ a o, x = .ref a ∧ DGet H2 a y o ∧ Q (.bl (!o.isSome)) H2) := rfl
theorem x_dput : sDPut td ty tv D σ H = tv σ H (fun v H1 => td σ H1 fun x H2 => ty σ H2 fun y H3 => ∃ a H4, x = .ref a ∧ DPut H3 a y v H4 ∧ D.nx σ H4) := rfl
theorem x_ikeys {R : It → Hp → Prop} : iKeys td σ H R = td σ H (fun x H1 => ∃ d o, x = .ref d ∧ ((∃ kvs, H1 d = some (.frz o (.dK kvs)) ∧ R (Itk d o kvs) H1) ∨ ∃ kvs, H1 d = some (.frz o (.dT kvs)) ∧ R (Itkt d o kvs) H1)) := rfl
/-- the keys of a locked dict -/
theorem lg_keys {d : Addr} {o : Obj} {kvs : List (Key × V)} (Pv : Nat → L2.St → Hp → Prop) (h0 : Pv 0 σ H) (hl : ∀ i σ H, i ≤ kvs.length → Pv i σ H → H d = some (.frz o (.dK kvs)))
    (hs : ∀ i k v σ H, kvs[i]? = some (k, v) → Pv i σ H → g (kV k) σ H fun σ2 H2 => tb { D with nx := Pv (i + 1), ct := Pv (i + 1), bk := D.nx } σ2 H2) (hd : ∀ σ H, Pv kvs.length σ H → D.nx σ H) : LoopG (Itk d o kvs) g tb D σ H := by
  refine ⟨fun i m σ H => m = kvs.length - i ∧ i ≤ kvs.length ∧ Pv i σ H, ⟨kvs.length, by simp, Nat.zero_le _, h0⟩, ?_⟩
  rintro i m σ H ⟨rfl, hi, p⟩
  have q := hl i σ H hi p
  by_cases hlt : i < kvs.length
  · refine .inr ⟨⟨q, hlt⟩, Pv (i + 1), fun σ' H' p' => ⟨kvs.length - (i + 1), by omega, rfl, hlt, p'⟩, fun x H' y => ?_⟩
    obtain ⟨rfl, k, v, e, rfl⟩ := y
    exact hs i k v σ _ e p
  · have e : i = kvs.length := by omega
    subst e
    exact .inl ⟨⟨q, Nat.le_refl _⟩, hd σ H p⟩
end
theorem frz_ex {H H' : Hp} {d : Addr} {u x : HO} (h : H d = some u) (e : Ex (upd H d x) H') : Ex H (upd H' d u) := fun a o ho => by
  by_cases q : a = d
  · subst q
    rw [upd_same]
    rw [h] at ho
    exact ho
  · rw [upd_ne q]
    exact e a o (by rw [upd_ne q]; exact ho)
theorem ex_frz {H H' : Hp} {d a : Addr} {o : HO} {x : HO} (q : a ≠ d) (ho : H a = some o) (e : Ex (upd H d x) H') : H' a = some o := e a o (by rw [upd_ne q]; exact ho)
/-! ### lists of digits, shown -/
def Dg (t : List Int) : Prop := ∀ n ∈ t, 0 ≤ n ∧ n < 10
def digL (cs : List Nat) : List Int := (cs.filter fun c => decide (48 ≤ c) && decide (c < 58)).map fun c : Nat => (c : Int) - 48
theorem digL_append (a b : List Nat) : digL (a ++ b) = digL a ++ digL b := by
  unfold digL
  rw [List.filter_append, List.map_append]
theorem digL_one : ∀ k : Fin 10, digL (Str.ofString (toString ((k.val : Nat) : Int))).cps.toList = [((k.val : Nat) : Int)] := by decide +kernel
theorem digL_int {n : Int} (h0 : 0 ≤ n) (h1 : n < 10) : digL (Str.ofString (toString n)).cps.toList = [n] := by
  have h := digL_one ⟨n.toNat, by omega⟩
  rw [show ((n.toNat : Nat) : Int) = n by omega] at h
  exact h
theorem digL_join : ∀ ns : List Int, Dg ns → digL (Str.join ", " (ns.map fun n => ((toString n : String) : Str))).cps.toList = ns
  | [], _ => by decide +kernel
  | [n], h => by
    obtain ⟨h0, h1⟩ := h n List.mem_cons_self
    exact digL_int h0 h1
  | n :: m :: ns, h => by
    obtain ⟨h0, h1⟩ := h n List.mem_cons_self
    have ih := digL_join (m :: ns) fun x hx => h x (List.mem_cons_of_mem _ hx)
    show digL ((((toString n : String) : Str) ++ ", " ++ Str.join ", " ((m :: ns).map fun n => ((toString n : String) : Str))).cps.toList) = _
    rw [cps_toList_append, cps_toList_append, digL_append, digL_append, ih, digL_int h0 h1, signs_sep]
    rfl
theorem digL_shown {ns : List Int} (h : Dg ns) : digL (shInts ns).cps.toList = ns := by
  unfold shInts
  rw [PyData.shown_list, PyData.shownAll_ints, cps_toList_append, cps_toList_append, digL_append, digL_append, digL_join ns h, signs_lbrack, signs_rbrack]
  show [] ++ ns ++ [] = ns
  simp
theorem shInts_inj {a b : List Int} (ha : Dg a) (hb : Dg b) (e : shInts a = shInts b) : a = b := by
  rw [← digL_shown ha, ← digL_shown hb, e]
/-! ### dicts by such texts -/
section
variable {α : Type} {f : α → V}
def kx (t : List Int) : Key := Sum.inr (shInts t)
theorem kx_inj {a b : List Int} (ha : Dg a) (hb : Dg b) : kx a = kx b ↔ a = b := ⟨fun e => shInts_inj ha hb (Sum.inr.inj e), fun e => by rw [e]⟩
def ren (f : α → V) (L : List (List Int × α)) : List (Key × V) := L.map fun p => (kx p.1, f p.2)
def getA (L : List (List Int × α)) (t : List Int) : Option α := (L.find? fun p => decide (p.1 = t)).map (·.2)
def putA (L : List (List Int × α)) (t : List Int) (a : α) : List (List Int × α) := if (L.any fun p => decide (p.1 = t)) = true then L.map (fun p => if p.1 = t then (p.1, a) else p) else L ++ [(t, a)]
theorem ren_val (t : List Int) (ht : Dg t) : ∀ L : List (List Int × α), (∀ p ∈ L, Dg p.1) → valV (ren f L) (kx t) = (getA L t).map f
  | [], _ => rfl
  | p :: L, h => by
    have ih := ren_val t ht L fun q hq => h q (List.mem_cons_of_mem _ hq)
    have hp := h p List.mem_cons_self
    show valV ((kx p.1, f p.2) :: ren f L) (kx t) = _
    by_cases e : p.1 = t
    · rw [valV_pos (by show kx p.1 = kx t; rw [e])]
      simp [getA, e]
    · rw [valV_neg (by show ¬ kx p.1 = kx t; rw [kx_inj hp ht]; exact e), ih]
      simp [getA, e]
theorem ren_any (t : List Int) (ht : Dg t) : ∀ L : List (List Int × α), (∀ p ∈ L, Dg p.1) → ((ren f L).any fun kv => decide (kv.1 = kx t)) = L.any fun p => decide (p.1 = t)
  | [], _ => rfl
  | p :: L, h => by
    have ih := ren_any t ht L fun q hq => h q (List.mem_cons_of_mem _ hq)
    have hp := h p List.mem_cons_self
    show (decide (kx p.1 = kx t) || (ren f L).any fun kv => decide (kv.1 = kx t)) = _
    rw [ih, List.any_cons]
    congr 1
    exact decide_eq_decide.mpr (kx_inj hp ht)
theorem ren_put (t : List Int) (ht : Dg t) (a : α) (L : List (List Int × α)) (h : ∀ p ∈ L, Dg p.1) : putK (ren f L) (kx t) (f a) = ren f (putA L t a) := by
  unfold putK putA
  rw [ren_any t ht L h]
  by_cases c : (L.any fun p => decide (p.1 = t)) = true
  · rw [if_pos c, if_pos c]
    unfold ren
    rw [List.map_map, List.map_map]
    refine List.map_congr_left fun p hp => ?_
    show (if kx p.1 = kx t then (kx p.1, f a) else (kx p.1, f p.2)) = _
    by_cases e : p.1 = t
    · rw [if_pos (by rw [e])]
      show _ = (kx (if p.1 = t then (p.1, a) else p).1, f (if p.1 = t then (p.1, a) else p).2)
      rw [if_pos e]
    · rw [if_neg (by rw [kx_inj (h p hp) ht]; exact e)]
      show _ = (kx (if p.1 = t then (p.1, a) else p).1, f (if p.1 = t then (p.1, a) else p).2)
      rw [if_neg e]
  · rw [if_neg c, if_neg c]
    unfold ren
    rw [List.map_append]
    rfl
theorem putA_key {L : List (List Int × α)} {t : List Int} {a : α} {p : List Int × α} (h : p ∈ putA L t a) : p.1 = t ∨ ∃ q ∈ L, q.1 = p.1 := by
  unfold putA at h
  split at h
  · obtain ⟨q, hq, rfl⟩ := List.mem_map.mp h
    refine .inr ⟨q, hq, ?_⟩
    split <;> rfl
  · rcases List.mem_append.mp h with h | h
    · exact .inr ⟨p, h, rfl⟩
    · rw [List.mem_singleton.mp h]
      exact .inl rfl
theorem putA_len (L : List (List Int × α)) (t : List Int) (a : α) : (putA L t a).length ≤ L.length + 1 := by
  unfold putA
  split
  · rw [List.length_map]; omega
  · rw [List.length_append, List.length_singleton]; omega
theorem ren_len (L : List (List Int × α)) : (ren f L).length = L.length := by unfold ren; rw [List.length_map]
theorem ren_at {L : List (List Int × α)} {i : Nat} {k : Key} {v : V} (h : (ren f L)[i]? = some (k, v)) : ∃ t a, L[i]? = some (t, a) ∧ k = kx t ∧ v = f a := by
  unfold ren at h
  rw [List.getElem?_map] at h
  cases e : L[i]? with
  | none => rw [e] at h; cases h
  | some p => rw [e] at h; cases h; exact ⟨p.1, p.2, rfl, rfl, rfl⟩
end
end BC
namespace BC
open PySem PySem.Spec PyProof.Rows L2 Evl
section
variable {α : Type} {f : α → V}
theorem putA_nodup {L : List (List Int × α)} {t : List Int} {a : α} (h : (L.map (·.1)).Nodup) : ((putA L t a).map (·.1)).Nodup := by
  unfold putA
  split
  · rw [List.map_map]
    have e : ((fun p : List Int × α => p.1) ∘ fun p : List Int × α => if p.1 = t then (p.1, a) else p) = fun p => p.1 := funext fun p => by
      show (if p.1 = t then (p.1, a) else p).1 = p.1
      split <;> rfl
    rw [e]
    exact h
  · next c =>
    rw [List.map_append, List.nodup_append]
    refine ⟨h, by simp, fun x hx y hy e => ?_⟩
    obtain ⟨p, hp, rfl⟩ := List.mem_map.mp hx
    have hy' : y = t := by simpa using hy
    refine c (List.any_eq_true.mpr ⟨p, hp, decide_eq_true ?_⟩)
    rw [e, hy']
theorem getA_at : ∀ {L : List (List Int × α)} {i : Nat} {t : List Int} {a : α}, (L.map (·.1)).Nodup → L[i]? = some (t, a) → getA L t = some a
  | [], _, _, _, _, h => by simp at h
  | p :: L, 0, t, a, _, h => by
    have : p = (t, a) := by simpa using h
    subst this
    simp [getA]
  | p :: L, i + 1, t, a, nd, h => by
    rw [List.map_cons, List.nodup_cons] at nd
    have h' : L[i]? = some (t, a) := by simpa using h
    have ih := getA_at nd.2 h'
    have ne : p.1 ≠ t := fun e => nd.1 (List.mem_map.mpr ⟨(t, a), List.mem_of_getElem? h', e.symm⟩)
    unfold getA at ih ⊢
    rw [List.find?_cons, decide_eq_false ne]
    exact ih
end
/-- what stands at a text's key, counted -/
theorem ren_get {L : List (List Int × Int)} {t : List Int} (ht : Dg t) (h : ∀ p ∈ L, Dg p.1) : (valV (ren V.int L) (kx t)).getD (.int 0) = .int ((getA L t).getD 0) := by
  rw [ren_val t ht L h]
  cases getA L t <;> rfl
theorem ints_at {ns : List Int} {i : Nat} {v : V} (h : (ns.map V.int)[i]? = some v) : ∃ n, ns[i]? = some n ∧ v = .int n := by
  rw [List.getElem?_map] at h
  cases e : ns[i]? with
  | none => rw [e] at h; cases h
  | some n => rw [e] at h; cases h; exact ⟨n, rfl, rfl⟩
theorem refs_at {ps : List Addr} {i : Nat} {v : V} (h : (ps.map V.ref)[i]? = some v) : ∃ q, ps[i]? = some q ∧ v = .ref q := by
  rw [List.getElem?_map] at h
  cases e : ps[i]? with
  | none => rw [e] at h; cases h
  | some n => rw [e] at h; cases h; exact ⟨n, rfl, rfl⟩
theorem tyS {K : PySem.W.Frag} {H : Hp} {x : Str} : tyV K "str" (.str x) H := rfl
end BC

set_option Elab.async false
set_option linter.all false
set_option maxRecDepth 100000
set_option maxHeartbeats 4000000
/-! own __len__, sorted(d.items()), comprehensions over pairs -/
namespace BC
open PySem PySem.Spec PyProof.Rows L2 Evl
section
variable {X : Cx} {CX : CXT} {k : Nat} {C f : Addr} {fd : FuncData} {ps : List Str} {sp : Sp} {E : XK}
/-- len(o), by the class's own __len__ -/
def rLenOwn (C : Addr) (sp : Sp) (E : XK) : List V → Hp → VK → Prop := fun xs H Q => ∃ a dx fs, xs = [.ref a] ∧ H a = some (.ins C dx fs) ∧ sp [.ref a] H (fun v H' => ∃ n : Int, v = .int n ∧ 0 ≤ n ∧ n < 2 ^ 63 ∧ Q (.int n) H') E
theorem call_lenOwn (hs : PySem.W.findIn X.K (.ref C) "__len__" = some (some (.ref f))) (hf : PySem.W.isFn X.K (.ref f) = true) (F : FnOk X.prog X.w X.K X.mg X.base CX k f fd ps sp) (hr : Room (k + 1) X.A) (hb : Binds X.K fd ps []) (hx : Passes CX X E) : CallR X (.builtin "len") (rLenOwn C sp E) := by
  intro pins s σ H xs us Q I r h
  obtain ⟨a, dx, fs, rfl, ea, h⟩ := h
  obtain ⟨u, rfl, ru⟩ := vals1 r
  obtain rfl : u = Value.ref a := ru
  obtain ⟨mA, O, _, _, _, _⟩ := ins_get I.hok ea
  obtain ⟨od, J, _⟩ := O.look
  obtain ⟨m, hF⟩ := I.fr
  have hl : ([Value.ref a] ++ ([] : List Value)).length = ps.length := by
    rw [← F.len _ _ _ _ h]
    rfl
  refine PySem.W.len_K hF I.ok.mod.kin J hs hf (wpAny_call ?_)
  refine codeAny_mono (F.run X.A.in1 X.stack s H ⟨[.ref a], []⟩ [.ref a] [.ref a] _ E hr.in1 I.env0.in1 (hb _ [.ref a] I.kIn hl) (.cons rfl .nil) h) fun r s' hq => ?_
  cases r with
  | error er => exact hx pins σ H s er s' I hq
  | ok fl =>
    cases fl with
    | ret u =>
      obtain ⟨v, H', I3, rv, n, rfl, n0, n1, q⟩ := I.after hq
      obtain ⟨t, rfl⟩ := rv
      exact ⟨⟨n0, n1⟩, .int n, H', I3.tok _, ⟨_, rfl⟩, q⟩
    | next => exact False.elim hq
    | brk => exact False.elim hq
    | cont => exact False.elim hq
end
/-! ### sorted(d.items()), numbers by numbers -/
def PairAt (H : Hp) (t : Addr) (q : Int × Int) : Prop := H t = some (.tup [.int q.1, .int q.2])
def itK (q : Int × Int) : Key × V := (Sum.inl q.1, .int q.2)
def leP (a b : Int × Int) : Prop := a.1 < b.1 ∨ (a.1 = b.1 ∧ a.2 ≤ b.2)
open L2.DX
/-- d.items() of a dict of numbers or texts -/
def rItems : V → List V → Hp → VK → Prop := fun x xs H Q => ∃ (a : Addr) (kvs : List (Key × V)), x = .ref a ∧ xs = [] ∧ H a = some (.dK kvs) ∧ ∀ p, H p = none → Q (.ref p) (upd H p (itemsO p a))
def rSortIt : List V → Hp → VK → Prop := fun xs H Q => ∃ (v d : Addr) (qs : List (Int × Int)), xs = [.ref v] ∧ H v = some (itemsO v d) ∧ H d = some (.dK (qs.map itK)) ∧
  ∀ (H' : Hp) (p : Addr) (ts : List Addr) (rs : List (Int × Int)), Ex H H' → H p = none → H' p = some (.lst (ts.map V.ref)) → rs.Perm qs → rs.Pairwise leP → ts.length = rs.length → (∀ i t, ts[i]? = some t → H t = none ∧ PairAt H' t (rs.getD i (0, 0))) → Q (.ref p) H'
theorem pairs_get {κ : Type} [DecidableEq κ] {P : Program} {w : World} {knd : KeyKind P w κ} {es : List DictEntry} {vs : List (κ × Value)} (h : Pairs knd es vs) : ∀ {j : Nat} {en : DictEntry}, es[j]? = some en → ∃ kv, vs[j]? = some kv ∧ knd.is kv.1 en.key = true ∧ en.val = kv.2 := by
  induction h with
  | nil => intro j en e; simp at e
  | @cons e kv es kvs h1 h2 _ ih =>
    intro j en he
    cases j with
    | zero =>
      simp at he
      subst he
      exact ⟨kv, by simp, h1, h2⟩
    | succ j =>
      simp only [List.getElem?_cons_succ] at he ⊢
      exact ih he
section
variable {X : Cx}
theorem mt_items : MtR X "dict.items" rItems := by
  intro pins s σ H x xs v us Q I rx rxs h
  obtain ⟨a, kvs, rfl, rfl, ha, q⟩ := h
  cases rx
  cases rxs
  obtain ⟨hz, hd0, vs, kv, o, es, ep, ho, hx, hdat, _⟩ := dk_of I.hok ha
  refine DT.callItems (es := es) (ep := ep) hd0 ⟨o, ho, hx, hdat⟩ ?_
  have hf : H s.heap.objs.size = none := I.hok.fresh (Nat.le_refl _)
  exact ⟨.ref s.heap.objs.size, upd H s.heap.objs.size (itemsO s.heap.objs.size a), I.laid (t' := s.toks) (fun b u e => Heap.get?_push_of_some _ e) (Nat.le_refl _) (itemsO_ok (Heap.get?_push_size _ rfl)), rfl, q _ hf⟩
def adr : Value → Addr
  | .ref b => b
  | _ => 0
theorem cr_sortIt (hc : X.calm = true) : CallR X (.builtin "sorted") rSortIt := by
  intro pins s σ H xs us Q I r h
  obtain ⟨p, a, qs, rfl, hp, ha, q⟩ := h
  obtain rfl := Vals.ref1 r
  have view : s.heap.IsItemsView p a := (show ObjOk X.prog X.w H s.heap p (itemsO p a) from I.hok p _ hp).1
  obtain ⟨hz, hd0, vs, kv, o, es, ep, ho, hx, hdat, hks, prs, hn⟩ := dk_of I.hok ha
  rw [List.length_map] at hz
  have l1 : (qs.map itK).length = vs.length := Paired.length kv
  rw [List.length_map] at l1
  have l2 : es.size = vs.length := by rw [← prs.length, Array.length_toList]
  refine DT.sortedI (es := es) (ep := ep) (I.ok.hd hc) view ⟨o, ho, hx, hdat⟩ (by omega) fun h' tk as hk hlt hl hG => ?_
  have lak : as.length = qs.length := by omega
  have nd : as.Nodup := List.Pairwise.imp (fun h => Nat.ne_of_lt h) hG.rise
  have pr : ∀ (j : Nat) (b : Addr), as[j]? = some b → ∃ (g : Int × Int) (t u : Tok), qs[j]? = some g ∧ h'.get? b = some { cls := .type "tuple", data := .seq #[Value.int g.1 t, Value.int g.2 u] } := by
    intro j b hj
    obtain ⟨en, he, hg⟩ := hG.pairs j b hj
    have he' : es.toList[j]? = some en := by rw [Array.getElem?_toList]; exact he
    obtain ⟨kv0, h1, h2, h3⟩ := pairs_get prs he'
    have hjl : j < qs.length := by have := (List.getElem?_eq_some_iff.mp hj).1; omega
    have hq : qs[j]? = some qs[j] := List.getElem?_eq_getElem hjl
    obtain ⟨u, hu, ru⟩ := kv_get kv (i := j) (k := Sum.inl qs[j].1) (v := .int qs[j].2) (by rw [List.getElem?_map, hq]; rfl)
    rw [h1] at hu
    cases hu
    obtain ⟨tk1, hk1⟩ : RelV (kV (Sum.inl qs[j].1)) en.key := relV_key (show keyIs (Sum.inl qs[j].1) en.key = true from h2)
    obtain ⟨tk2, hk2⟩ := ru
    refine ⟨qs[j], tk1, tk2, hq, ?_⟩
    rw [hg, h3, hk2]
    have : en.key = Value.int qs[j].1 tk1 := hk1
    rw [this]
  have hob : (h'.push { cls := .type "list", data := .seq (as.map Value.ref).toArray }).get? h'.objs.size = some (seqObj "list" (as.map Value.ref).toArray 0) := Heap.get?_push_size _ rfl
  have kb : ∀ b o, s.heap.get? b = some o → (h'.push { cls := .type "list", data := .seq (as.map Value.ref).toArray }).get? b = some o := fun b o e => Heap.get?_push_of_some _ (hk b o e)
  have ne0 : ∀ b o, h'.get? b = some o → b ≠ h'.objs.size := fun b o e => Nat.ne_of_lt (Heap.lt_size e)
  generalize hh2 : h'.push { cls := .type "list", data := .seq (as.map Value.ref).toArray } = h2 at hob kb ⊢
  have ka : ∀ b o, h'.get? b = some o → h2.get? b = some o := fun b o e => by rw [← hh2]; exact Heap.get?_push_of_some _ e
  let kf : Value → Int × Int := fun u => qs.getD (as.idxOf (adr u)) (0, 0)
  have kfa : ∀ (j : Nat) (b : Addr), as[j]? = some b → kf (.ref b) = qs.getD j (0, 0) := fun j b hj => by
    obtain ⟨hjl, hjb⟩ := List.getElem?_eq_some_iff.mp hj
    show qs.getD (as.idxOf b) (0, 0) = _
    rw [← hjb, nd.idxOf_getElem j hjl]
  have isp : ∀ v ∈ as.map Value.ref, Srt.IsPair h2 v (kf v).1 (kf v).2 := fun v hv => by
    obtain ⟨b, hb, rfl⟩ := List.mem_map.mp hv
    obtain ⟨j, hj⟩ := List.mem_iff_getElem?.mp hb
    obtain ⟨g, t, u, hg, hob⟩ := pr j b hj
    rw [kfa j b hj, List.getD_eq_getElem?_getD, hg]
    exact ⟨b, _, t, u, 0, rfl, ka _ _ hob, rfl, rfl⟩
  refine wpAny_call_entry PyProof.Rows.slot_list_sort ⟨_, hob, rfl⟩ PyProof.Rows.entry_list_sort
    (SrtO.list_sort_ord (s := { s with heap := h2, toks := tk }) (SrtO.swo_lex kf) hob (by rw [List.length_map]; omega) (fun h2' => SrtO.pairs_sortableO (by omega) isp fun o e => ?_) fun out h1 h2' => ⟨.none, rfl, ?_⟩) (PyProof.Rows.args_list_sort _)
  · have e' : some o = some (seqObj "list" (as.map Value.ref).toArray 0) := e.symm.trans hob
    cases e'
    intro c
    exact absurd (Value.type.inj c) (by decide)
  · show EP X pins σ Q (.ref h'.objs.size) { s with heap := sortedHeap h2 h'.objs.size (as.map Value.ref) out.toArray, toks := tk }
    have hperm := h2'.perm
    have outr : ∀ u ∈ out, ∃ b, b ∈ as ∧ u = Value.ref b := fun u hu => by
      obtain ⟨b, hb, e⟩ := List.mem_map.mp (hperm.mem_iff.mp hu)
      exact ⟨b, hb, e.symm⟩
    have hout : out = (out.map adr).map Value.ref := by
      rw [List.map_map]
      conv => lhs; rw [← List.map_id out]
      refine List.map_congr_left fun u hu => ?_
      obtain ⟨b, _, rfl⟩ := outr u hu
      rfl
    have tperm : (out.map adr).Perm as := by
      have := hperm.map adr
      rw [List.map_map] at this
      have e : as.map (adr ∘ Value.ref) = as := by
        conv => rhs; rw [← List.map_id as]
        exact List.map_congr_left fun b _ => rfl
      rw [e] at this
      exact this
    have kF : ∀ b o, b ≠ h'.objs.size → h2.get? b = some o → (sortedHeap h2 h'.objs.size (as.map Value.ref) out.toArray).get? b = some o := fun b o hb e => (PyProof.Rows.sortedHeap_old hb (Heap.lt_size e)).trans e
    have kS : ∀ b o, s.heap.get? b = some o → (sortedHeap h2 h'.objs.size (as.map Value.ref) out.toArray).get? b = some o := fun b o e => kF b o (ne0 _ _ (hk b o e)) (kb b o e)
    obtain ⟨eF, heF⟩ := PyProof.Rows.sortedHeap_at (vs := as.map Value.ref) (out := out.toArray) hob
    have I1 : Inv X pins σ H { s with heap := sortedHeap h2 h'.objs.size (as.map Value.ref) out.toArray, toks := tk } := I.kept (t' := tk) kS
    have hn0 : H h'.objs.size = none := I.hok.fresh (Nat.le_of_lt hlt)
    have lout : (out.map adr).length = qs.length := by rw [tperm.length_eq, lak]
    have rv : Vals ((out.map adr).map V.ref) out := by
      conv => rhs; rw [hout]
      exact LiI.vals_refs _
    have I2 : Inv X pins σ (upd H h'.objs.size (.lst ((out.map adr).map V.ref))) { s with heap := sortedHeap h2 h'.objs.size (as.map Value.ref) out.toArray, toks := tk } :=
      I1.take (h' := sortedHeap h2 h'.objs.size (as.map Value.ref) out.toArray) (t' := tk) (fun b ob _ e => e) (I.fpOk (Nat.le_of_lt hlt) hn0) ⟨by rw [List.length_map, lout]; omega, out, eF, rv, heF⟩
    obtain ⟨H2, I3, g, qt⟩ := takeT (P := fun b vs => ∃ (j : Nat) (g : Int × Int), as[j]? = some b ∧ qs[j]? = some g ∧ vs = [.int g.1, .int g.2]) I as _ I2 nd fun b hb => by
      obtain ⟨j, hj⟩ := List.mem_iff_getElem?.mp hb
      obtain ⟨g, t, u, hg, hob⟩ := pr j b hj
      have hbl : s.heap.objs.size ≤ b := Nat.le_of_lt (hG.above b hb)
      refine ⟨hbl, ?_, [.int g.1, .int g.2], ⟨j, g, hj, hg, rfl⟩, fun H3 => ⟨(by rw [sizeLine_eq]; show 2 ≤ 16777216; omega), [Value.int g.1 t, Value.int g.2 u], .cons ⟨t, rfl⟩ (.cons ⟨u, rfl⟩ .nil), ⟨_, kF _ _ (ne0 _ _ hob) (ka _ _ hob), rfl, 0, rfl⟩⟩⟩
      rw [upd_ne (ne0 _ _ hob)]
      exact I.hok.fresh hbl
    have gr : ∀ b o, H b = some o → H2 b = some o := fun b o e => g b o (by rw [upd_ne (ne_of_none e hn0)]; exact e)
    refine ⟨.ref h'.objs.size, H2, I3, rfl, q H2 h'.objs.size (out.map adr) ((out.map adr).map fun b => kf (.ref b)) gr hn0 (g _ _ upd_same) ?_ ?_ (by simp only [List.length_map]) fun i t hi => ?_⟩
    · have e := tperm.map (fun b => kf (.ref b))
      have e2 : as.map (fun b => kf (.ref b)) = qs := by
        apply List.ext_getElem?
        intro j
        rw [List.getElem?_map]
        cases c : as[j]? with
        | none =>
          rw [List.getElem?_eq_none_iff] at c
          rw [List.getElem?_eq_none (by omega)]
          rfl
        | some b =>
          have hjl := (List.getElem?_eq_some_iff.mp c).1
          show some (kf (.ref b)) = _
          rw [kfa j b c, List.getD_eq_getElem?_getD, List.getElem?_eq_getElem (by omega)]
          rfl
      rw [e2] at e
      exact e
    · have hs := h1
      rw [hout] at hs
      unfold SrtO.Srtd at hs
      rw [List.pairwise_map] at hs
      rw [List.pairwise_map]
      refine hs.imp fun {x y} h => ?_
      have := SrtO.lexB_no.mp h
      unfold leP
      show (kf (.ref x)).1 < (kf (.ref y)).1 ∨ ((kf (.ref x)).1 = (kf (.ref y)).1 ∧ (kf (.ref x)).2 ≤ (kf (.ref y)).2)
      omega
    · have ta : t ∈ as := tperm.mem_iff.mp (List.mem_of_getElem? hi)
      obtain ⟨vs', ⟨j, g', j1, j2, ev⟩, hH⟩ := qt t ta
      refine ⟨I.hok.fresh (Nat.le_of_lt (hG.above t ta)), ?_⟩
      have e3 : ((out.map adr).map fun b => kf (.ref b)).getD i (0, 0) = g' := by
        rw [List.getD_eq_getElem?_getD, List.getElem?_map, hi]
        show kf (.ref t) = g'
        rw [kfa j t j1, List.getD_eq_getElem?_getD, j2]
        rfl
      unfold PairAt
      rw [e3, hH, ev]
end
/-! ### xs[:1] = ys -/
theorem bounds_head (n : Nat) : sliceBounds none (some 1) none n = (((0 : Nat) : Int), ((min 1 n : Nat) : Int), 1) := by
  unfold sliceBounds
  simp
  omega
section
variable {prog : Program} {w : World} {A : Around} {s : Shared} {E : Value → Shared → Prop}
theorem setItem_head {l b sl : Addr} {items new : Array Value} {n n2 : Nat} {vl vu : Value} {Q : Unit → Shared → Prop}
    (e : s.heap.get? l = some { cls := .type "list", data := .seq items n }) (e2 : s.heap.get? b = some { cls := .type "list", data := .seq new n2 }) (hne : l ≠ b)
    (hs : s.heap.IsSliceOf sl vl vu .none) (pl : IsPart vl none) (pu : IsPart vu (some 1))
    (hsz : items.size + new.size ≤ sizeLine) (h : Q () { s with heap := s.heap.update l (Obj.mapSeq fun xs => xs.extract 0 0 ++ new ++ xs.extract (min 1 items.size) xs.size) }) :
    wpAny (model prog w) A (setItem (.ref l) (.ref sl) (.ref b)) Q E s := by
  have hl : s.heap.IsList l items := PySem.IsL.isList e
  have hb : s.heap.IsList b new := PySem.IsL.isList e2
  obtain ⟨os, hos, hcs, hds⟩ := id hs
  have hTs : s.TypeIs (.ref sl) "slice" := ⟨os, hos, hcs⟩
  have hstep : ¬ ((rawPart none == rawInt 0) = true) := Bool.false_ne_true
  have hsame : Builtin.List.listSameRef (.ref l) (.ref b) = false := by
    unfold Builtin.List.listSameRef
    exact beq_eq_false_iff_ne.mpr hne
  have hmax : (max ((0 : Nat) : Int) ((min 1 items.size : Nat) : Int)).toNat = min 1 items.size := by omega
  have hz' : ((fun xs : Array Value => xs.extract 0 0 ++ new ++ xs.extract (min 1 items.size) xs.size) items).size ≤ sizeLine + 1 := by
    simp only [Array.size_append, Array.size_extract]
    omega
  unfold setItem
  try with_reducible refine wpAny_holding ?_
  first | refine wpAny_bind (wpAny_pure ?_) | skip
  refine wpAny_bind (wpAny_sequenceKey hl.typeIs (by decide) ?_)
  refine wpAny_bind (wpAny_callSpecial?_slot (name := Str.ofString "__setitem__") hl.typeIs slot_list_setitem
    (wpAny_call_entry slot_list_setitem hl.typeIs entry_list_setitem ?_ (args_list_setitem _ _ _)))
  show wpAny _ _ (Builtin.List.listSubscript? (.ref sl) >>= _) _ _ s
  refine wpAny_bind ?_
  unfold Builtin.List.listSubscript?
  refine wpAny_bind (wpAny_specialOf hTs slice_no_index ?_)
  simp only [Option.isNone_none, if_true]
  refine wpAny_pure ?_
  show wpAny _ _ (typeOf (.ref sl) >>= _) _ _ s
  refine wpAny_bind (wpAny_typeOf hTs ?_)
  first
    | rw [if_neg (by decide)]
    | refine PySem.W.KFB.if_not (by decide) ?_
  rw [listSliceParts_eq]
  refine wpAny_bind (wpAny_bind (wpAny_field hos hds (x := .none) rfl (wpAny_bind (wpAny_listPart .none ?_))))
  rw [if_neg hstep]
  refine wpAny_bind (wpAny_field hos hds (x := vl) rfl (wpAny_bind (wpAny_listPart pl ?_)))
  refine wpAny_bind (wpAny_field hos hds (x := vu) rfl (wpAny_bind (wpAny_listPart pu (wpAny_pure ?_))))
  first
    | simp only [hsame, Bool.false_eq_true, if_false]
    | refine PySem.W.KFB.if_not hsame ?_
    | (dsimp only
       rw [if_neg (by rw [hsame]; exact Bool.false_ne_true)])
  refine wpAny_bind (m := Builtin.List.listAllItems (.ref b) "must assign iterable to extended slice") ?_
  unfold Builtin.List.listAllItems
  refine wpAny_bind (wpAny_typeOf hb.typeIs ?_)
  first
    | refine PySem.W.KFB.if_so (by decide) ?_
    | rw [if_pos (by decide)]
    | simp only [beq_self_eq_true, Bool.true_or, if_true]
  unfold Builtin.List.listItems
  refine wpAny_bind (wpAny_seqItems e2 rfl (wpAny_pure ?_))
  refine wpAny_bind (wpAny_bind (wpAny_seqItems e rfl (wpAny_pure ?_)))
  refine wpAny_bind (wpAny_of_eq ((sliceIndices_raw none (some 1) none items.size (by simp)).trans (congrArg (pure : Int × Int × Int → Sem (Int × Int × Int)) (bounds_head items.size))) ?_)
  show wpAny _ _ (if ((1 : Int) == 1) = true then _ else _) _ _ s
  rw [if_pos (by decide)]
  refine wpAny_bind (wpAny_rule ?_)
  first
    | simp only [notLongL hsz, Bool.false_eq_true, if_false]
    | refine PySem.W.KFB.if_not (notLongL hsz) ?_
  first | refine wpAny_bind (wpAny_pure ?_) | skip
  show wpAny _ _ (updateSeq l (fun xs => xs.extract 0 ((0 : Nat) : Int).toNat ++ new ++ xs.extract (max ((0 : Nat) : Int) ((min 1 items.size : Nat) : Int)).toNat xs.size) >>= _) _ _ s
  rw [hmax, Int.toNat_natCast]
  refine wpAny_bind (wpAny_updateSeq (hz := Nat.le_trans (Nat.le_add_right _ _) hsz) (_hz' := hz') e rfl ?_)
  refine wpAny_bind (wpAny_letGo ?_)
  first
    | exact wpAny_bind (wpAny_pure (wpAny_pure ⟨.none, rfl, wpAny_pure h⟩))
    | exact wpAny_pure ⟨.none, rfl, wpAny_pure h⟩
end
section
variable {X : Cx} {o e : Expr} {to : TE} {p2 pos : Pos}
/-- o[:1] = v, both lists -/
def gHead (to : TE) : TG := fun v σ H QG => to σ H fun x H1 => ∃ a b xs ys, x = .ref a ∧ v = .ref b ∧ a ≠ b ∧ H1 a = some (.lst xs) ∧ H1 b = some (.lst ys) ∧ xs.length + ys.length ≤ sizeLine ∧ QG σ (upd H1 a (.lst (ys ++ xs.drop 1)))
theorem set_head {pins : List (Addr × Obj)} {s : Shared} {σ : L2.St} {H : Hp} {l b sl : Addr} {xs ys : List V} {vl vu : Value} {Q : Unit → Shared → Prop} (I : Inv X pins σ H s)
    (hH : H l = some (.lst xs)) (hB : H b = some (.lst ys)) (hne : l ≠ b) (hs : s.heap.IsSliceOf sl vl vu .none) (pl : IsPart vl none) (pu : IsPart vu (some 1))
    (hz : xs.length + ys.length ≤ sizeLine) (h : ∀ s', Inv X pins σ (upd H l (.lst (ys ++ xs.drop 1))) s' → Q () s') :
    wpAny (model X.prog X.w) X.A (setItem (.ref l) (.ref sl) (.ref b)) Q X.xe s := by
  obtain ⟨z, its, n, r, hl, e⟩ := I.lstM hH
  obtain ⟨z2, its2, n2, r2, hl2, e2⟩ := I.lstM hB
  refine setItem_head e e2 hne hs pl pu (by rw [List.size_toArray, List.size_toArray]; omega) (h _ ?_)
  have ed : ∀ {α : Type} (zs : List α), zs.drop (min 1 zs.length) = zs.drop 1 := fun zs => by
    cases zs with
    | nil => rfl
    | cons a zs => rw [List.length_cons, show min 1 (zs.length + 1) = 1 by omega]
  have er : ys ++ xs.drop 1 = xs.take 0 ++ ys ++ xs.drop (min 1 xs.length) := by rw [ed, List.take_zero, List.nil_append]
  rw [er]
  refine I.lset (its' := its.take 0 ++ its2 ++ its.drop (min 1 its.length)) (t' := s.toks) hH e ?_ (Vals.append (Vals.append (r.take _) r2) (by rw [r.length]; exact r.drop _)) ?_
  · rw [List.size_toArray]
    exact splice_eq its its2 0 (min 1 its.length)
  · rw [List.length_append, List.length_append, List.length_take, List.length_drop]
    omega
theorem pg_head {k1 : Nat} {p3 : Pos} (ho : PE X o to)
    (ha0 : ∀ v, assign (.Subscript o (.Slice none (some (.Constant (.int 1) k1 p3)) none p2) pos) X.env v = (do
      let ov ← holding [v] (eval o X.env)
      let iv ← holding [v, ov] (eval (.Slice none (some (.Constant (.int 1) k1 p3)) none p2) X.env)
      standAt pos
      holding [v, ov, iv] (setItem ov iv v)
      release [iv, v, ov] []) := by intro _; rfl) : PG X (.Subscript o (.Slice none (some (.Constant (.int 1) k1 p3)) none p2) pos) (gHead to) := by
  refine ⟨fun pins s σ H v u Q I r h => ?_⟩
  rw [ha0]
  refine wpAny_bind (wpAny_holding (thn (ho.run pins s σ H _ I h) fun ov s1 ⟨x, H1, I1, r1, q1⟩ => ?_))
  obtain ⟨a, b, xs, ys, rfl, rfl, hne, ha, hb, hz, q⟩ := q1
  cases r1
  cases r
  refine wpAny_bind (wpAny_holding ?_)
  refine wpAny_Slice ?_
  rw [evalPart_none]
  refine wpAny_pure ?_
  rw [evalPart_some]
  refine thn ((pe_int (X := X) (i := 1)).run pins s1 σ H1 (fun v H' => v = .int 1 ∧ H' = H1) I1 ⟨rfl, rfl⟩) fun u s2 ⟨x, H2, I2, r2, ex, eH⟩ => ?_
  subst ex
  subst eH
  obtain ⟨t, rfl⟩ := r2
  refine wpAny_pure ?_
  have I4 : Inv X pins σ H2 { s2 with heap := s2.heap.push { cls := .type "slice", data := .fields #[.none, .int 1 t, .none] } } := I2.kept (t' := s2.toks) fun b ob q => Heap.get?_push_of_some _ q
  refine wpAny_bind (wpAny_standAt (wpAny_bind (wpAny_holding ?_)))
  refine set_head I4 ha hb hne (Heap.IsSliceOf.new ..) .none (.int _ _) hz fun s' I5 => ?_
  exact wpAny_release ⟨σ, _, I5, q⟩
theorem x_ghead {σ : L2.St} {H : Hp} {v : V} {QG : L2.St → Hp → Prop} : gHead to v σ H QG = to σ H fun x H1 => ∃ a b xs ys, x = .ref a ∧ v = .ref b ∧ a ≠ b ∧ H1 a = some (.lst xs) ∧ H1 b = some (.lst ys) ∧ xs.length + ys.length ≤ sizeLine ∧ QG σ (upd H1 a (.lst (ys ++ xs.drop 1))) := rfl
end
/-! ### comprehensions over pairs -/
section
variable {K : PySem.W.Frag} {σ : L2.St} {H1 : Hp} {g : TG} {tt : TT} {te : TE} {vs : List Nat} {Dl : Addr} {Q : VK}
/-- the items of a list or a tuple are pairs -/
theorem lc_pairs {a : Addr} {J : It} {ts : List Addr} {u v : Nat → V} {j k : Nat} (hJ : (J = Itl K a ∧ SqL K H1 a (ts.map V.ref)) ∨ (J = Itt K a ∧ SqT K H1 a (ts.map V.ref))) (hp : ∀ i t, ts[i]? = some t → H1 t = some (.tup [u i, v i])) (keep : Nat → Bool) (f : Nat → V) (hD : H1 Dl = none) (hn : ts.length ≤ 100000)
    (hw : ∀ x y : V, wipe (((wipe σ vs).set j (some x)).set k (some y)) vs = wipe σ vs)
    (ht : ∀ i, i < ts.length → Evl.EvT tt (((wipe σ vs).set j (some (u i))).set k (some (v i))) H1 (keep i))
    (he : ∀ i, i < ts.length → keep i = true → Evl.Ev te (((wipe σ vs).set j (some (u i))).set k (some (v i))) H1 (f i))
    (hd : ∀ H', Evl.Ex H1 H' → H' Dl = some (.lst (kept ts.length keep f)) → Q (.ref Dl) H') : LcG J (gTup K 2 (gCons (gName j) (gCons (gName k) gNil))) tt te vs σ Dl H1 Q := by
  have gt : ∀ i, i < ts.length → ts[i]? = some (ts.getD i 0) := fun i hi => by rw [List.getD_eq_getElem?_getD, List.getElem?_eq_getElem hi]; rfl
  have fin : ∀ (i : Nat) (H' : Hp) (x : V) (QG : L2.St → Hp → Prop), i < ts.length → Evl.Ex H1 H' → (ts.map V.ref)[i]? = some x → (Evl.Ex H' H' → QG (((wipe σ vs).set j (some (u i))).set k (some (v i))) H') → gTup K 2 (gCons (gName j) (gCons (gName k) gNil)) x (wipe σ vs) H' QG := fun i H' x QG hi e hx q => by
    rw [List.getElem?_map, gt i hi] at hx
    cases hx
    exact g_two (e _ _ (hp i _ (gt i hi))) (q (Ex.refl _))
  rcases hJ with ⟨rfl, hx⟩ | ⟨rfl, hx⟩
  · refine lc_pure ts.length (fun i => ((wipe σ vs).set j (some (u i))).set k (some (v i))) keep f hD hn (fun H' e => ⟨_, Evl.ex_l e hx, by rw [List.length_map]; exact Nat.le_refl _⟩) (fun i H' hi e => ⟨_, _, Evl.ex_l e hx, by rw [List.getElem?_map, gt i hi]; rfl⟩)
      (fun i H' x H'' QG hi e y q => ?_) (fun i hi => hw _ _) ht he hd
    obtain ⟨rfl, hf⟩ := y
    exact fin i _ _ QG hi e (hf _ (Evl.ex_l e hx)) q
  · refine lc_pure ts.length (fun i => ((wipe σ vs).set j (some (u i))).set k (some (v i))) keep f hD hn (fun H' e => ⟨_, Evl.ex_t e hx, by rw [List.length_map]; exact Nat.le_refl _⟩) (fun i H' hi e => ⟨_, _, Evl.ex_t e hx, by rw [List.getElem?_map, gt i hi]; rfl⟩)
      (fun i H' x H'' QG hi e y q => ?_) (fun i hi => hw _ _) ht he hd
    obtain ⟨rfl, hf⟩ := y
    exact fin i _ _ QG hi e (hf _ (Evl.ex_t e hx)) q
/-- zip of two lists, the second not longer -/
theorem lc_zipS {a b : Addr} {xs ys : List V} {j k : Nat} (keep : Nat → Bool) (f : Nat → V) (hx : SqL K H1 a xs) (hy : SqL K H1 b ys) (he0 : ys.length ≤ xs.length) (hD : H1 Dl = none) (hn : ys.length ≤ 100000)
    (hw : ∀ u v : V, wipe (((wipe σ vs).set j (some u)).set k (some v)) vs = wipe σ vs)
    (ht : ∀ i x y, xs[i]? = some x → ys[i]? = some y → Evl.EvT tt (((wipe σ vs).set j (some x)).set k (some y)) H1 (keep i))
    (he : ∀ i x y, xs[i]? = some x → ys[i]? = some y → keep i = true → Evl.Ev te (((wipe σ vs).set j (some x)).set k (some y)) H1 (f i))
    (hd : ∀ H', Evl.Ex H1 H' → H' Dl = some (.lst (kept ys.length keep f)) → Q (.ref Dl) H') : LcG (Itz K a b) (gTup K 2 (gCons (gName j) (gCons (gName k) gNil))) tt te vs σ Dl H1 Q := by
  have gx : ∀ i, i < ys.length → xs[i]? = some (xs.getD i .non) := fun i hi => by rw [List.getD_eq_getElem?_getD, List.getElem?_eq_getElem (by omega)]; rfl
  have gy : ∀ i, i < ys.length → ys[i]? = some (ys.getD i .non) := fun i hi => by rw [List.getD_eq_getElem?_getD, List.getElem?_eq_getElem hi]; rfl
  refine lc_pure ys.length (fun i => ((wipe σ vs).set j (some (xs.getD i .non))).set k (some (ys.getD i .non))) keep f hD hn (fun H' e => ⟨xs, ys, Evl.ex_l e hx, Evl.ex_l e hy, ?_⟩)
    (fun i H' hi e => ⟨xs, ys, _, _, Evl.ex_l e hx, Evl.ex_l e hy, gx i hi, gy i hi⟩)
    (fun i H' x H'' QG hi e y q => ?_) (fun i hi => hw _ _) (fun i hi => ht i _ _ (gx i hi) (gy i hi)) (fun i hi => he i _ _ (gx i hi) (gy i hi)) hd
  · first | exact .inr (Nat.le_refl _) | exact .inr ⟨by omega, Nat.le_refl _⟩ | (simp; omega)
  obtain ⟨T, u, v, rfl, hT, rfl, hf, hf2⟩ := y
  have hu := hf xs (Evl.ex_l e hx)
  have hv := hf2 ys (Evl.ex_l e hy)
  have e1 : xs.getD i .non = u := by rw [List.getD_eq_getElem?_getD, hu]; rfl
  have e2 : ys.getD i .non = v := by rw [List.getD_eq_getElem?_getD, hv]; rfl
  refine g_two upd_same ?_
  have q2 := q (Evl.Ex.new hT)
  rw [e1, e2] at q2
  exact q2
end
/-! ### dict(pairs), sorted(d) -/
section
variable {K : PySem.W.Frag}
theorem putK_end {kvs : List (Key × V)} {k : Key} {v : V} (h : k ∉ kvs.map (·.1)) : putK kvs k v = kvs ++ [(k, v)] := by
  unfold putK
  rw [if_neg]
  intro e
  obtain ⟨p, hp, e⟩ := List.any_eq_true.mp e
  exact h (List.mem_map.mpr ⟨p, hp, of_decide_eq_true e⟩)
theorem mergeK_nodup : ∀ (more kvs : List (Key × V)), ((kvs ++ more).map (·.1)).Nodup → mergeK kvs more = kvs ++ more
  | [], kvs, _ => by rw [List.append_nil]; rfl
  | p :: more, kvs, h => by
    have hn : p.1 ∉ kvs.map (·.1) := fun hm => by
      rw [List.map_append, List.nodup_append] at h
      exact h.2.2 p.1 hm p.1 (by simp) rfl
    show mergeK (putK kvs p.1 p.2) more = _
    rw [putK_end hn, mergeK_nodup more _ (by rw [List.append_assoc]; exact h)]
    simp
theorem nodup_itK {qs : List (Int × Int)} (h : (qs.map (·.1)).Nodup) : ((qs.map itK).map (·.1)).Nodup := by
  have e : (qs.map itK).map (·.1) = (qs.map (·.1)).map Sum.inl := by rw [List.map_map, List.map_map]; rfl
  rw [e, List.nodup_iff_pairwise_ne, List.pairwise_map]
  exact h.imp fun h e => h (Sum.inl.inj e)
/-- what the list of pairs at a reads -/
def PairsAt (K : PySem.W.Frag) (H : Hp) (a : Addr) (ts : List Addr) (qs : List (Int × Int)) : Prop := SqL K H a (ts.map V.ref) ∧ ts.length = qs.length ∧ ∀ i t, ts[i]? = some t → PairAt H t (qs.getD i (0, 0))
theorem PairsAt.ex {H H' : Hp} {a : Addr} {ts : List Addr} {qs : List (Int × Int)} (h : PairsAt K H a ts qs) (e : Ex H H') : PairsAt K H' a ts qs := ⟨ex_l e h.1, h.2.1, fun i t hi => e _ _ (h.2.2 i t hi)⟩
def rDictI (K : PySem.W.Frag) : List V → Hp → VK → Prop := fun xs H Q => ∃ (a : Addr) (ts : List Addr) (qs : List (Int × Int)), xs = [.ref a] ∧ PairsAt K H a ts qs ∧ (qs.map (·.1)).Nodup ∧ ∀ p, H p = none → Q (.ref p) (upd H p (.dK (qs.map itK)))
theorem paired_of {H : Hp} : ∀ {ts : List Addr} {qs : List (Int × Int)}, ts.length = qs.length → (∀ (i : Nat) t, ts[i]? = some t → PairAt H t (qs.getD i (0, 0))) → Paired (fun p kv => SqT K H p [kV kv.1, kv.2]) ts (qs.map itK)
  | [], [], _, _ => .nil
  | [], _ :: _, h, _ => by simp at h
  | _ :: _, [], h, _ => by simp at h
  | t :: ts, q :: qs, h, hp => .cons (.inl (.inl (hp 0 t rfl))) (paired_of (by simpa using h) fun i u hi => by
    have := hp (i + 1) u (by simpa using hi)
    simpa using this)
theorem k_dictP {X : Cx} (hK : X.K = K) (hc : X.calm = true) : CallR X (.type "dict") (rDictI K) := by
  subst hK
  intro pins s σ H xs us Q I r h
  obtain ⟨a, ts, qs, rfl, ⟨hs, hl, hp⟩, nd, q⟩ := h
  refine call_dictP hc pins s σ H _ us Q I r ⟨a, ts, qs.map itK, rfl, hs, paired_of hl hp, fun p np => ?_⟩
  have e : mergeK [] (qs.map itK) = qs.map itK := by rw [mergeK_nodup _ _ (by simpa using nodup_itK nd)]; rfl
  rw [e]
  exact q p np
def rSortDI : List V → Hp → VK → Prop := fun xs H Q => ∃ (a : Addr) (kvs : List (Key × V)) (ks : List Int), xs = [.ref a] ∧ Rd H a (.dK kvs) ∧ kvs.map (·.1) = ks.map Sum.inl ∧ ks.length < 64 ∧
    ∀ (ys : List Int) (p : Addr), ys.Perm ks → ys.Pairwise (· ≤ ·) → H p = none → Q (.ref p) (upd H p (.lst (ys.map V.int)))
theorem cr_sortDI {X : Cx} (hc : X.calm = true) : CallR X (.builtin "sorted") rSortDI := call_sortedDI hc
theorem tyD {H : Hp} {p : Addr} {kvs : List (Key × V)} (h : H p = some (.dK kvs)) : tyV K "dict" (.ref p) H := .inr (.inr (.inl ⟨rfl, .inl ⟨kvs, h⟩⟩))
theorem valV_itK {qs : List (Int × Int)} (nd : (qs.map (·.1)).Nodup) {x y : Int} (h : (x, y) ∈ qs) : valV (qs.map itK) (Sum.inl x) = some (.int y) := by
  induction qs with
  | nil => exact (List.not_mem_nil h).elim
  | cons q qs ih =>
    rw [List.map_cons, List.nodup_cons] at nd
    rw [List.map_cons]
    rcases List.mem_cons.mp h with e | h
    · subst e
      exact valV_pos rfl
    · have ne : q.1 ≠ x := fun e => nd.1 (List.mem_map.mpr ⟨(x, y), h, e.symm⟩)
      rw [valV_neg (by show ¬ (Sum.inl q.1 : Key) = Sum.inl x; exact fun e => ne (Sum.inl.inj e))]
      exact ih nd.2 h
theorem valV_itK_none {qs : List (Int × Int)} {x : Int} (h : x ∉ qs.map (·.1)) : valV (qs.map itK) (Sum.inl x) = none := by
  induction qs with
  | nil => rfl
  | cons q qs ih =>
    rw [List.map_cons, List.mem_cons, not_or] at h
    rw [List.map_cons, valV_neg (by show ¬ (Sum.inl q.1 : Key) = Sum.inl x; exact fun e => h.1 (Sum.inl.inj e).symm)]
    exact ih h.2
end
/-! ### readings -/
section
variable {K : PySem.W.Frag} {σ : L2.St} {H : Hp} {Q : VK} {ta tv : TE} {a : TA} {D : Ends} {f : Str} {C : Addr} {sp : Sp} {dvs : List V} {E : XK}
theorem x_fld : tFld K ta f σ H Q = ta σ H (fun x H1 => ∃ a C dx fs v, x = .ref a ∧ H1 a = some (.ins C dx fs) ∧ Cls K C ∧ NoAttr K C f ∧ fs.lookup f = some v ∧ Q v H1) := rfl
theorem x_sfld : sFld K ta tv f D σ H = tv σ H (fun y H1 => ta σ H1 fun x H2 => ∃ a C dx fs, x = .ref a ∧ H2 a = some (.ins C dx fs) ∧ Cls K C ∧ NoAttr K C f ∧ fs.length < 1000 ∧ D.nx σ (upd H2 a (.ins C dx (putF f y fs)))) := rfl
theorem x_prop : tProp C sp dvs E ta σ H Q = ta σ H (fun x H1 => ∃ a dx fs, x = .ref a ∧ H1 a = some (.ins C dx fs) ∧ sp (.ref a :: dvs) H1 Q E) := rfl
theorem x_meth {m : Str} {t : TA} : tMeth C m sp dvs E ta t σ H Q = ta σ H (fun x H1 => ∃ a dx fs, x = .ref a ∧ H1 a = some (.ins C dx fs) ∧ fs.lookup m = none ∧ t σ H1 fun vs H2 => sp (x :: (vs ++ dvs)) H2 Q E) := rfl
theorem x_make : tMake C sp dvs E a σ H Q = a σ H (fun vs H1 => ∀ x dx, H1 x = none → H1 dx = none → dx ≠ x → sp (.ref x :: (vs ++ dvs)) (upd (upd H1 dx (.own x)) x (.ins C dx [])) (fun v H2 => v = .non ∧ Q (.ref x) H2) E) := rfl
theorem k_fld {X : Cx} {e : Expr} {pos : Pos} (hK : X.K = K) (he : PE X e ta) (hb : attributeBase e f X.env (eval e X.env) = eval e X.env) : PE X (.Attribute e f pos) (tFld K ta f) := by subst hK; exact pe_fld he hb
theorem k_sfld {X : Cx} {o value : Expr} {pos' pos : Pos} (hK : X.K = K) (ha : PE X o ta) (hv : PE X value tv) (hs : swapsWith value (some (.Attribute o f pos')) pos.line X.env = pure false) : PS X (.Assign [.Attribute o f pos'] value pos) (sFld K ta tv f) := by subst hK; exact ps_fld ha hv hs
def DcG (J : It) (g : TG) (tt : TT) (tk tv : TE) (vs : List Nat) (σ : L2.St) (D : Addr) (H1 : Hp) (Q : VK) : Prop := ∃ W : Nat → Nat → Hp → Prop, (∃ m, W 0 m (upd H1 D (.dK []))) ∧ ∀ i m H, W i m H →
  (J.stop i H ∧ Q (.ref D) H) ∨ (J.go i H ∧ ∃ Nx : Hp → Prop, (∀ H', Nx H' → ∃ m', m' < m ∧ W (i + 1) m' H') ∧ ∀ x H', J.yld i H x H' → g x (wipe σ vs) H' fun σ2 H2 => wipe σ2 vs = wipe σ vs ∧ tt σ2 H2 fun b H3 =>
    if b = true then tk σ2 H3 fun y H4 => tv σ2 H4 fun z H5 => ∃ kvs k, y = kV k ∧ H5 D = some (.dK kvs) ∧ kvs.length < sizeLine ∧ Nx (upd H5 D (.dK (putK kvs k z))) else Nx H3)
theorem x_dc {wi : TI} {g : TG} {tt : TT} {tk tv : TE} {vs : List Nat} : tDc wi g tt tk tv vs σ H Q = wi σ H (fun J H1 => ∀ D, H1 D = none → DcG J g tt tk tv vs σ D H1 Q) := rfl
theorem dcg_tup {a : Addr} {xs : List V} {g : TG} {tt : TT} {tk tv : TE} {vs : List Nat} {H1 : Hp} {D : Addr} (Pv : Nat → Hp → Prop) (h0 : Pv 0 (upd H1 D (.dK []))) (hl : ∀ i H, i ≤ xs.length → Pv i H → SqT K H a xs)
    (hs : ∀ i x H, xs[i]? = some x → Pv i H → g x (wipe σ vs) H fun σ2 H2 => wipe σ2 vs = wipe σ vs ∧ tt σ2 H2 fun b H3 =>
      if b = true then tk σ2 H3 fun y H4 => tv σ2 H4 fun z H5 => ∃ kvs k, y = kV k ∧ H5 D = some (.dK kvs) ∧ kvs.length < sizeLine ∧ Pv (i + 1) (upd H5 D (.dK (putK kvs k z))) else Pv (i + 1) H3) (hd : ∀ H, Pv xs.length H → Q (.ref D) H) : DcG (Itt K a) g tt tk tv vs σ D H1 Q := dc_tup (Qd := fun H => Q (.ref D) H) Pv h0 hl hs hd
end
theorem lg_zip {K : PySem.W.Frag} {a b : Addr} {xs ys : List V} {g : TG} {tb : TS} {D : Ends} {σ : L2.St} {H : Hp} (hl : xs.length = ys.length) (Pv : Nat → L2.St → Hp → Prop) (h0 : Pv 0 σ H) (hq : ∀ i σ H, Pv i σ H → SqL K H a xs ∧ SqL K H b ys)
    (hs : ∀ (i : Nat) (x y : V) (T : Addr) (σ : L2.St) (H : Hp), xs[i]? = some x → ys[i]? = some y → Pv i σ H → H T = none → g (.ref T) σ (upd H T (.tup [x, y])) fun σ2 H2 => tb { D with nx := Pv (i + 1), ct := Pv (i + 1), bk := D.nx } σ2 H2) (hd : ∀ σ H, Pv xs.length σ H → D.nx σ H) : LoopG (Itz K a b) g tb D σ H := RZ.for_zipL hl Pv h0 hq hs hd
/-! ### what comes behind each visit -/
def seconds (row : List Int) : List Int := row.drop 1 ++ row.drop (row.length - 1)
theorem cut_drop1 (row : List Int) : cutV (row.map V.int) (some 1) none = (row.drop 1).map V.int := by
    cases row with
    | nil => rfl
    | cons a r =>
      have e : HT.sIx ((a :: r).map V.int).length 0 (some 1) = 1 := by
        show (if (1 : Int) < 0 then ((1 : Int) + (((a :: r).map V.int).length : Int)).toNat else min (1 : Int).toNat ((a :: r).map V.int).length) = 1
        rw [if_neg (by omega), List.length_map, List.length_cons]
        show min 1 (r.length + 1) = 1
        omega
      unfold cutV
      rw [e, HT.sIx_none, List.map_drop, List.take_of_length_le (by rw [List.length_drop]; exact Nat.le_refl _)]
theorem cut_seconds (row : List Int) : cutV (row.map V.int) (some 1) none ++ cutV (row.map V.int) (some (-1)) none = (seconds row).map V.int := by
  have h1 : cutV (row.map V.int) (some 1) none = (row.drop 1).map V.int := by
    unfold cutV
    cases row with
    | nil => rfl
    | cons a r =>
      have e : HT.sIx ((a :: r).map V.int).length 0 (some 1) = 1 := by
        show (if (1 : Int) < 0 then ((1 : Int) + (((a :: r).map V.int).length : Int)).toNat else min (1 : Int).toNat ((a :: r).map V.int).length) = 1
        rw [if_neg (by omega), List.length_map, List.length_cons]
        show min 1 (r.length + 1) = 1
        omega
      rw [e, HT.sIx_none, List.map_drop, List.take_of_length_le (by rw [List.length_drop]; exact Nat.le_refl _)]
  have h2 : cutV (row.map V.int) (some (-1)) none = (row.drop (row.length - 1)).map V.int := by
    have e : HT.sIx (row.map V.int).length 0 (some (-1)) = row.length - 1 := by
      show (if (-1 : Int) < 0 then ((-1 : Int) + ((row.map V.int).length : Int)).toNat else min (-1 : Int).toNat (row.map V.int).length) = _
      rw [if_pos (by omega), List.length_map]
      omega
    unfold cutV
    rw [e, HT.sIx_none, List.map_drop, List.take_of_length_le]
    rw [List.length_drop, List.length_map]
    exact Nat.le_refl _
  rw [h1, h2, seconds, List.map_append]
theorem seconds_len (row : List Int) : (seconds row).length = row.length := by
  unfold seconds
  rw [List.length_append, List.length_drop, List.length_drop]
  omega
theorem seconds_at {row : List Int} {i : Nat} (hi : i < row.length) : (seconds row)[i]? = some ((row.drop (i + 1)).headD (row.getD i 0)) := by
  unfold seconds
  by_cases c : i + 1 < row.length
  · rw [List.getElem?_append_left (by rw [List.length_drop]; omega), List.getElem?_drop, List.headD_eq_head?_getD, List.head?_drop, Nat.add_comm 1 i, List.getElem?_eq_getElem c]
    rfl
  · rw [List.getElem?_append_right (by rw [List.length_drop]; omega), List.length_drop, List.getElem?_drop, List.drop_eq_nil_of_le (by omega), show row.length - 1 + (i - (row.length - 1)) = i by omega, List.getD_eq_getElem?_getD, List.getElem?_eq_getElem hi]
    rfl
theorem ev_din {ty td : TE} {σ : L2.St} {H : Hp} {d : Addr} {kvs : List (Key × V)} {k : Key} (hy : Ev ty σ H (kV k)) (hd : Ev td σ H (.ref d)) (h : H d = some (.dK kvs)) : Ev (tDIn ty td) σ H (.bl (valV kvs k).isSome) := fun H1 e Q q => hy H1 e _ fun H2 e2 => hd H2 (e.trans e2) _ fun H3 e3 => ⟨d, _, rfl, DGet.k (e3 _ _ (e2 _ _ (e _ _ h))), q H3 (e2.trans e3)⟩
theorem ev_dnotin {ty td : TE} {σ : L2.St} {H : Hp} {d : Addr} {kvs : List (Key × V)} {k : Key} (hy : Ev ty σ H (kV k)) (hd : Ev td σ H (.ref d)) (h : H d = some (.dK kvs)) : Ev (tDNotIn ty td) σ H (.bl (!(valV kvs k).isSome)) := fun H1 e Q q => hy H1 e _ fun H2 e2 => hd H2 (e.trans e2) _ fun H3 e3 => ⟨d, _, rfl, DGet.k (e3 _ _ (e2 _ _ (e _ _ h))), q H3 (e2.trans e3)⟩
theorem ev_dget {ty td : TE} {σ : L2.St} {H : Hp} {d : Addr} {kvs : List (Key × V)} {k : Key} {v : V} (hd : Ev td σ H (.ref d)) (hy : Ev ty σ H (kV k)) (h : H d = some (.dK kvs)) (hv : valV kvs k = some v) : Ev (tDGet td ty) σ H v := fun H1 e Q q => hd H1 e _ fun H2 e2 => hy H2 (e.trans e2) _ fun H3 e3 => ⟨d, v, rfl, .inl ⟨_, k, .inl (e3 _ _ (e2 _ _ (e _ _ h))), rfl, hv.symm⟩, q H3 (e2.trans e3)⟩
theorem putK_le (c : List (Key × V)) (k : Key) (x : V) : (putK c k x).length ≤ c.length + 1 := by
  unfold putK
  split
  · rw [List.length_map]; omega
  · rw [List.length_append, List.length_singleton]; omega
end BC

set_option Elab.async false
set_option linter.all false
set_option maxRecDepth 100000
set_option maxHeartbeats 4000000
/-! effects of visits: for each page its exit -/
namespace EF
open PySem PySem.Spec PyProof.Rows L2 BC TR
/-- the exit of a page: what comes behind its last visit -/
def nx : List Int → Int → Option Int
  | [], _ => none
  | a :: r, p => match nx r p with
    | some y => some y
    | none => if a = p then some (r.headD a) else none
theorem nx_some {a p y : Int} {r : List Int} (h : nx r p = some y) : nx (a :: r) p = some y := by
  show (match nx r p with | some y => some y | none => _) = _
  rw [h]
theorem nx_none {a p : Int} {r : List Int} (h : nx r p = none) : nx (a :: r) p = if a = p then some (r.headD a) else none := by
  show (match nx r p with | some y => some y | none => _) = _
  rw [h]
theorem nx_mem : ∀ {row : List Int} {p : Int}, p ∈ row → ∃ y, nx row p = some y
  | a :: r, p, h => by
    cases e : nx r p with
    | some y => exact ⟨y, nx_some e⟩
    | none =>
      rcases List.mem_cons.mp h with rfl | h
      · exact ⟨_, by rw [nx_none e, if_pos rfl]⟩
      · obtain ⟨y, hy⟩ := nx_mem h
        rw [e] at hy
        cases hy
theorem headD_mem {a : Int} : ∀ {r : List Int}, r.headD a ∈ a :: r
  | [] => List.mem_cons_self
  | b :: r => List.mem_cons_of_mem _ List.mem_cons_self
theorem mem_nx : ∀ {row : List Int} {p y : Int}, nx row p = some y → p ∈ row ∧ y ∈ row
  | a :: r, p, y, h => by
    cases e : nx r p with
    | some z =>
      rw [nx_some e] at h
      cases h
      obtain ⟨h1, h2⟩ := mem_nx e
      exact ⟨List.mem_cons_of_mem _ h1, List.mem_cons_of_mem _ h2⟩
    | none =>
      rw [nx_none e] at h
      split at h
      · next q =>
        cases h
        subst q
        exact ⟨List.mem_cons_self, headD_mem⟩
      · cases h
/-- the pages by their last visits -/
def dd : List Int → List Int
  | [] => []
  | a :: r => if a ∈ r then dd r else a :: dd r
theorem dd_mem : ∀ {row : List Int} {p : Int}, p ∈ dd row ↔ p ∈ row
  | [], p => Iff.rfl
  | a :: r, p => by
    unfold dd
    split
    · next h =>
      rw [dd_mem (row := r), List.mem_cons]
      exact ⟨fun m => .inr m, fun m => m.elim (fun e => by rw [e]; exact h) id⟩
    · rw [List.mem_cons, List.mem_cons, dd_mem (row := r)]
theorem dd_nodup : ∀ row : List Int, (dd row).Nodup
  | [] => List.nodup_nil
  | a :: r => by
    unfold dd
    split
    · exact dd_nodup r
    · next h => exact List.nodup_cons.mpr ⟨fun m => h (dd_mem.mp m), dd_nodup r⟩
def ix (row : List Int) (p : Int) : Nat := (dd row).idxOf p
theorem ix_lt {row : List Int} {p : Int} (h : p ∈ row) : ix row p < (dd row).length := List.idxOf_lt_length_of_mem (dd_mem.mpr h)
/-- the last page -/
def lst (row : List Int) : Int := row.getLast?.getD 0
theorem lst_cons {a b : Int} {r : List Int} : lst (a :: b :: r) = lst (b :: r) := by unfold lst; rw [List.getLast?_cons_cons]
theorem nx_ix : ∀ {row : List Int} {p y : Int}, nx row p = some y → (y = p ∧ p = lst row) ∨ (p ≠ y ∧ p ≠ lst row ∧ ix row p < ix row y)
  | a :: r, p, y, h => by
    cases e : nx r p with
    | some z =>
      rw [nx_some e] at h
      cases h
      obtain ⟨hp, hy⟩ := mem_nx e
      obtain ⟨b, r', rfl⟩ : ∃ b r', r = b :: r' := by
        cases r with
        | nil => cases hp
        | cons b r' => exact ⟨b, r', rfl⟩
      rw [lst_cons]
      rcases nx_ix e with ⟨h1, h2⟩ | ⟨h1, h2, h3⟩
      · exact .inl ⟨h1, h2⟩
      · refine .inr ⟨h1, h2, ?_⟩
        unfold ix dd
        split
        · exact h3
        · next na =>
          have pa : ¬ a = p := fun e => na (by rw [e]; exact hp)
          have ya : ¬ a = y := fun e => na (by rw [e]; exact hy)
          rw [List.idxOf_cons, List.idxOf_cons, beq_eq_false_iff_ne.mpr pa, beq_eq_false_iff_ne.mpr ya]
          show (dd (b :: r')).idxOf p + 1 < (dd (b :: r')).idxOf y + 1
          unfold ix at h3
          omega
    | none =>
      rw [nx_none e] at h
      split at h
      · next q =>
        subst q
        cases h
        have na : a ∉ r := fun m => by
          obtain ⟨z, hz⟩ := nx_mem m
          rw [e] at hz
          cases hz
        cases r with
        | nil => exact .inl ⟨rfl, rfl⟩
        | cons b r' =>
          have ab : a ≠ b := fun z => na (by rw [z]; exact List.mem_cons_self)
          refine .inr ⟨ab, ?_, ?_⟩
          · rw [lst_cons]
            intro z
            refine na ?_
            rw [z]
            unfold lst
            rw [List.getLast?_eq_some_getLast (by simp)]
            exact List.getLast_mem _
          · unfold ix dd
            rw [if_neg na, List.idxOf_cons_self, List.idxOf_cons, beq_eq_false_iff_ne.mpr (show ¬ a = (b :: r').headD a from ab)]
            exact Nat.succ_pos _
      · cases h
theorem lst_mem : ∀ {row : List Int}, row ≠ [] → lst row ∈ row := fun {row} h => by
  unfold lst
  rw [List.getLast?_eq_some_getLast h]
  exact List.getLast_mem h
theorem nx_lst {row : List Int} (h : row ≠ []) : nx row (lst row) = some (lst row) := by
  obtain ⟨y, hy⟩ := nx_mem (lst_mem h)
  rcases nx_ix hy with ⟨h1, _⟩ | ⟨_, h2, _⟩
  · rw [hy, h1]
  · exact absurd rfl h2
/-- do so many steps lead to the root? -/
def lead (f : Int → Int) (root : Int) : Nat → Int → Bool
  | 0, _ => false
  | n + 1, p => if p = root then true else lead f root n (f p)
def nxt (row : List Int) (p : Int) : Int := (nx row p).getD 0
theorem nxt_at {row : List Int} {p y : Int} (h : nx row p = some y) : nxt row p = y := by unfold nxt; rw [h]; rfl
theorem lead_ok {row : List Int} : ∀ (n : Nat) {p : Int}, p ∈ row → (dd row).length ≤ n + ix row p → lead (nxt row) (lst row) n p = true
  | 0, p, hp, h => by have := ix_lt hp; omega
  | n + 1, p, hp, h => by
    show (if p = lst row then true else _) = true
    split
    · rfl
    · next ne =>
      obtain ⟨y, hy⟩ := nx_mem hp
      rw [nxt_at hy]
      rcases nx_ix hy with ⟨_, h2⟩ | ⟨_, _, h3⟩
      · exact absurd h2 ne
      · exact lead_ok n (mem_nx hy).2 (by omega)
/-! ### as a list of pairs in order -/
def exs (row : List Int) : List (Int × Int) := ((List.range 40).map fun i : Nat => (i : Int)).filterMap fun p => (nx row p).map fun y => (p, y)
theorem mem_exs {row : List Int} (hp : Pg 40 row) {x y : Int} : (x, y) ∈ exs row ↔ nx row x = some y := by
  unfold exs
  rw [List.mem_filterMap]
  constructor
  · rintro ⟨p, _, h⟩
    cases e : nx row p with
    | none => rw [e] at h; cases h
    | some z => rw [e] at h; cases h; exact e
  · intro h
    have hx := hp x (mem_nx h).1
    refine ⟨x, List.mem_map.mpr ⟨x.toNat, List.mem_range.mpr (by omega), by omega⟩, ?_⟩
    rw [h]
    rfl
def ltF (a b : Int × Int) : Prop := a.1 < b.1
theorem exs_srt (row : List Int) : (exs row).Pairwise ltF := by
  unfold exs
  rw [List.pairwise_filterMap]
  have : ((List.range 40).map fun i : Nat => (i : Int)).Pairwise (· < ·) := by
    rw [List.pairwise_map]
    exact List.pairwise_lt_range.imp fun h => by omega
  refine this.imp fun {a b} h x hx y hy => ?_
  have ex : x.1 = a := by
    cases e : nx row a with
    | none => rw [e] at hx; cases hx
    | some z => rw [e] at hx; cases hx; rfl
  have ey : y.1 = b := by
    cases e : nx row b with
    | none => rw [e] at hy; cases hy
    | some z => rw [e] at hy; cases hy; rfl
  show x.1 < y.1
  rw [ex, ey]
  exact h
theorem srt_nodup {l : List (Int × Int)} (h : l.Pairwise ltF) : (l.map (·.1)).Nodup := by
  rw [List.nodup_iff_pairwise_ne, List.pairwise_map]
  exact h.imp fun {a b} h e => by
    have : a.1 < b.1 := h
    omega
/-- two lists in order with the same members -/
theorem srt_uniq : ∀ {l m : List (Int × Int)}, l.Pairwise ltF → m.Pairwise ltF → (∀ q, q ∈ l ↔ q ∈ m) → l = m
  | [], [], _, _, _ => rfl
  | [], b :: m, _, _, h => (List.not_mem_nil ((h b).mpr List.mem_cons_self)).elim
  | a :: l, [], _, _, h => (List.not_mem_nil ((h a).mp List.mem_cons_self)).elim
  | a :: l, b :: m, hl, hm, h => by
    rw [List.pairwise_cons] at hl hm
    have e : a = b := by
      have h1 := (h a).mp List.mem_cons_self
      have h2 := (h b).mpr List.mem_cons_self
      rcases List.mem_cons.mp h1 with h1 | h1
      · exact h1
      · rcases List.mem_cons.mp h2 with h2 | h2
        · exact h2.symm
        · have a1 : b.1 < a.1 := hm.1 a h1
          have a2 : a.1 < b.1 := hl.1 b h2
          omega
    subst e
    have ne : ∀ {k : List (Int × Int)}, (∀ q ∈ k, ltF a q) → a ∉ k := fun hk m => by
      have : a.1 < a.1 := hk a m
      omega
    rw [srt_uniq hl.2 hm.2 fun q => ?_]
    have hq := h q
    rw [List.mem_cons, List.mem_cons] at hq
    by_cases c : q = a
    · subst c
      exact ⟨fun m => absurd m (ne hl.1), fun m => absurd m (ne hm.1)⟩
    · exact ⟨fun m => (hq.mp (.inr m)).resolve_left c, fun m => (hq.mpr (.inr m)).resolve_left c⟩
/-- numbers in order with the same members -/
theorem ints_uniq : ∀ {l m : List Int}, l.Pairwise (· < ·) → m.Pairwise (· < ·) → (∀ q, q ∈ l ↔ q ∈ m) → l = m
  | [], [], _, _, _ => rfl
  | [], b :: m, _, _, h => (List.not_mem_nil ((h b).mpr List.mem_cons_self)).elim
  | a :: l, [], _, _, h => (List.not_mem_nil ((h a).mp List.mem_cons_self)).elim
  | a :: l, b :: m, hl, hm, h => by
    rw [List.pairwise_cons] at hl hm
    have e : a = b := by
      have h1 := (h a).mp List.mem_cons_self
      have h2 := (h b).mpr List.mem_cons_self
      rcases List.mem_cons.mp h1 with h1 | h1
      · exact h1
      · rcases List.mem_cons.mp h2 with h2 | h2
        · exact h2.symm
        · have a1 := hm.1 a h1
          have a2 := hl.1 b h2
          omega
    subst e
    have ne : ∀ {k : List Int}, (∀ q ∈ k, a < q) → a ∉ k := fun hk m => by
      have := hk a m
      omega
    rw [ints_uniq hl.2 hm.2 fun q => ?_]
    have hq := h q
    rw [List.mem_cons, List.mem_cons] at hq
    by_cases c : q = a
    · subst c
      exact ⟨fun m => absurd m (ne hl.1), fun m => absurd m (ne hm.1)⟩
    · exact ⟨fun m => (hq.mp (.inr m)).resolve_left c, fun m => (hq.mpr (.inr m)).resolve_left c⟩
/-! ### a dict of numbers by numbers -/
def getI (qs : List (Int × Int)) (x : Int) : Option Int := (qs.find? fun q => decide (q.1 = x)).map (·.2)
def putI (qs : List (Int × Int)) (x y : Int) : List (Int × Int) := if (qs.any fun q => decide (q.1 = x)) = true then qs.map (fun q => if q.1 = x then (q.1, y) else q) else qs ++ [(x, y)]
theorem getI_val (x : Int) : ∀ qs : List (Int × Int), valV (qs.map itK) (Sum.inl x) = (getI qs x).map V.int
  | [] => rfl
  | q :: qs => by
    have ih := getI_val x qs
    rw [List.map_cons]
    by_cases e : q.1 = x
    · rw [valV_pos (by show (Sum.inl q.1 : Key) = Sum.inl x; rw [e])]
      simp [getI, e, itK]
    · rw [valV_neg (by show ¬ (Sum.inl q.1 : Key) = Sum.inl x; exact fun z => e (Sum.inl.inj z)), ih]
      simp [getI, e]
theorem any_itK (x : Int) (qs : List (Int × Int)) : ((qs.map itK).any fun kv => decide (kv.1 = Sum.inl x)) = qs.any fun q => decide (q.1 = x) := by
  rw [List.any_map]
  congr 1
  funext q
  exact decide_eq_decide.mpr ⟨fun e => Sum.inl.inj e, fun e => congrArg Sum.inl e⟩
theorem putI_put (qs : List (Int × Int)) (x y : Int) : putK (qs.map itK) (Sum.inl x) (.int y) = (putI qs x y).map itK := by
  unfold putK putI
  rw [any_itK]
  by_cases c : (qs.any fun q => decide (q.1 = x)) = true
  · rw [if_pos c, if_pos c, List.map_map, List.map_map]
    refine List.map_congr_left fun q _ => ?_
    show (if (Sum.inl q.1 : Key) = Sum.inl x then ((Sum.inl q.1 : Key), V.int y) else (Sum.inl q.1, V.int q.2)) = itK (if q.1 = x then (q.1, y) else q)
    by_cases e : q.1 = x
    · rw [if_pos (by rw [e]), if_pos e]; rfl
    · rw [if_neg (fun z => e (Sum.inl.inj z)), if_neg e]; rfl
  · rw [if_neg c, if_neg c, List.map_append]
    rfl
theorem getI_any (x : Int) : ∀ qs : List (Int × Int), (qs.any fun q => decide (q.1 = x)) = (getI qs x).isSome
  | [] => rfl
  | q :: qs => by
    rw [List.any_cons, getI_any x qs]
    by_cases e : q.1 = x
    · simp [getI, e]
    · simp [getI, e]
theorem getI_map (x y z : Int) : ∀ qs : List (Int × Int), getI (qs.map fun q => if q.1 = x then (q.1, y) else q) z = if z = x then (getI qs z).map fun _ => y else getI qs z
  | [] => by simp [getI]
  | q :: qs => by
    have ih := getI_map x y z qs
    by_cases e : q.1 = z
    · by_cases c : z = x
      · subst c; simp [getI, e]
      · rw [if_neg c]
        have : ¬ q.1 = x := fun w => c (by rw [← e, w])
        simp [getI, e, this, c]
    · have hk : (if q.1 = x then (q.1, y) else q).1 = q.1 := by split <;> rfl
      have g1 : getI ((q :: qs).map fun q => if q.1 = x then (q.1, y) else q) z = getI (qs.map fun q => if q.1 = x then (q.1, y) else q) z := by
        unfold getI
        rw [List.map_cons, List.find?_cons, hk, decide_eq_false e]
      have g2 : getI (q :: qs) z = getI qs z := by
        unfold getI
        rw [List.find?_cons, decide_eq_false e]
      rw [g1, g2, ih]
theorem getI_append (x y z : Int) (qs : List (Int × Int)) (h : getI qs x = none) : getI (qs ++ [(x, y)]) z = if z = x then some y else getI qs z := by
  unfold getI at h ⊢
  rw [List.find?_append]
  cases c : qs.find? fun q => decide (q.1 = z) with
  | some q =>
    by_cases e : z = x
    · subst e; rw [c] at h; cases h
    · rw [if_neg e]; rfl
  | none =>
    by_cases e : z = x
    · subst e; simp
    · have : ¬ x = z := fun w => e w.symm
      simp [this, e]
theorem getI_put (qs : List (Int × Int)) (x y z : Int) : getI (putI qs x y) z = if z = x then some y else getI qs z := by
  unfold putI
  by_cases c : (qs.any fun q => decide (q.1 = x)) = true
  · rw [if_pos c, getI_map]
    rw [getI_any] at c
    by_cases e : z = x
    · subst e
      rw [if_pos rfl, if_pos rfl]
      cases h : getI qs z with
      | none => rw [h] at c; cases c
      | some v => rfl
    · rw [if_neg e, if_neg e]
  · rw [if_neg c]
    rw [getI_any] at c
    exact getI_append x y z qs (by cases h : getI qs x with | none => rfl | some v => rw [h] at c; exact absurd rfl c)
theorem putI_nodup {qs : List (Int × Int)} {x y : Int} (h : (qs.map (·.1)).Nodup) : ((putI qs x y).map (·.1)).Nodup := by
  unfold putI
  split
  · rw [List.map_map]
    have e : ((fun p : Int × Int => p.1) ∘ fun q : Int × Int => if q.1 = x then (q.1, y) else q) = fun p => p.1 := funext fun p => by
      show (if p.1 = x then (p.1, y) else p).1 = p.1
      split <;> rfl
    rw [e]
    exact h
  · next c =>
    rw [List.map_append, List.nodup_append]
    refine ⟨h, by simp, fun a ha b hb e => ?_⟩
    obtain ⟨p, hp, rfl⟩ := List.mem_map.mp ha
    have hb' : b = x := by simpa using hb
    refine c (List.any_eq_true.mpr ⟨p, hp, decide_eq_true ?_⟩)
    rw [e, hb']
theorem putI_len (qs : List (Int × Int)) (x y : Int) : (putI qs x y).length ≤ qs.length + 1 := by
  unfold putI
  split
  · rw [List.length_map]; omega
  · rw [List.length_append, List.length_singleton]; omega
theorem getI_mem {qs : List (Int × Int)} (nd : (qs.map (·.1)).Nodup) {x y : Int} : (x, y) ∈ qs ↔ getI qs x = some y := by
  induction qs with
  | nil => exact ⟨fun h => (List.not_mem_nil h).elim, fun h => by cases h⟩
  | cons q qs ih =>
    rw [List.map_cons, List.nodup_cons] at nd
    by_cases e : q.1 = x
    · have g : getI (q :: qs) x = some q.2 := by simp [getI, e]
      rw [g]
      constructor
      · intro h
        rcases List.mem_cons.mp h with h | h
        · rw [← h]
        · exact absurd (List.mem_map.mpr ⟨(x, y), h, e.symm⟩) nd.1
      · intro h
        have : q = (x, y) := by
          have := Option.some.inj h
          rw [← e, ← this]
        rw [this]
        exact List.mem_cons_self
    · have g : getI (q :: qs) x = getI qs x := by simp [getI, e]
      rw [g, ← ih nd.2, List.mem_cons]
      exact ⟨fun h => h.resolve_left fun z => e (by rw [← z]), .inr⟩
theorem srt_of {rs qs : List (Int × Int)} (p : rs.Perm qs) (s : rs.Pairwise leP) (nd : (qs.map (·.1)).Nodup) : rs.Pairwise ltF := by
  have nr : (rs.map (·.1)).Nodup := (p.map (·.1)).nodup_iff.mpr nd
  rw [List.nodup_iff_pairwise_ne, List.pairwise_map] at nr
  refine (s.and nr).imp fun {a b} h => ?_
  have h1 : a.1 < b.1 ∨ (a.1 = b.1 ∧ a.2 ≤ b.2) := h.1
  have h2 : a.1 ≠ b.1 := h.2
  show a.1 < b.1
  omega
/-- what a dict of all exits gives when it is sorted -/
theorem srt_exs {row : List Int} (hp : Pg 40 row) {rs qs : List (Int × Int)} (p : rs.Perm qs) (s : rs.Pairwise leP) (nd : (qs.map (·.1)).Nodup) (g : ∀ x, getI qs x = nx row x) : rs = exs row :=
  srt_uniq (srt_of p s nd) (exs_srt row) fun q => by
    obtain ⟨x, y⟩ := q
    rw [mem_exs hp, ← g x, ← getI_mem nd, p.mem_iff]
/-! ### the dict as it is filled from the front -/
def foldP (qs : List (Int × Int)) : List Int → List (Int × Int)
  | [] => qs
  | a :: r => foldP (putI qs a (r.headD a)) r
theorem foldP_get (x : Int) : ∀ (row : List Int) (qs : List (Int × Int)), getI (foldP qs row) x = match nx row x with | some y => some y | none => getI qs x
  | [], qs => rfl
  | a :: r, qs => by
    show getI (foldP (putI qs a (r.headD a)) r) x = _
    rw [foldP_get x r]
    cases e : nx r x with
    | some y => rw [nx_some e]
    | none =>
      rw [nx_none e]
      show getI (putI qs a (r.headD a)) x = _
      rw [getI_put]
      by_cases c : x = a
      · rw [if_pos c, if_pos c.symm]
      · rw [if_neg c, if_neg (fun z => c z.symm)]
theorem foldP_nodup : ∀ (row : List Int) (qs : List (Int × Int)), (qs.map (·.1)).Nodup → ((foldP qs row).map (·.1)).Nodup
  | [], _, h => h
  | a :: r, qs, h => foldP_nodup r _ (putI_nodup h)
theorem foldP_all (row : List Int) (x : Int) : getI (foldP [] row) x = nx row x := by
  rw [foldP_get]
  cases nx row x <;> rfl
/-! ### first page, root, leaves -/
def rootsOf (qs : List (Int × Int)) : List Int := (qs.filter fun q => decide (q.1 = q.2)).map (·.1)
def usedOf (qs : List (Int × Int)) : List Int := (qs.filter fun q => !decide (q.1 = q.2)).map (·.2)
def leavesOf (qs : List (Int × Int)) : List Int := (qs.filter fun q => !decide (q.1 ∈ usedOf qs)).map (·.1)
theorem filter_one {α : Type} {P : α → Bool} {a : α} : ∀ {l : List α}, l.Nodup → a ∈ l → (∀ b ∈ l, P b = true ↔ b = a) → l.filter P = [a]
  | [], _, h, _ => (List.not_mem_nil h).elim
  | b :: l, nd, h, hP => by
    rw [List.nodup_cons] at nd
    rcases List.mem_cons.mp h with e | h
    · subst e
      rw [List.filter_cons_of_pos ((hP a List.mem_cons_self).mpr rfl)]
      congr 1
      rw [List.filter_eq_nil_iff]
      intro c hc pc
      have := (hP c (List.mem_cons_of_mem _ hc)).mp pc
      exact nd.1 (this ▸ hc)
    · have nb : ¬ P b = true := fun pb => by
        have := (hP b List.mem_cons_self).mp pb
        exact nd.1 (this ▸ h)
      rw [List.filter_cons_of_neg nb]
      exact filter_one nd.2 h fun c hc => hP c (List.mem_cons_of_mem _ hc)
theorem srt_nd {l : List (Int × Int)} (h : l.Pairwise ltF) : l.Nodup := by
  rw [List.nodup_iff_pairwise_ne]
  exact h.imp fun {a b} h e => by
    have : a.1 < b.1 := h
    rw [e] at this
    omega
theorem roots_exs {row : List Int} (hp : Pg 40 row) (h : row ≠ []) : rootsOf (exs row) = [lst row] := by
  unfold rootsOf
  rw [filter_one (a := (lst row, lst row)) (srt_nd (exs_srt row)) ((mem_exs hp).mpr (nx_lst h)) fun b hb => ?_]
  · rfl
  · obtain ⟨x, y⟩ := b
    have hx := (mem_exs hp).mp hb
    rw [decide_eq_true_iff]
    constructor
    · intro e
      have e' : x = y := e
      rcases nx_ix hx with ⟨_, h2⟩ | ⟨h1, _⟩
      · rw [← e', h2]
      · exact absurd e' h1
    · intro e
      cases e
      rfl
theorem exs_len {row : List Int} (hp : Pg 40 row) : (exs row).length = (dd row).length := by
  have h1 : ((exs row).map (·.1)).Nodup := srt_nodup (exs_srt row)
  have h2 : ((exs row).map (·.1)).Perm (dd row) := by
    rw [List.perm_ext_iff_of_nodup h1 (dd_nodup row)]
    intro x
    rw [dd_mem]
    constructor
    · intro h
      obtain ⟨⟨a, b⟩, hq, rfl⟩ := List.mem_map.mp h
      exact (mem_nx ((mem_exs hp).mp hq)).1
    · intro h
      obtain ⟨y, hy⟩ := nx_mem h
      exact List.mem_map.mpr ⟨(x, y), (mem_exs hp).mpr hy, rfl⟩
  have := h2.length_eq
  rw [List.length_map] at this
  exact this
theorem exs_len40 (row : List Int) : (exs row).length ≤ 40 := by
  unfold exs
  refine Nat.le_trans (List.length_filterMap_le _ _) ?_
  rw [List.length_map, List.length_range]
  exact Nat.le_refl _
end EF

set_option Elab.async false
set_option linter.all false
set_option maxRecDepth 100000
set_option maxHeartbeats 4000000
/-! an own object is called -/
namespace BC
open PySem PySem.Spec PySem.Calls PyProof.Rows L2 Evl
section
variable {M : Model} {A : Around} {E : Value → Shared → Prop} {s : Shared} {env : Env} {pos : Pos} {x : Addr} {first : List Value} {Q : Value → Shared → Prop}
theorem callWith_own {args : List (Bool × Sem Value)} {keywords : List (Option Str × Sem Value)} (hplain : (args.any (·.1) || keywords.any (·.1.isNone)) = false)
    (h : wpAny M A (evalArgs (.ref x) true args keywords) (fun a s₁ => (∃ C ox od, PySem.W.InstAt s₁.heap x ox C od ∧ ox.data = .plain) ∧ wpAny M A (call (.ref x) (first ++ a.pos) a.kw) Q E s₁) E s) : wpAny M A (callWith pos (.ref x) first args keywords) Q E s := by
  unfold callWith
  refine wpAny_bind (wpAny_holding (wpAny_mono h (fun a s₁ h₁ => wpAny_bind (wpAny_standAt ?_)) fun _ _ y => y))
  obtain ⟨⟨C, ox, od, J, hd⟩, h2⟩ := h₁
  have L := PySem.W.kco_keeper (M := M) J hd
  simp only [hplain]
  refine wpAny_bind (L.here ?_)
  have tail : ∀ {t : Sem Value}, wpAny M A t Q E s₁ → wpAny M A (t >>= fun r => holding [r] point >>= fun _ => pure r) Q E s₁ :=
    fun ht => wpAny_bind (wpAny_mono ht (fun r s₂ hr => wpAny_bind (wpAny_holding (wpAny_point (wpAny_pure hr)))) fun _ _ y => y)
  exact tail (wpAny_operateT h2)
end
section
variable {X : Cx} {CX : CXT} {k : Nat} {f C a : Addr} {fd : FuncData} {ps ks : List Str} {sp : Sp} {E : XK} {x : Str} {p pos : Pos} {e : Expr} {es : List Expr} {kws : List Keyword} {tf : TE} {t tk : TA} {dvs : List V} {ds : List Value}
  {g : List Value → List Value → List Value} {gV : List V → List V → List V}
theorem inst_of {pins : List (Addr × Obj)} {σ : L2.St} {H : Hp} {s : Shared} (I : Inv X pins σ H s) {dx : Addr} {fs : List (Str × V)} (ea : H a = some (.ins C dx fs)) : ∃ ox od, PySem.W.InstAt s.heap a ox C od ∧ ox.data = .plain := by
  obtain ⟨mA, O, _, _, _, _⟩ := ins_get I.hok ea
  obtain ⟨od, J, _⟩ := O.look
  exact ⟨_, od, J, rfl⟩
structure CallOf (K : PySem.W.Frag) (C f : Addr) : Prop where
  hs : PySem.W.findIn K (.ref C) "__call__" = some (some (.ref f))
  hf : PySem.W.isFn K (.ref f) = true
  fn : PySem.W.fnIn K f = true
theorem run_own {pins : List (Addr × Obj)} {σ : L2.St} {H : Hp} {s : Shared} {Q : VK} {us : List Value} {vs : List V} (co : CallOf X.K C f) (F : FnOk X.prog X.w X.K X.mg X.base CX k f fd ps sp) (hr : Room k X.A) (hb : Binds X.K fd ps ds) (hd : Vals dvs ds) (hx : Passes CX X E)
    (I : Inv X pins σ H s) {dx : Addr} {fs : List (Str × V)} (ea : H a = some (.ins C dx fs)) (r : Vals vs us) (h : sp (.ref a :: (vs ++ dvs)) H Q E) : wpAny (model X.prog X.w) X.A (call (.ref a) us) (EP X pins σ Q) X.xe s := by
  obtain ⟨ox, od, J, hdt⟩ := inst_of I ea
  have r2 : Vals ((.ref a :: vs) ++ dvs) ((.ref a :: us) ++ ds) := Vals.append (.cons rfl r) hd
  have hl : ((.ref a :: us) ++ ds).length = ps.length := by rw [← r2.length]; exact F.len _ _ _ _ h
  refine wpAny_call (PySem.W.kco_code I.kIn J hdt co.hs co.hf co.fn ?_)
  refine codeAny_mono (F.run X.A X.stack s H ⟨.ref a :: us, []⟩ ((.ref a :: us) ++ ds) ((.ref a :: vs) ++ dvs) Q E hr I.env0 (hb s (.ref a :: us) I.kIn hl) r2 h) fun r s' hq => ?_
  cases r with
  | error e => exact hx pins σ H s e s' I hq
  | ok fl =>
    cases fl with
    | ret u => exact I.after hq
    | next => exact False.elim hq
    | brk => exact False.elim hq
    | cont => exact False.elim hq
theorem run_ownk {pins : List (Addr × Obj)} {σ : L2.St} {H : Hp} {s : Shared} {Q : VK} {us ws : List Value} {vs zs : List V} (co : CallOf X.K C f) (F : FnOk X.prog X.w X.K X.mg X.base CX k f fd ps sp) (hr : Room k X.A) (hb : KBinds X.K fd ps ks g gV) (hx : Passes CX X E)
    (I : Inv X pins σ H s) {dx : Addr} {fs : List (Str × V)} (ea : H a = some (.ins C dx fs)) (r : Vals vs us) (rz : Vals zs ws) (h : sp (gV (.ref a :: vs) zs) H Q E) : wpAny (model X.prog X.w) X.A (call (.ref a) us (ks.zip ws)) (EP X pins σ Q) X.xe s := by
  obtain ⟨ox, od, J, hdt⟩ := inst_of I ea
  have r2 := hb.rel (vs := .ref a :: vs) (us := .ref a :: us) (.cons rfl r) rz
  have hl : (g (.ref a :: us) ws).length = ps.length := by rw [← r2.length]; exact F.len _ _ _ _ h
  refine wpAny_call (PySem.W.kco_code I.kIn J hdt co.hs co.hf co.fn ?_)
  refine codeAny_mono (F.run X.A X.stack s H ⟨.ref a :: us, ks.zip ws⟩ (g (.ref a :: us) ws) (gV (.ref a :: vs) zs) Q E hr I.env0 (hb.to s (.ref a :: us) ws I.kIn hl) r2 h) fun r s' hq => ?_
  cases r with
  | error e => exact hx pins σ H s e s' I hq
  | ok fl =>
    cases fl with
    | ret u => exact I.after hq
    | next => exact False.elim hq
    | brk => exact False.elim hq
    | cont => exact False.elim hq
/-- o(e, ..) by the class's own __call__ -/
def tCallO (C : Addr) (sp : Sp) (dvs : List V) (E : XK) (tf : TE) (t : TA) : TE := fun σ H Q => tf σ H fun x H1 => ∃ a, x = .ref a ∧ t σ H1 fun vs H2 => (∃ dx fs, H2 a = some (.ins C dx fs)) ∧ sp (.ref a :: (vs ++ dvs)) H2 Q E
def tCallOK (C : Addr) (sp : Sp) (gV : List V → List V → List V) (E : XK) (tf : TE) (tk : TA) : TE := fun σ H Q => tf σ H fun x H1 => ∃ a, x = .ref a ∧ tk σ H1 fun zs H2 => (∃ dx fs, H2 a = some (.ins C dx fs)) ∧ sp (gV [.ref a] zs) H2 Q E
theorem pe_callO (hf : PE X (.Name x p) tf) (co : CallOf X.K C f) (F : FnOk X.prog X.w X.K X.mg X.base CX k f fd ps sp) (hr : Room k X.A) (hb : Binds X.K fd ps ds) (hd : Vals dvs ds) (hx : Passes CX X E) (ha : PA X (e :: es) t)
    (he : starEach (e :: es) X.env = (false, eval e X.env) :: starEach es X.env := by rfl) (hpl : (backTo pos (starEach es X.env)).any (·.1) = false := by rfl) : PE X (.Call (.Name x p) (e :: es) [] pos) (tCallO C sp dvs E tf t) := by
  refine ⟨fun pins s σ H Q I h => ?_⟩
  refine wpAny_Call_Name_kw (thn (hf.run pins s σ H _ I h) fun u s1 ⟨c, H1, I1, rc, a, ec, q1⟩ => ?_)
  subst ec
  obtain rfl : u = Value.ref a := rc
  have hh := thn (ha.run pos pins s1 σ H1 _ I1 q1) (Q' := fun vs s₁ => (∃ C ox od, PySem.W.InstAt s₁.heap a ox C od ∧ ox.data = .plain) ∧ wpAny (model X.prog X.w) X.A (call (.ref a) ([] ++ vs)) (EP X pins σ Q) X.xe s₁) fun us s2 ⟨vs, H2, I2, r, ⟨dx, fs, ea⟩, q2⟩ => by
    obtain ⟨ox, od, J, hdt⟩ := inst_of I2 ea
    exact ⟨⟨C, ox, od, J, hdt⟩, run_own co F hr hb hd hx I2 ea r q2⟩
  rw [he] at hh ⊢
  exact callWith_own (by show ((false || (backTo pos (starEach es X.env)).any (·.1)) || false) = false; rw [hpl]; rfl) (evalArgs_plain hh)
theorem pe_callOK0 (hf : PE X (.Name x p) tf) (co : CallOf X.K C f) (F : FnOk X.prog X.w X.K X.mg X.base CX k f fd ps sp) (hr : Room k X.A) (hb : KBinds X.K fd ps ks g gV) (hx : Passes CX X E) (hkw : PK X kws tk)
    (hall : (backToKw pos (keywordEach kws X.env)).all (·.1.isSome) = true := by rfl) (hks : (backToKw pos (keywordEach kws X.env)).filterMap (·.1) = ks := by rfl)
    (hpl : ((backTo pos (starEach [] X.env)).any (·.1) || (backToKw pos (keywordEach kws X.env)).any (·.1.isNone)) = false := by rfl) : PE X (.Call (.Name x p) [] kws pos) (tCallOK C sp gV E tf tk) := by
  refine ⟨fun pins s σ H Q I h => ?_⟩
  refine wpAny_Call_Name_kw (thn (hf.run pins s σ H _ I h) fun u s1 ⟨c, H1, I1, rc, a, ec, q1⟩ => ?_)
  subst ec
  obtain rfl : u = Value.ref a := rc
  have hh := thn (hkw.run pos pins s1 σ H1 _ I1 q1) (Q' := fun ws s₁ => (∃ C ox od, PySem.W.InstAt s₁.heap a ox C od ∧ ox.data = .plain) ∧ wpAny (model X.prog X.w) X.A (call (.ref a) ([] ++ []) (((backToKw pos (keywordEach kws X.env)).filterMap (·.1)).zip ws)) (EP X pins σ Q) X.xe s₁) fun ws s2 ⟨zs, H2, I2, rz, ⟨dx, fs, ea⟩, q2⟩ => by
    obtain ⟨ox, od, J, hdt⟩ := inst_of I2 ea
    refine ⟨⟨C, ox, od, J, hdt⟩, ?_⟩
    rw [hks]
    exact run_ownk (us := []) (vs := []) co F hr hb hx I2 ea .nil rz q2
  exact callWith_own hpl (evalArgs_kw2_nil hall hh)
theorem x_callO {σ : L2.St} {H : Hp} {Q : VK} : tCallO C sp dvs E tf t σ H Q = tf σ H (fun x H1 => ∃ a, x = .ref a ∧ t σ H1 fun vs H2 => (∃ dx fs, H2 a = some (.ins C dx fs)) ∧ sp (.ref a :: (vs ++ dvs)) H2 Q E) := rfl
theorem x_callOK {σ : L2.St} {H : Hp} {Q : VK} : tCallOK C sp gV E tf tk σ H Q = tf σ H (fun x H1 => ∃ a, x = .ref a ∧ tk σ H1 fun zs H2 => (∃ dx fs, H2 a = some (.ins C dx fs)) ∧ sp (gV [.ref a] zs) H2 Q E) := rfl
end
end BC

set_option Elab.async false
set_option linter.all false
set_option maxRecDepth 100000
set_option maxHeartbeats 4000000
/-! visits behind a trail: page by page, and by the exits -/
namespace EF
open PySem PySem.Spec PyProof.Rows L2 BC TR
/-- from a page along its exits -/
def ch : List Int → Int → List Int
  | [], _ => []
  | a :: r, p => if p ∈ r then ch r p else if p = a then a :: (match r with | [] => [] | b :: _ => ch r b) else []
/-- one more page -/
def st : List Int → Int → List Int
  | [], a => [a]
  | p :: P, a => if p = a then [a] else p :: st P a
def play (P : List Int) : List Int → List Int
  | [] => P
  | a :: r => play (st P a) r
/-- by the effect -/
def ef (row : List Int) : List Int → List Int
  | [] => match row with
    | [] => []
    | b :: _ => ch row b
  | p :: P => if p ∈ row then ch row p else p :: ef row P
theorem ch_self (a : Int) (r : List Int) (h : a ∉ r) : ch (a :: r) a = a :: ef r [] := by
  show (if a ∈ r then _ else if a = a then _ else _) = _
  rw [if_neg h, if_pos rfl]
  cases r <;> rfl
theorem ch_in {a p : Int} {r : List Int} (h : p ∈ r) : ch (a :: r) p = ch r p := by
  show (if p ∈ r then _ else _) = _
  rw [if_pos h]
theorem ef_one (a : Int) (r : List Int) : ef r [a] = ch (a :: r) a := by
  show (if a ∈ r then _ else _) = _
  by_cases h : a ∈ r
  · rw [if_pos h, ch_in h]
  · rw [if_neg h, ch_self a r h]
theorem ef_st (a : Int) (r : List Int) : ∀ P : List Int, ef r (st P a) = ef (a :: r) P
  | [] => by
    show ef r [a] = ch (a :: r) a
    exact ef_one a r
  | p :: P => by
    by_cases e : p = a
    · subst e
      show ef r (if p = p then _ else _) = if p ∈ p :: r then _ else _
      rw [if_pos rfl, if_pos List.mem_cons_self]
      exact ef_one p r
    · show ef r (if p = a then _ else p :: st P a) = if p ∈ a :: r then _ else p :: ef (a :: r) P
      rw [if_neg e]
      show (if p ∈ r then _ else p :: ef r (st P a)) = _
      by_cases h : p ∈ r
      · rw [if_pos h, if_pos (List.mem_cons_of_mem _ h), ch_in h]
      · rw [if_neg h, if_neg (fun m => (List.mem_cons.mp m).elim e h), ef_st a r P]
theorem play_ef : ∀ (row P : List Int), play P row = ef row P
  | [], P => by
    show P = ef [] P
    induction P with
    | nil => rfl
    | cons p P ih =>
      show p :: P = if p ∈ [] then _ else p :: ef [] P
      rw [if_neg List.not_mem_nil, ← ih]
  | a :: r, P => by
    show play (st P a) r = _
    rw [play_ef r, ef_st]
/-- the next page of the way -/
theorem ch_next : ∀ {row : List Int} {p y : Int}, nx row p = some y → (y = p → ch row p = [p]) ∧ (y ≠ p → ch row p = p :: ch row y)
  | a :: r, p, y, h => by
    cases e : nx r p with
    | some z =>
      rw [nx_some e] at h
      cases h
      obtain ⟨hp, hy⟩ := mem_nx e
      rw [ch_in hp, ch_in hy]
      exact ch_next e
    | none =>
      have hp : p ∉ r := fun m => by
        obtain ⟨z, hz⟩ := nx_mem m
        rw [e] at hz
        cases hz
      rw [nx_none e] at h
      split at h
      · next q =>
        subst q
        cases h
        rw [ch_self a r hp]
        cases r with
        | nil => exact ⟨fun _ => rfl, fun n => absurd rfl n⟩
        | cons b r' =>
          have ab : ¬ b = a := fun z => hp (by rw [z]; exact List.mem_cons_self)
          refine ⟨fun z => absurd z ab, fun _ => ?_⟩
          show a :: ch (b :: r') b = a :: ch (a :: b :: r') b
          rw [ch_in List.mem_cons_self]
      · cases h
theorem ch_hd {row : List Int} {p y : Int} (h : nx row p = some y) : ∃ t, ch row p = p :: t := by
  obtain ⟨h1, h2⟩ := ch_next h
  by_cases e : y = p
  · exact ⟨_, h1 e⟩
  · exact ⟨_, h2 e⟩
theorem ch_len : ∀ (row : List Int) (p : Int), (ch row p).length ≤ row.length
  | [], _ => Nat.le_refl _
  | a :: r, p => by
    show (if p ∈ r then _ else if p = a then _ else _ : List Int).length ≤ _
    split
    · exact Nat.le_trans (ch_len r p) (Nat.le_succ _)
    · split
      · cases r with
        | nil => exact Nat.le_refl _
        | cons b r' => exact Nat.succ_le_succ (ch_len (b :: r') b)
      · exact Nat.zero_le _
theorem ch_pg : ∀ {row : List Int} {p : Int}, ∀ x ∈ ch row p, x ∈ row
  | a :: r, p, x, h => by
    have h' := h
    unfold ch at h'
    split at h'
    · exact List.mem_cons_of_mem _ (ch_pg x h')
    · split at h'
      · rcases List.mem_cons.mp h' with rfl | h'
        · exact List.mem_cons_self
        · cases r with
          | nil => cases h'
          | cons b r' => exact List.mem_cons_of_mem _ (ch_pg x h')
      · cases h'
/-- the first page of the trail that is left, and what comes then -/
theorem ef_at {row : List Int} : ∀ {P : List Int} {i : Nat} {p : Int}, (∀ q ∈ P.take i, q ∉ row) → P[i]? = some p → p ∈ row → ef row P = P.take i ++ ch row p
  | [], _, _, _, h, _ => by cases h
  | q :: P, 0, p, _, h, hp => by
    have : q = p := by simpa using h
    subst this
    show (if q ∈ row then _ else _) = _
    rw [if_pos hp]
    rfl
  | q :: P, i + 1, p, h0, h, hp => by
    have hq : q ∉ row := h0 q (by rw [List.take_succ_cons]; exact List.mem_cons_self)
    show (if q ∈ row then _ else q :: ef row P) = _
    rw [if_neg hq, ef_at (fun x hx => h0 x (by rw [List.take_succ_cons]; exact List.mem_cons_of_mem _ hx)) (by simpa using h) hp]
    rfl
theorem ef_no {row : List Int} : ∀ {P : List Int}, (∀ q ∈ P, q ∉ row) → ef row P = P ++ ef row []
  | [], _ => rfl
  | q :: P, h => by
    show (if q ∈ row then _ else q :: ef row P) = _
    rw [if_neg (h q List.mem_cons_self), ef_no fun x hx => h x (List.mem_cons_of_mem _ hx)]
    rfl
/-- one more page, by its place -/
theorem st_no {a : Int} : ∀ {P : List Int}, a ∉ P → st P a = P ++ [a]
  | [], _ => rfl
  | p :: P, h => by
    rw [List.mem_cons, not_or] at h
    show (if p = a then _ else p :: st P a) = _
    rw [if_neg (fun z => h.1 z.symm), st_no h.2]
    rfl
theorem st_at {a : Int} : ∀ {P : List Int} {j : Nat}, P[j]? = some a → (∀ m, m < j → ∀ z, P[m]? = some z → z ≠ a) → st P a = P.take (j + 1)
  | [], _, h, _ => by cases h
  | p :: P, 0, h, _ => by
    have : p = a := by simpa using h
    subst this
    show (if p = p then _ else _) = _
    rw [if_pos rfl]
    rfl
  | p :: P, j + 1, h, h0 => by
    have hp : p ≠ a := h0 0 (by omega) p rfl
    show (if p = a then _ else p :: st P a) = _
    rw [if_neg hp, st_at (P := P) (j := j) (by simpa using h) fun m hm z hz => h0 (m + 1) (by omega) z (by simpa using hz)]
    rfl
theorem st_len (P : List Int) (a : Int) : (st P a).length ≤ P.length + 1 := by
  induction P with
  | nil => exact Nat.le_refl _
  | cons p P ih =>
    show (if p = a then _ else p :: st P a : List Int).length ≤ _
    split
    · simp
    · rw [List.length_cons, List.length_cons]; omega
theorem st_mem {P : List Int} {a : Int} : ∀ x ∈ st P a, x ∈ P ∨ x = a := by
  induction P with
  | nil => intro x h; exact .inr (List.mem_singleton.mp h)
  | cons p P ih =>
    intro x h
    have h' : x ∈ (if p = a then [a] else p :: st P a) := h
    split at h'
    · exact .inr (List.mem_singleton.mp h')
    · rcases List.mem_cons.mp h' with rfl | h'
      · exact .inl List.mem_cons_self
      · exact (ih x h').imp (List.mem_cons_of_mem _) id
theorem st_nodup {P : List Int} {a : Int} (h : P.Nodup) : (st P a).Nodup := by
  induction P with
  | nil => simp [st]
  | cons p P ih =>
    rw [List.nodup_cons] at h
    show (if p = a then [a] else p :: st P a : List Int).Nodup
    split
    · simp
    · next ne =>
      rw [List.nodup_cons]
      refine ⟨fun m => ?_, ih h.2⟩
      rcases st_mem p m with m | m
      · exact h.1 m
      · exact ne m
theorem play_ok : ∀ (row : List Int) {P : List Int}, P.Nodup → Pg 40 P → Pg 40 row → (play P row).Nodup ∧ Pg 40 (play P row)
  | [], P, h, hp, _ => ⟨h, hp⟩
  | a :: r, P, h, hp, hr => play_ok r (st_nodup h) (fun x hx => (st_mem x hx).elim (fun m => hp x m) fun e => by rw [e]; exact hr a List.mem_cons_self) fun x hx => hr x (List.mem_cons_of_mem _ hx)
theorem pg_len {P : List Int} (h : P.Nodup) (hp : Pg 40 P) : P.length ≤ 40 := by
  have h1 : P.Perm ((List.range 40).map (fun i : Nat => (i : Int)) |>.filter (· ∈ P)) := by
    rw [List.perm_ext_iff_of_nodup h ?_]
    · intro x
      rw [List.mem_filter]
      constructor
      · intro m
        have := hp x m
        exact ⟨List.mem_map.mpr ⟨x.toNat, List.mem_range.mpr (by omega), by omega⟩, decide_eq_true m⟩
      · intro m
        exact of_decide_eq_true m.2
    · refine List.Pairwise.filter _ ?_
      rw [List.pairwise_map]
      exact List.pairwise_lt_range.imp fun h => by omega
  rw [h1.length_eq]
  refine Nat.le_trans (List.length_filter_le _ _) ?_
  rw [List.length_map, List.length_range]
  exact Nat.le_refl _
end EF

set_option Elab.async false
set_option linter.all false
set_option maxRecDepth 100000
set_option maxHeartbeats 4000000
/-! own objects: ==, !=, in, + -/
namespace BC
open PySem PySem.Spec PySem.Calls PyProof.Rows L2 Evl
theorem looks_of {X : Cx} {pins : List (Addr × Obj)} {σ : L2.St} {H : Hp} {s : Shared} {y : V} {u t : Value} (I : Inv X pins σ H s) (ry : RelV y u) (ty : TyX X.K H y t) (M : Model) : PySem.W.Looks M s.heap (typeOf u) t := by
  obtain ⟨P, Z, p, _⟩ := kit_of I ry ty
  exact Z.ty M s.heap I.kIn p
section
variable {X : Cx} {CX : CXT} {k : Nat} {f C : Addr} {fd : FuncData} {ps : List Str} {sp : Sp} {E : XK}
def rEqO (K : PySem.W.Frag) (C : Addr) (sp : Sp) (E : XK) : R2 := fun x y H Q => ∃ a dx fs t, x = .ref a ∧ H a = some (.ins C dx fs) ∧ TyX K H y t ∧ PySem.W.notFirst K C t = true ∧ sp [.ref a, y] H (fun v H' => ∃ b : Bool, v = .bl b ∧ Q (.bl b) H') E
theorem op_eqO (hs : PySem.W.findIn X.K (.ref C) "__eq__" = some (some (.ref f))) (hf : PySem.W.isFn X.K (.ref f) = true) (F : FnOk X.prog X.w X.K X.mg X.base CX k f fd ps sp) (hr : Room k X.A) (hu : X.A.units + 64 < cLine) (hb : Binds X.K fd ps []) (hx : Passes CX X E) : OpR X (compareOp .Eq) (rEqO X.K C sp E) := by
  intro pins s σ H x y v u Q I rx ry h
  obtain ⟨a, dx, fs, t, rfl, ea, ty, nf, h⟩ := h
  obtain rfl : v = Value.ref a := rx
  obtain ⟨ox, od, J, hdt⟩ := inst_of I ea
  obtain ⟨m, hF⟩ := I.fr
  refine PySem.W.cmp_K (op := .Eq) (by omega) hF I.ok.mod.kin J (looks_of I ry ty _) nf hs hf ?_
  refine thn (run_fn F hr hb .nil hx I (us := [.ref a, u]) (vs := [.ref a, y]) (.cons rfl (.cons ry .nil)) h) fun r s' hq => ?_
  obtain ⟨v', H', I', rv, b, rfl, q⟩ := hq
  obtain rfl : r = Value.bool b := rv
  exact ⟨.bl b, H', I', rfl, q⟩
def rInO (C : Addr) (sp : Sp) (E : XK) : R2 := fun x y H Q => ∃ a dx fs, y = .ref a ∧ H a = some (.ins C dx fs) ∧ sp [.ref a, x] H (fun v H' => ∃ b : Bool, v = .bl b ∧ Q (.bl b) H') E
theorem op_inO (hs : PySem.W.findIn X.K (.ref C) "__contains__" = some (some (.ref f))) (hf : PySem.W.isFn X.K (.ref f) = true) (F : FnOk X.prog X.w X.K X.mg X.base CX k f fd ps sp) (hr : Room k X.A) (hb : Binds X.K fd ps []) (hx : Passes CX X E) : OpR X (compareOp .In) (rInO C sp E) := by
  intro pins s σ H x y v u Q I rx ry h
  obtain ⟨a, dx, fs, rfl, ea, h⟩ := h
  obtain rfl : u = Value.ref a := ry
  obtain ⟨ox, od, J, hdt⟩ := inst_of I ea
  obtain ⟨m, hF⟩ := I.fr
  refine PySem.W.in_K hF I.ok.mod.kin J hs hf ?_
  refine thn (run_fn F hr hb .nil hx I (us := [.ref a, v]) (vs := [.ref a, x]) (.cons rfl (.cons rx .nil)) h) fun r s' hq => ?_
  obtain ⟨v', H', I', rv, b, rfl, q⟩ := hq
  obtain rfl : r = Value.bool b := rv
  show wpAny _ _ (pure b) _ _ _
  exact wpAny_pure ⟨.bl b, H', I', rfl, q⟩
def rAddO (C : Addr) (sp : Sp) (E : XK) : R2 := fun x y H Q => ∃ a b dx fs dx2 fs2, x = .ref a ∧ y = .ref b ∧ H a = some (.ins C dx fs) ∧ H b = some (.ins C dx2 fs2) ∧ sp [.ref a, .ref b] H (fun v H' => ∃ c : Addr, v = .ref c ∧ Q (.ref c) H') E
theorem op_addO (hs : PySem.W.findIn X.K (.ref C) (PySem.dunder Operator.Add.info.2) = some (some (.ref f))) (hf : PySem.W.isFn X.K (.ref f) = true) (sf : PySem.W.selfFirst X.K C = true) (F : FnOk X.prog X.w X.K X.mg X.base CX k f fd ps sp) (hr : Room k X.A) (hb : Binds X.K fd ps []) (hx : Passes CX X E) : OpR X (binaryOp .Add) (rAddO C sp E) := by
  intro pins s σ H x y v u Q I rx ry h
  obtain ⟨a, b, dx, fs, dx2, fs2, rfl, rfl, ea, eb, h⟩ := h
  obtain rfl : v = Value.ref a := rx
  obtain rfl : u = Value.ref b := ry
  obtain ⟨ox, od, J, hdt⟩ := inst_of I ea
  obtain ⟨ox2, od2, J2, hdt2⟩ := inst_of I eb
  obtain ⟨m, hF⟩ := I.fr
  refine PySem.W.binop_K hF I.ok.mod.kin J J2.type sf hs hf ?_
  refine thn (run_fn F hr hb .nil hx I (us := [.ref a, .ref b]) (vs := [.ref a, .ref b]) (.cons rfl (.cons rfl .nil)) h) fun r s' hq => ?_
  obtain ⟨v', H', I', rv, c, rfl, q⟩ := hq
  obtain rfl : r = Value.ref c := rv
  exact ⟨.ref c, H', I', rfl, q⟩
end
/-! ### != by object.__ne__ and the own __eq__ -/
section
open PySem.W
variable {prog : Program} {w : World} {A : Around} {E : Value → Shared → Prop} {s : Shared} {K : Frag} {x C f : Addr} {ox : Obj} {od : Option Obj} {b tb : Value}
theorem ne_body {Q : Bool → Shared → Prop} (hu : A.units < cLine) (X : K.In s.heap) (I : InstAt s.heap x ox C od) (hs : findIn K (.ref C) "__eq__" = some (some (.ref f))) (hf : isFn K (.ref f) = true)
    (h : wpAny (model prog w) A (call (.ref f) [.ref x, b]) (fun r s' => ∃ y : Bool, r = .bool y ∧ Q (!y) s') E s) :
    wpAny (model prog w) A (Builtin.«object.__ne__» ⟨[.ref x, b], []⟩) (fun r s' => ∃ y : Bool, r = Fin.done (.ret (.bool y)) ∧ Q y s') E s := by
  unfold Builtin.«object.__ne__»
  refine wpAny_bind (wpAny_of_eq (a := ((Value.ref x : Value), [b])) (by first | rfl | (simp only [slotArgs]; rfl)) ?_)
  refine wpAny_bind (wpAny_cRoomFor hu ?_)
  refine wpAny_bind (ifBound_K X I hs hf (wpAny_mono h (fun r s' hr => ?_) fun _ _ e => e))
  obtain ⟨y, rfl, q⟩ := hr
  show wpAny _ _ (pure (Fin.done (.ret (.bool (!y)))) : Sem Fin) _ _ _
  exact wpAny_pure ⟨!y, rfl, q⟩
theorem ne_call {Q : Bool → Shared → Prop} (hu : A.in1.units < cLine) (X : K.In s.heap) (I : InstAt s.heap x ox C od) (ho : subIn K (.ref C) (.type "object") = some true) (hs : findIn K (.ref C) "__eq__" = some (some (.ref f))) (hf : isFn K (.ref f) = true)
    (h : wpAny (model prog w) A.in1 (call (.ref f) [.ref x, b]) (fun r s' => ∃ y : Bool, r = .bool y ∧ Q (!y) s') E s) :
    wpAny (model prog w) A (call (.builtin "object.__ne__") [.ref x, b]) (fun r s' => ∃ y : Bool, r = .bool y ∧ Q y s') E s := by
  have sub : Looks (model prog w) s.heap (isInstance (.ref x) (.type "object")) true := I.type.andThen (looks_subIn X ho)
  refine wpAny_call (codeAny_call_builtin PySem.F.cmp_object.ne.plain PySem.F.cmpEntry_ne (check_slot PySem.F.cmpKind_ne PySem.F.cmpSplit_ne sub (PySem.F.cmpArgs_ne _ _) ?_))
  refine wpAny_mono (ne_body hu X I hs hf h) (fun r s' hr => ?_) fun _ _ e => e
  obtain ⟨y, rfl, q⟩ := hr
  exact ⟨y, rfl, q⟩
theorem ne_try {Q : Bool → Shared → Prop} (hu : A.in1.units < cLine) (X : K.In s.heap) (I : InstAt s.heap x ox C od) (ho : subIn K (.ref C) (.type "object") = some true) (hne : findIn K (.ref C) "__ne__" = some (some (.builtin "object.__ne__"))) (hs : findIn K (.ref C) "__eq__" = some (some (.ref f))) (hf : isFn K (.ref f) = true)
    (h : wpAny (model prog w) A.in1 (call (.ref f) [.ref x, b]) (fun r s' => ∃ y : Bool, r = .bool y ∧ Q (!y) s') E s) :
    wpAny (model prog w) A (tryCompare (.ref x) "__ne__" b) (fun r s' => ∃ y : Bool, r = some (.bool y) ∧ Q y s') E s := by
  unfold tryCompare
  refine wpAny_bind (wpAny_mono (Q := fun r s' => ∃ y : Bool, r = some (.bool y) ∧ Q y s') ?_ (fun r s' hr => ?_) fun _ _ e => e)
  · simp only [callSpecialIfBound?, bindSpecialIfBound?]
    refine wpAny_holding (wpAny_bind (wpAny_bind (wpAny_bind (I.type.here ((looks_findIn X hne).here ?_)))))
    simp only [PySem.F.cmp_object.ne.bind]
    refine wpAny_bind (wpAny_askSetting (wpAny_ite ?_))
    have fin : wpAny (model prog w) A (call (.builtin "object.__ne__") ([.ref x] ++ [b]) >>= fun v => pure (some v)) (fun r s' => ∃ y : Bool, r = some (.bool y) ∧ Q y s') E s :=
      wpAny_bind (wpAny_mono (ne_call hu X I ho hs hf h) (fun v s' h' => wpAny_pure (by obtain ⟨y, rfl, q⟩ := h'; exact ⟨y, rfl, q⟩)) fun _ _ h' => h')
    split
    · exact wpAny_bind (wpAny_pure (wpAny_pure fin))
    · exact wpAny_tryCatch (wpAny_bind (wpAny_pure (wpAny_pure fin)))
  · obtain ⟨y, rfl, q⟩ := hr
    exact wpAny_pure ⟨y, rfl, q⟩
theorem ne_own {Q : Value → Shared → Prop} (hu : A.in1.units < cLine) (hu0 : A.units < cLine) (X : K.In s.heap) (I : InstAt s.heap x ox C od) (hb : Looks (model prog w) s.heap (typeOf b) tb) (hn : notFirst K C tb = true)
    (ho : subIn K (.ref C) (.type "object") = some true) (hne : findIn K (.ref C) "__ne__" = some (some (.builtin "object.__ne__"))) (hs : findIn K (.ref C) "__eq__" = some (some (.ref f))) (hf : isFn K (.ref f) = true)
    (h : wpAny (model prog w) A.in1 (call (.ref f) [.ref x, b]) (fun r s' => ∃ y : Bool, r = .bool y ∧ Q (.bool (!y)) s') E s) : wpAny (model prog w) A (richCompare .NotEq (.ref x) b) Q E s := by
  have one := ne_try (Q := fun y s' => Q (.bool y) s') hu X I ho hne hs hf h
  unfold richCompare
  simp only [oneThing_ref]
  refine wpAny_holding (wpAny_bind (wpAny_cRoomFor hu0 ?_))
  refine wpAny_bind (I.type.here (wpAny_bind (hb.here ?_)))
  split
  · rename_i q
    have e : subIn K tb (.ref C) = some false := by
      rcases Bool.or_eq_true_iff.mp hn with e | e
      · rw [beq_iff_eq.mp e] at q; simp at q
      · exact beq_iff_eq.mp e
    refine wpAny_bind ((looks_subIn X e).here ?_)
    simp only [Bool.false_eq_true, if_false]
    refine wpAny_bind (wpAny_mono one (fun r s' z => ?_) fun _ _ e => e)
    obtain ⟨v, rfl, hq⟩ := z
    exact wpAny_pure hq
  · refine wpAny_bind (wpAny_pure ?_)
    simp only [Bool.false_eq_true, if_false]
    refine wpAny_bind (wpAny_mono one (fun r s' z => ?_) fun _ _ e => e)
    obtain ⟨v, rfl, hq⟩ := z
    exact wpAny_pure hq
end
section
variable {X : Cx} {CX : CXT} {k : Nat} {f C : Addr} {fd : FuncData} {ps : List Str} {sp : Sp} {E : XK}
theorem run_fn1 {pins : List (Addr × Obj)} {σ : L2.St} {H : Hp} {s : Shared} {Q : VK} {us : List Value} {vs : List V} (F : FnOk X.prog X.w X.K X.mg X.base CX k f fd ps sp) (hr : Room (k + 1) X.A) (hb : Binds X.K fd ps []) (hx : Passes CX X E)
    (I : Inv X pins σ H s) (r : Vals vs us) (h : sp vs H Q E) : wpAny (model X.prog X.w) X.A.in1 (call (.ref f) us) (EP X pins σ Q) X.xe s := by
  have hl : us.length = ps.length := by rw [← r.length]; exact F.len _ _ _ _ h
  have hl2 : (us ++ ([] : List Value)).length = ps.length := by rw [List.append_nil]; exact hl
  have hb2 := hb s us I.kIn hl2
  rw [List.append_nil] at hb2
  refine wpAny_call (codeAny_mono (F.run X.A.in1 X.stack s H ⟨us, []⟩ us vs Q E hr.in1 I.env0.in1 hb2 r h) fun r s' hq => ?_)
  cases r with
  | error e => exact hx pins σ H s e s' I hq
  | ok fl =>
    cases fl with
    | ret u => exact I.after hq
    | next => exact False.elim hq
    | brk => exact False.elim hq
    | cont => exact False.elim hq
structure NeOf (K : PySem.W.Frag) (C : Addr) : Prop where
  ob : PySem.W.subIn K (.ref C) (.type "object") = some true
  ne : PySem.W.findIn K (.ref C) "__ne__" = some (some (.builtin "object.__ne__"))
theorem op_neO (N : NeOf X.K C) (hs : PySem.W.findIn X.K (.ref C) "__eq__" = some (some (.ref f))) (hf : PySem.W.isFn X.K (.ref f) = true) (F : FnOk X.prog X.w X.K X.mg X.base CX k f fd ps sp) (hr : Room (k + 1) X.A) (hu : X.A.units + 64 < cLine) (hb : Binds X.K fd ps []) (hx : Passes CX X E) : OpR X (compareOp .NotEq) (fun x y H Q => rEqO X.K C sp E x y H fun v H' => ∃ b : Bool, v = .bl b ∧ Q (.bl (!b)) H') := by
  intro pins s σ H x y v u Q I rx ry h
  obtain ⟨a, dx, fs, t, rfl, ea, ty, nf, h⟩ := h
  obtain rfl : v = Value.ref a := rx
  obtain ⟨ox, od, J, hdt⟩ := inst_of I ea
  refine ne_own (by show X.A.units + 1 < cLine; omega) (by omega) I.kIn J (looks_of I ry ty _) nf N.ob N.ne hs hf ?_
  refine thn (run_fn1 F hr hb hx I (us := [.ref a, u]) (vs := [.ref a, y]) (.cons rfl (.cons ry .nil)) h) fun r s' hq => ?_
  obtain ⟨v', H', I', rv, b, rfl, c, hc, q⟩ := hq
  cases hc
  obtain rfl : r = Value.bool b := rv
  exact ⟨b, rfl, .bl (!b), H', I', rfl, q⟩
end
/-- what of the text a class with own operations must have -/
structure ClsO (K : PySem.W.Frag) (C : Addr) : Prop where
  cl : Cls K C
  ha : PySem.W.findIn K (.ref C) "__class__" = some (some (.builtin "object.__class__"))
  hn : PySem.W.specialIn K (.builtin "object.__class__") "__get__" = some (some (.builtin "getset_descriptor.__get__"))
  htk : PySem.W.takesIn K (.builtin "object.__class__") = some true
  hm : PySem.W.mroIn K C (.type "object") = some true
  ic : PySem.W.isClsIn K C = true
  tc : PySem.W.typeIn K (.ref C) = some (.type "type")
  nf_list : PySem.W.notFirst K C (.type "list") = true
  nf_tuple : PySem.W.notFirst K C (.type "tuple") = true
  nf_dict : PySem.W.notFirst K C (.type "dict") = true
  nf_int : PySem.W.notFirst K C (.type "int") = true
  nf_str : PySem.W.notFirst K C (.type "str") = true
  nf_bool : PySem.W.notFirst K C (.type "bool") = true
  nf_NoneType : PySem.W.notFirst K C (.type "NoneType") = true
  sf : PySem.W.selfFirst K C = true
  ob : PySem.W.subIn K (.ref C) (.type "object") = some true
  ne : PySem.W.findIn K (.ref C) "__ne__" = some (some (.builtin "object.__ne__"))
theorem ClsO.me {K : PySem.W.Frag} {C : Addr} (c : ClsO K C) : PySem.W.kitOne K (.ref C) (.ref C) = some true := by simp [PySem.W.kitOne]
theorem ClsO.ki {K : PySem.W.Frag} {C : Addr} (c : ClsO K C) {t : String} (n : PySem.W.notFirst K C (.type t) = true) : PySem.W.kitOne K (.type t) (.ref C) = some false := by
  have hne : ((Value.type t) == Value.ref C) = false := beq_eq_false_iff_ne.mpr (fun z => nomatch z)
  have hs : PySem.W.subIn K (.type t) (.ref C) = some false := by
    unfold PySem.W.notFirst at n
    rw [hne, Bool.false_or] at n
    exact beq_iff_eq.mp n
  have hi : (PySem.W.clsIn K C).isSome = true := c.ic
  unfold PySem.W.kitOne PySem.W.kitCls
  rw [hne, if_neg Bool.false_ne_true]
  simp only [hi, c.tc, beq_self_eq_true, Bool.and_self, if_true]
  exact hs
theorem ClsO.neOf {K : PySem.W.Frag} {C : Addr} (c : ClsO K C) : NeOf K C := ⟨c.ob, c.ne⟩
theorem ClsO.ty {K : PySem.W.Frag} {C : Addr} (c : ClsO K C) {H : Hp} {a dx : Addr} {fs : List (Str × V)} (e : H a = some (.ins C dx fs)) : TyX K H (.ref a) (.ref C) := .base (.ins e c.cl c.ha c.hn c.htk c.hm)
theorem ClsO.self {K : PySem.W.Frag} {C : Addr} : PySem.W.notFirst K C (.ref C) = true := by simp [PySem.W.notFirst]
/-- a value that is no object of the class, its type known -/
def Odd (K : PySem.W.Frag) (C : Addr) (H : Hp) (y : V) : Prop := ∃ t, TyX K H y t ∧ PySem.W.notFirst K C t = true ∧ PySem.W.kitOne K t (.ref C) = some false
theorem Odd.non {K : PySem.W.Frag} {C : Addr} {H : Hp} (c : ClsO K C) : Odd K C H .non := ⟨_, .base .non, c.nf_NoneType, c.ki c.nf_NoneType⟩
theorem Odd.int {K : PySem.W.Frag} {C : Addr} {H : Hp} (c : ClsO K C) (i : Int) : Odd K C H (.int i) := ⟨_, .base (.int i), c.nf_int, c.ki c.nf_int⟩
theorem Odd.bl {K : PySem.W.Frag} {C : Addr} {H : Hp} (c : ClsO K C) (b : Bool) : Odd K C H (.bl b) := ⟨_, .base (.bl b), c.nf_bool, c.ki c.nf_bool⟩
theorem Odd.str {K : PySem.W.Frag} {C : Addr} {H : Hp} (c : ClsO K C) (x : Str) : Odd K C H (.str x) := ⟨_, .base (.str x), c.nf_str, c.ki c.nf_str⟩
theorem Odd.lst {K : PySem.W.Frag} {C : Addr} {H : Hp} (c : ClsO K C) {a : Addr} {xs : List V} (e : H a = some (.lst xs)) : Odd K C H (.ref a) := ⟨_, .base (.lst e), c.nf_list, c.ki c.nf_list⟩
theorem Odd.tup {K : PySem.W.Frag} {C : Addr} {H : Hp} (c : ClsO K C) {a : Addr} {xs : List V} (e : H a = some (.tup xs)) : Odd K C H (.ref a) := ⟨_, .base (.tup e), c.nf_tuple, c.ki c.nf_tuple⟩
theorem Odd.dic {K : PySem.W.Frag} {C : Addr} {H : Hp} (c : ClsO K C) {a : Addr} {xs : List (Key × V)} (e : H a = some (.dK xs)) : Odd K C H (.ref a) := ⟨_, .base (.dK e), c.nf_dict, c.ki c.nf_dict⟩
theorem hu64 {a : Nat} (h : a + 64 < cLine) : a < cLine := by omega
def rDictD : List V → Hp → VK → Prop := fun xs H Q => ∃ (a : Addr) (kvs : List (Key × V)), xs = [.ref a] ∧ Rd H a (.dK kvs) ∧ ∀ p, H p = none → Q (.ref p) (upd H p (.dK kvs))
theorem k_dictD {X : Cx} : CallR X (.type "dict") rDictD := L2.call_dictD
theorem lg_tup {K : PySem.W.Frag} {a : Addr} {xs : List V} {g : TG} {tb : TS} {D : Ends} {σ : L2.St} {H : Hp} (Pv : Nat → L2.St → Hp → Prop) (h0 : Pv 0 σ H) (hl : ∀ i σ H, i ≤ xs.length → Pv i σ H → SqT K H a xs)
    (hs : ∀ i x σ H, xs[i]? = some x → Pv i σ H → g x σ H fun σ2 H2 => tb { D with nx := Pv (i + 1), ct := Pv (i + 1), bk := D.nx } σ2 H2) (hd : ∀ σ H, Pv xs.length σ H → D.nx σ H) : LoopG (Itt K a) g tb D σ H := for_tup Pv h0 hl hs hd
section
variable {X : Cx} {CX : CXT} {K : PySem.W.Frag} {k : Nat} {f C : Addr} {fd : FuncData} {ps : List Str} {sp : Sp} {E : XK}
theorem k_eqO (hK : X.K = K) (hs : PySem.W.findIn K (.ref C) "__eq__" = some (some (.ref f))) (hf : PySem.W.isFn K (.ref f) = true) (F : FnOk X.prog X.w X.K X.mg X.base CX k f fd ps sp) (hr : Room k X.A) (hu : X.A.units + 64 < cLine) (hb : Binds K fd ps []) (hx : Passes CX X E) : OpR X (compareOp .Eq) (rEqO K C sp E) := by
  subst hK
  exact op_eqO hs hf F hr hu hb hx
def rNeO (K : PySem.W.Frag) (C : Addr) (sp : Sp) (E : XK) : R2 := fun x y H Q => rEqO K C sp E x y H fun v H' => ∃ b : Bool, v = .bl b ∧ Q (.bl (!b)) H'
theorem k_neO (hK : X.K = K) (N : NeOf K C) (hs : PySem.W.findIn K (.ref C) "__eq__" = some (some (.ref f))) (hf : PySem.W.isFn K (.ref f) = true) (F : FnOk X.prog X.w X.K X.mg X.base CX k f fd ps sp) (hr : Room (k + 1) X.A) (hu : X.A.units + 64 < cLine) (hb : Binds K fd ps []) (hx : Passes CX X E) : OpR X (compareOp .NotEq) (rNeO K C sp E) := by
  subst hK
  exact op_neO N hs hf F hr hu hb hx
end
end BC

set_option Elab.async false
set_option linter.all false
set_option maxRecDepth 100000
set_option maxHeartbeats 4000000
/-! list.count of numbers; len(set(xs)) told whole -/
namespace BC
open PySem PySem.Spec PyProof.Rows L2 Evl RZ
theorem k_lcount {X : Cx} {K : PySem.W.Frag} (hK : X.K = K) : MtR X "list.count" (rCntI K) := by
  subst hK
  exact mt_lcount
section
variable {w : World} {h : Heap} {a : Addr} {S : Int → Bool} {n m : Nat}
theorem setR_keys {ns : List Int} (R : SetR w h a (fun j => decide (j ∈ ns)) n) : ∃ ks : List Int, ks.Nodup ∧ (∀ x, x ∈ ks ↔ x ∈ ns) ∧ n = ks.length := by
  obtain ⟨o, es, ep, t, ho, hex, hd, g, nd, hm, hbd, hf, hn, hr, hl⟩ := R
  exact ⟨es.toList.map keyOf, nd, fun x => ⟨fun hx => of_decide_eq_true ((hm x).mpr hx), fun hx => (hm x).mp (decide_eq_true hx)⟩, by rw [List.length_map, Array.length_toList]; exact hn.symm⟩
end
section
variable {X : Cx} {K : PySem.W.Frag} {a : Expr} {ta : TE} {p p2 q pos : Pos}
/-- len(set(xs)): how many different numbers -/
def tLenSetC (K : PySem.W.Frag) (ta : TE) : TE := fun σ H Q => ta σ H fun x H1 => ∃ (l : Addr) (ns : List Int), x = .ref l ∧ SqL K H1 l (ns.map V.int) ∧ ns.length ≤ 4000 ∧ ∀ ks : List Int, ks.Nodup → (∀ x, x ∈ ks ↔ x ∈ ns) → ks.length ≤ ns.length → Q (.int (ks.length : Nat)) H1
theorem k_lenSetC (hK : X.K = K) (hg : Gl X "len") (hm : X.mg "len" = none) (hg2 : Gl X "set") (hm2 : X.mg "set" = none) (ha : PE X a ta) (hc : X.calm = true := by rfl)
    (na : starEach [a] X.env = (false, eval a X.env) :: starEach [] X.env := by rfl) : PE X (.Call (.Name "len" p) [.Call (.Name "set" p2) [a] [] q] [] pos) (tLenSetC K ta) := by
  subst hK
  refine ⟨fun pins s σ H Q I h => ?_⟩
  refine Call_ (ld_blt I hg hm boot_len ?_)
  refine callWith_builtin1 (args_cons ?_ rfl) rfl rfl
  refine Call_ (ld_blt I hg2 hm2 boot_set ?_)
  refine callWith_type1 (args_cons (thn (ha.run pins s σ H _ I h) fun v s1 ⟨x, H1, I1, r1, q1⟩ => args_nil ?_) na) na rfl
  obtain ⟨l, ns, rfl, hq, hl, q1⟩ := q1
  cases r1
  obtain ⟨its, r, pl, hz⟩ := I1.list hq
  refine set_of_list ns (I1.ok.hd hc) pl.isList (by simpa using intsAre_vals r) (by unfold scanBound; omega) fun h' tk c hS hcl hk => ?_
  refine args_nil ?_
  have I2 : Inv X pins σ H1 { s1 with heap := h', toks := tk } := I1.kept hk
  obtain ⟨ks, k1, k2, k3⟩ := setR_keys hS
  have q2 := q1 ks k1 k2 (by rw [← k3]; exact hcl)
  rw [← k3] at q2
  obtain ⟨o, es, ep, t, ho, hex, hd, _, _, _, hbd, hf, hn, _, _⟩ := hS
  exact call_len_set ho hex hd hf (by rw [hn]; omega) ⟨.int c, H1, I2.tok _, ⟨_, by rw [hn]⟩, q2⟩
theorem x_lenSetC {σ : L2.St} {H : Hp} {Q : VK} : tLenSetC K ta σ H Q = ta σ H fun x H1 => ∃ (l : Addr) (ns : List Int), x = .ref l ∧ SqL K H1 l (ns.map V.int) ∧ ns.length ≤ 4000 ∧ ∀ ks : List Int, ks.Nodup → (∀ x, x ∈ ks ↔ x ∈ ns) → ks.length ≤ ns.length → Q (.int (ks.length : Nat)) H1 := rfl
end
end BC

set_option Elab.async false
set_option linter.all false
set_option maxRecDepth 100000
set_option maxHeartbeats 4000000
/-! forests of few pages, in plain numbers -/
namespace FO
structure Fo where
  ms : List Nat
  rt : Option Nat
  deriving DecidableEq
def allow (F : Fo) (p q : Nat) : Bool := if p = q then F.rt.isNone else decide (F.ms.getD p 0 ≠ F.ms.getD q 0)
def choose (F : Fo) (p q : Nat) : Fo := if p = q then ⟨F.ms, some (F.ms.getD p 0)⟩ else ⟨F.ms.map fun x => if x = F.ms.getD p 0 then F.ms.getD q 0 else x, F.rt⟩
def parts (F : Fo) : Nat := F.ms.eraseDups.length
def ways (m : Nat) (F : Fo) : Nat := match F.rt with
  | none => m ^ (parts F - 1)
  | some r => if parts F = 1 then 1 else F.ms.count r * m ^ (parts F - 2)
def new (m : Nat) : Fo := ⟨List.range m, none⟩
/-- the first of the candidates that the rest falls to -/
def pick (m : Nat) (F : Fo) (p : Nat) : Option Nat → Int → List Nat → Option Nat × Int
  | l, r, [] => (l, r)
  | _, r, c :: cs => if r < (ways m (choose F p c) : Nat) then (some c, r) else pick m F p (some c) (r - (ways m (choose F p c) : Nat)) cs
def cands (m : Nat) (F : Fo) (p : Nat) : List Nat := (List.range m).filter fun q => allow F p q
structure St where
  F : Fo
  l : Option Nat
  r : Int
  ex : List (Nat × Nat)
  deriving DecidableEq
def step (m : Nat) (S : St) (p : Nat) : St :=
  let k := pick m S.F p S.l S.r (cands m S.F p)
  ⟨choose S.F p (k.1.getD 0), k.1, k.2, S.ex ++ [(p, k.1.getD 0)]⟩
def run (m : Nat) (r : Int) : Nat → St
  | 0 => ⟨new m, none, r, []⟩
  | p + 1 => step m (run m r p) p
def exitsN (m at_ : Nat) : List (Nat × Nat) := (run m ((at_ % m ^ (m - 1) : Nat) : Int) m).ex
/-- the rank's sum over the smaller pages -/
def small (m : Nat) (F : Fo) (p : Nat) : Nat → Nat
  | 0 => 0
  | q + 1 => small m F p q + if allow F p q then ways m (choose F p q) else 0
def rk (m : Nat) (E : List (Nat × Nat)) : Nat → Fo × Nat
  | 0 => (new m, 0)
  | i + 1 => let F := (rk m E i).1; let e := E.getD i (0, 0)
    (choose F e.1 e.2, (rk m E i).2 + small m F e.1 e.2)
/-- all lists of exits, as the law makes them -/
def rows (m : Nat) : Nat → List (List (Nat × Nat))
  | 0 => [[]]
  | p + 1 => (rows m p).flatMap fun r => (List.range m).map fun q => r ++ [(p, q)]
def to (E : List (Nat × Nat)) (p : Nat) : Nat := (E.getD p (0, 0)).2
def endOf (E : List (Nat × Nat)) : Nat → Nat → Nat
  | 0, p => p
  | n + 1, p => to E (endOf E n p)
def roots (E : List (Nat × Nat)) : List Nat := (E.filter fun e => decide (e.1 = e.2)).map (·.1)
def good (m : Nat) (E : List (Nat × Nat)) : Bool := decide ((roots E).length = 1) && ((List.range m).all fun p => decide (endOf E m p = (roots E).getD 0 0))
def trees (m : Nat) : List (List (Nat × Nat)) := (rows m m).filter (good m)
/-- how deep a page lies -/
def deep (E : List (Nat × Nat)) : Nat → Nat → Nat
  | 0, _ => 0
  | n + 1, p => if to E p = p then 0 else deep E n (to E p) + 1
/-- visits with these exits -/
def visitsOf (m : Nat) (E : List (Nat × Nat)) : List Int := (((List.range (m + 1)).reverse.flatMap fun d => ((List.range m).filter fun p => decide (deep E m p = d)).flatMap fun p => if to E p = p then [p] else [p, to E p]).map fun x : Nat => (x : Int))
def zs (E : List (Nat × Nat)) : List (Int × Int) := E.map fun e => ((e.1 : Int), (e.2 : Int))
def okAt (m a : Nat) : Bool := decide ((trees m)[a % (trees m).length]? = some (exitsN m a)) && decide ((trees m).length = m ^ (m - 1)) && decide ((rk m (exitsN m a) m).2 = a % m ^ (m - 1)) &&
  decide (EF.exs (visitsOf m (exitsN m a)) = zs (exitsN m a)) && (visitsOf m (exitsN m a)).all (fun x => decide (0 ≤ x) && decide (x < 4)) && decide ((exitsN m a).length = m)
def okAll (m : Nat) : Bool := (List.range (m * m ^ (m - 1))).all (okAt m)
theorem ok_1 : okAll 1 = true := by decide +kernel
theorem ok_2 : okAll 2 = true := by decide +kernel
theorem ok_3 : okAll 3 = true := by decide +kernel
theorem ok_4 : okAll 4 = true := by decide +kernel
end FO

set_option Elab.async false
set_option linter.all false
set_option maxRecDepth 100000
set_option maxHeartbeats 4000000
namespace FO
def okMore (m a : Nat) : Bool := ((List.range m).all fun p => (run m ((a % m ^ (m - 1) : Nat) : Int) (p + 1)).l.isSome && decide ((run m ((a % m ^ (m - 1) : Nat) : Int) (p + 1)).l.getD 0 < m) && decide ((run m ((a % m ^ (m - 1) : Nat) : Int) p).F.ms.length = m) && decide ((rk m (exitsN m a) p).1.ms.length = m) &&
  decide (((exitsN m a).getD p (0, 0)).1 = p) && decide (((exitsN m a).getD p (0, 0)).2 < m)) && decide ((((a / m ^ (m - 1) : Nat)) : Int) ∈ visitsOf m (exitsN m a))
def moreAll (m : Nat) : Bool := (List.range (m * m ^ (m - 1))).all (okMore m)
theorem more_1 : moreAll 1 = true := by decide +kernel
theorem more_2 : moreAll 2 = true := by decide +kernel
theorem more_3 : moreAll 3 = true := by decide +kernel
theorem more_4 : moreAll 4 = true := by decide +kernel
theorem all_ok : ∀ m : Nat, 1 ≤ m → m ≤ 4 → okAll m = true ∧ moreAll m = true
  | 1, _, _ => ⟨ok_1, more_1⟩
  | 2, _, _ => ⟨ok_2, more_2⟩
  | 3, _, _ => ⟨ok_3, more_3⟩
  | 4, _, _ => ⟨ok_4, more_4⟩
  | 0, h, _ => absurd h (by omega)
  | n + 5, _, h => absurd h (by omega)
structure At (m a : Nat) : Prop where
  tree : (trees m)[a % (trees m).length]? = some (exitsN m a)
  many : (trees m).length = m ^ (m - 1)
  rank : (rk m (exitsN m a) m).2 = a % m ^ (m - 1)
  exs : EF.exs (visitsOf m (exitsN m a)) = zs (exitsN m a)
  page : ∀ x ∈ visitsOf m (exitsN m a), 0 ≤ x ∧ x < 4
  len : (exitsN m a).length = m
  some : ∀ p, p < m → ∃ q, (run m ((a % m ^ (m - 1) : Nat) : Int) (p + 1)).l = some q ∧ q < m
  marks : ∀ p, p < m → (run m ((a % m ^ (m - 1) : Nat) : Int) p).F.ms.length = m
  marks2 : ∀ p, p < m → (rk m (exitsN m a) p).1.ms.length = m
  fst : ∀ p, p < m → ((exitsN m a).getD p (0, 0)).1 = p
  snd : ∀ p, p < m → ((exitsN m a).getD p (0, 0)).2 < m
  begin : (((a / m ^ (m - 1) : Nat)) : Int) ∈ visitsOf m (exitsN m a)
theorem at_ok {m a : Nat} (h1 : 1 ≤ m) (h2 : m ≤ 4) (ha : a < m * m ^ (m - 1)) : At m a := by
  obtain ⟨h, g⟩ := all_ok m h1 h2
  have h := List.all_eq_true.mp h a (List.mem_range.mpr ha)
  have g := List.all_eq_true.mp g a (List.mem_range.mpr ha)
  unfold okAt at h
  unfold okMore at g
  simp only [Bool.and_eq_true, decide_eq_true_eq, List.all_eq_true, List.mem_range] at h g
  obtain ⟨⟨⟨⟨⟨q1, q2⟩, q3⟩, q4⟩, q5⟩, q6⟩ := h
  obtain ⟨g1, g2⟩ := g
  refine ⟨q1, q2, q3, q4, q5, q6, fun p hp => ?_, fun p hp => (g1 p hp).1.1.1.2, fun p hp => (g1 p hp).1.1.2, fun p hp => (g1 p hp).1.2, fun p hp => (g1 p hp).2, g2⟩
  obtain ⟨⟨⟨⟨⟨a1, a2⟩, _⟩, _⟩, _⟩, _⟩ := g1 p hp
  obtain ⟨q, hq⟩ := Option.isSome_iff_exists.mp a1
  rw [hq] at a2
  exact ⟨q, hq, a2⟩
end FO

set_option Elab.async false
set_option linter.all false
set_option maxRecDepth 100000
set_option maxHeartbeats 4000000
namespace LW
open PySem PySem.Spec PyProof.Rows L2 BC Evl TR EF L2.DX
def topS (i : Nat) : Stmt := PySem.Challenge.pw_breadcrumbs_k36_effects_of_few_pages_lis.main.body.getD i (.Pass ⟨0, 0, 0, 0⟩)
abbrev s_is_integer : Stmt := topS 7
theorem sc_is_integer : FnScope ["value", "least", "most"] ["value", "least", "most"] (defScope s_is_integer) := ⟨rfl, rfl, rfl, by decide +kernel, rfl, by decide +kernel, by decide +kernel⟩
abbrev s_check_number : Stmt := topS 8
theorem sc_check_number : FnScope ["value", "least", "most"] ["value", "least", "most"] (defScope s_check_number) := ⟨rfl, rfl, rfl, by decide +kernel, rfl, by decide +kernel, by decide +kernel⟩
abbrev s_is_page : Stmt := topS 11
theorem sc_is_page : FnScope ["value"] ["value"] (defScope s_is_page) := ⟨rfl, rfl, rfl, by decide +kernel, rfl, by decide +kernel, by decide +kernel⟩
abbrev s_is_pair : Stmt := topS 16
theorem sc_is_pair : FnScope ["value"] ["value"] (defScope s_is_pair) := ⟨rfl, rfl, rfl, by decide +kernel, rfl, by decide +kernel, by decide +kernel⟩
abbrev s_leads_to_root : Stmt := topS 17
theorem sc_leads_to_root : FnScope ["exit_of", "page", "root", "step"] ["exit_of", "page", "root"] (defScope s_leads_to_root) := ⟨rfl, rfl, rfl, by decide +kernel, rfl, by decide +kernel, by decide +kernel⟩
abbrev s_are_exits : Stmt := topS 18
theorem sc_are_exits : FnScope ["value", "pages", "roots", "exit_of", "page", "later", "pair", "other"] ["value"] (defScope s_are_exits) := ⟨rfl, rfl, rfl, by decide +kernel, rfl, by decide +kernel, by decide +kernel⟩
abbrev s_check_effect : Stmt := topS 20
theorem sc_check_effect : FnScope ["value"] ["value"] (defScope s_check_effect) := ⟨rfl, rfl, rfl, by decide +kernel, rfl, by decide +kernel, by decide +kernel⟩
abbrev s_power : Stmt := topS 21
theorem sc_power : FnScope ["number", "times", "found", "step"] ["number", "times"] (defScope s_power) := ⟨rfl, rfl, rfl, by decide +kernel, rfl, by decide +kernel, by decide +kernel⟩
abbrev s_number_of_effects : Stmt := topS 23
theorem sc_number_of_effects : FnScope ["many"] ["many"] (defScope s_number_of_effects) := ⟨rfl, rfl, rfl, by decide +kernel, rfl, by decide +kernel, by decide +kernel⟩
abbrev s_count_effects : Stmt := topS 24
theorem sc_count_effects : FnScope ["many"] ["many"] (defScope s_count_effects) := ⟨rfl, rfl, rfl, by decide +kernel, rfl, by decide +kernel, by decide +kernel⟩
abbrev s_nth_effect : Stmt := topS 25
theorem sc_nth_effect : FnScope ["many", "index", "page", "first", "rest", "forest", "exits", "later", "ways", "other"] ["many", "index"] (defScope s_nth_effect) := ⟨rfl, rfl, rfl, by decide +kernel, rfl, by decide +kernel, by decide +kernel⟩
abbrev s_effect_rank : Stmt := topS 26
theorem sc_effect_rank : FnScope ["effect", "many", "found", "forest", "page", "later", "other"] ["effect"] (defScope s_effect_rank) := ⟨rfl, rfl, rfl, by decide +kernel, rfl, by decide +kernel, by decide +kernel⟩
abbrev s_law_bag : Stmt := topS 28
theorem sc_law_bag : FnScope ["_law_cell", "_law_turn", "_law_size"] ["_law_cell", "_law_turn"] (defScope s_law_bag) := ⟨rfl, rfl, rfl, by decide +kernel, rfl, by decide +kernel, by decide +kernel⟩
abbrev s_law_draw : Stmt := topS 29
theorem sc_law_draw : FnScope ["_law_bag_here", "_law_most", "_law_mixed", "_law_found"] ["_law_bag_here", "_law_most"] (defScope s_law_draw) := ⟨rfl, rfl, rfl, by decide +kernel, rfl, by decide +kernel, by decide +kernel⟩
abbrev s_law_cells : Stmt := topS 30
theorem sc_law_cells : FnScope ["_law_script"] ["_law_script"] (defScope s_law_cells) := ⟨rfl, rfl, rfl, by decide +kernel, rfl, by decide +kernel, by decide +kernel⟩
abbrev s_law_trees : Stmt := topS 31
theorem sc_law_trees : FnScope ["_law_size", "_law_rows", "_law_page_here", "_law_found", "_law_row", "_law_longer", "_law_ends", "_law_way", "_law_roots", "_law_spot", "_law_step", "_law_out", "_law_end"] ["_law_size"] (defScope s_law_trees) := ⟨rfl, rfl, rfl, by decide +kernel, rfl, by decide +kernel, by decide +kernel⟩
abbrev s_law_size_right : Stmt := topS 32
theorem sc_law_size_right : FnScope ["_law_size", "_law_rows", "_law_whole", "_law_at", "_law_made", "_law_due", "_law_same"] ["_law_size"] (defScope s_law_size_right) := ⟨rfl, rfl, rfl, by decide +kernel, rfl, by decide +kernel, by decide +kernel⟩
abbrev s_law_right : Stmt := topS 33
theorem sc_law_right : FnScope ["_law_script", "_law_bag_here", "_law_size", "_law_at"] ["_law_script", "_law_bag_here"] (defScope s_law_right) := ⟨rfl, rfl, rfl, by decide +kernel, rfl, by decide +kernel, by decide +kernel⟩
abbrev s_law : Stmt := topS 34
theorem sc_law : FnScope ["_law_script", "_law_k", "_law_cell"] ["_law_script"] (defScope s_law) := ⟨rfl, rfl, rfl, by decide +kernel, rfl, by decide +kernel, by decide +kernel⟩
abbrev s_Effect___init : Stmt := inClass (topS 19) 0
theorem sc_Effect___init : FnScope ["self", "first", "exits", "is_valid"] ["self", "first", "exits"] (defScope s_Effect___init) := ⟨rfl, rfl, rfl, by decide +kernel, rfl, by decide +kernel, by decide +kernel⟩
abbrev s_Effect_first : Stmt := inClass (topS 19) 1
theorem sc_Effect_first : FnScope ["self"] ["self"] (defScope s_Effect_first) := ⟨rfl, rfl, rfl, by decide +kernel, rfl, by decide +kernel, by decide +kernel⟩
abbrev s_Effect_exits : Stmt := inClass (topS 19) 2
theorem sc_Effect_exits : FnScope ["self"] ["self"] (defScope s_Effect_exits) := ⟨rfl, rfl, rfl, by decide +kernel, rfl, by decide +kernel, by decide +kernel⟩
abbrev s_Effect___len : Stmt := inClass (topS 19) 5
theorem sc_Effect___len : FnScope ["self"] ["self"] (defScope s_Effect___len) := ⟨rfl, rfl, rfl, by decide +kernel, rfl, by decide +kernel, by decide +kernel⟩
abbrev s_Effect___eq : Stmt := inClass (topS 19) 7
theorem sc_Effect___eq : FnScope ["self", "other"] ["self", "other"] (defScope s_Effect___eq) := ⟨rfl, rfl, rfl, by decide +kernel, rfl, by decide +kernel, by decide +kernel⟩
abbrev s_Forest___init : Stmt := inClass (topS 22) 0
theorem sc_Forest___init : FnScope ["self", "many"] ["self", "many"] (defScope s_Forest___init) := ⟨rfl, rfl, rfl, by decide +kernel, rfl, by decide +kernel, by decide +kernel⟩
abbrev s_Forest_allows : Stmt := inClass (topS 22) 1
theorem sc_Forest_allows : FnScope ["self", "page", "later"] ["self", "page", "later"] (defScope s_Forest_allows) := ⟨rfl, rfl, rfl, by decide +kernel, rfl, by decide +kernel, by decide +kernel⟩
abbrev s_Forest_choose : Stmt := inClass (topS 22) 2
theorem sc_Forest_choose : FnScope ["self", "page", "later", "old", "new", "mark"] ["self", "page", "later"] (defScope s_Forest_choose) := ⟨rfl, rfl, rfl, by decide +kernel, rfl, by decide +kernel, by decide +kernel⟩
abbrev s_Forest_ways : Stmt := inClass (topS 22) 3
theorem sc_Forest_ways : FnScope ["self", "parts"] ["self"] (defScope s_Forest_ways) := ⟨rfl, rfl, rfl, by decide +kernel, rfl, by decide +kernel, by decide +kernel⟩
abbrev s_Forest_ways_with : Stmt := inClass (topS 22) 4
theorem sc_Forest_ways_with : FnScope ["self", "page", "later", "copy"] ["self", "page", "later"] (defScope s_Forest_ways_with) := ⟨rfl, rfl, rfl, by decide +kernel, rfl, by decide +kernel, by decide +kernel⟩
structure Txt (K : PySem.W.Frag) (mg : Str → Option Value) where
  C_Effect : Addr
  cl_Effect : Cls K C_Effect
  g_Effect : mg "Effect" = some (.ref C_Effect)
  x_Effect : ClsO K C_Effect
  na_Effect_begin_page : NoAttr K C_Effect "begin_page"
  na_Effect_pairs : NoAttr K C_Effect "pairs"
  na_Effect_exit_of : NoAttr K C_Effect "exit_of"
  C_Forest : Addr
  cl_Forest : Cls K C_Forest
  g_Forest : mg "Forest" = some (.ref C_Forest)
  x_Forest : ClsO K C_Forest
  na_Forest_many : NoAttr K C_Forest "many"
  na_Forest_marks : NoAttr K C_Forest "marks"
  na_Forest_root_mark : NoAttr K C_Forest "root_mark"
  f_is_integer : Addr
  fd_is_integer : FuncData
  F_is_integer : Fun K "is_integer" "is_integer" s_is_integer f_is_integer fd_is_integer
  m_is_integer : mg "is_integer" = some (.ref f_is_integer)
  b_is_integer : Binds K fd_is_integer ["value", "least", "most"] []
  f_check_number : Addr
  fd_check_number : FuncData
  F_check_number : Fun K "check_number" "check_number" s_check_number f_check_number fd_check_number
  m_check_number : mg "check_number" = some (.ref f_check_number)
  b_check_number : Binds K fd_check_number ["value", "least", "most"] []
  f_is_page : Addr
  fd_is_page : FuncData
  F_is_page : Fun K "is_page" "is_page" s_is_page f_is_page fd_is_page
  m_is_page : mg "is_page" = some (.ref f_is_page)
  b_is_page : Binds K fd_is_page ["value"] []
  f_is_pair : Addr
  fd_is_pair : FuncData
  F_is_pair : Fun K "is_pair" "is_pair" s_is_pair f_is_pair fd_is_pair
  m_is_pair : mg "is_pair" = some (.ref f_is_pair)
  b_is_pair : Binds K fd_is_pair ["value"] []
  f_leads_to_root : Addr
  fd_leads_to_root : FuncData
  F_leads_to_root : Fun K "leads_to_root" "leads_to_root" s_leads_to_root f_leads_to_root fd_leads_to_root
  m_leads_to_root : mg "leads_to_root" = some (.ref f_leads_to_root)
  b_leads_to_root : Binds K fd_leads_to_root ["exit_of", "page", "root"] []
  f_are_exits : Addr
  fd_are_exits : FuncData
  F_are_exits : Fun K "are_exits" "are_exits" s_are_exits f_are_exits fd_are_exits
  m_are_exits : mg "are_exits" = some (.ref f_are_exits)
  b_are_exits : Binds K fd_are_exits ["value"] []
  f_check_effect : Addr
  fd_check_effect : FuncData
  F_check_effect : Fun K "check_effect" "check_effect" s_check_effect f_check_effect fd_check_effect
  m_check_effect : mg "check_effect" = some (.ref f_check_effect)
  b_check_effect : Binds K fd_check_effect ["value"] []
  f_power : Addr
  fd_power : FuncData
  F_power : Fun K "power" "power" s_power f_power fd_power
  m_power : mg "power" = some (.ref f_power)
  b_power : Binds K fd_power ["number", "times"] []
  f_number_of_effects : Addr
  fd_number_of_effects : FuncData
  F_number_of_effects : Fun K "number_of_effects" "number_of_effects" s_number_of_effects f_number_of_effects fd_number_of_effects
  m_number_of_effects : mg "number_of_effects" = some (.ref f_number_of_effects)
  b_number_of_effects : Binds K fd_number_of_effects ["many"] []
  f_count_effects : Addr
  fd_count_effects : FuncData
  F_count_effects : Fun K "count_effects" "count_effects" s_count_effects f_count_effects fd_count_effects
  m_count_effects : mg "count_effects" = some (.ref f_count_effects)
  b_count_effects : Binds K fd_count_effects ["many"] []
  f_nth_effect : Addr
  fd_nth_effect : FuncData
  F_nth_effect : Fun K "nth_effect" "nth_effect" s_nth_effect f_nth_effect fd_nth_effect
  m_nth_effect : mg "nth_effect" = some (.ref f_nth_effect)
  b_nth_effect : Binds K fd_nth_effect ["many", "index"] []
  f_effect_rank : Addr
  fd_effect_rank : FuncData
  F_effect_rank : Fun K "effect_rank" "effect_rank" s_effect_rank f_effect_rank fd_effect_rank
  m_effect_rank : mg "effect_rank" = some (.ref f_effect_rank)
  b_effect_rank : Binds K fd_effect_rank ["effect"] []
  f_law_bag : Addr
  fd_law_bag : FuncData
  F_law_bag : Fun K "_law_bag" "_law_bag" s_law_bag f_law_bag fd_law_bag
  m_law_bag : mg "_law_bag" = some (.ref f_law_bag)
  b_law_bag : Binds K fd_law_bag ["_law_cell", "_law_turn"] []
  f_law_draw : Addr
  fd_law_draw : FuncData
  F_law_draw : Fun K "_law_draw" "_law_draw" s_law_draw f_law_draw fd_law_draw
  m_law_draw : mg "_law_draw" = some (.ref f_law_draw)
  b_law_draw : Binds K fd_law_draw ["_law_bag_here", "_law_most"] []
  f_law_cells : Addr
  fd_law_cells : FuncData
  F_law_cells : Fun K "_law_cells" "_law_cells" s_law_cells f_law_cells fd_law_cells
  m_law_cells : mg "_law_cells" = some (.ref f_law_cells)
  b_law_cells : Binds K fd_law_cells ["_law_script"] []
  f_law_trees : Addr
  fd_law_trees : FuncData
  F_law_trees : Fun K "_law_trees" "_law_trees" s_law_trees f_law_trees fd_law_trees
  m_law_trees : mg "_law_trees" = some (.ref f_law_trees)
  b_law_trees : Binds K fd_law_trees ["_law_size"] []
  f_law_size_right : Addr
  fd_law_size_right : FuncData
  F_law_size_right : Fun K "_law_size_right" "_law_size_right" s_law_size_right f_law_size_right fd_law_size_right
  m_law_size_right : mg "_law_size_right" = some (.ref f_law_size_right)
  b_law_size_right : Binds K fd_law_size_right ["_law_size"] []
  f_law_right : Addr
  fd_law_right : FuncData
  F_law_right : Fun K "_law_right" "_law_right" s_law_right f_law_right fd_law_right
  m_law_right : mg "_law_right" = some (.ref f_law_right)
  b_law_right : Binds K fd_law_right ["_law_script", "_law_bag_here"] []
  f_law : Addr
  fd_law : FuncData
  F_law : Fun K "law" "law" s_law f_law fd_law
  m_law : mg "law" = some (.ref f_law)
  b_law : Binds K fd_law ["_law_script"] []
  f_Effect___init : Addr
  fd_Effect___init : FuncData
  F_Effect___init : Fun K "__init__" "Effect.__init__" s_Effect___init f_Effect___init fd_Effect___init
  b_Effect___init : Binds K fd_Effect___init ["self", "first", "exits"] []
  M_Effect : Mk K C_Effect f_Effect___init
  f_Effect_first : Addr
  fd_Effect_first : FuncData
  F_Effect_first : Fun K "first" "Effect.first" s_Effect_first f_Effect_first fd_Effect_first
  b_Effect_first : Binds K fd_Effect_first ["self"] []
  q_Effect_first : Addr
  p_Effect_first : PropOf K C_Effect "first" q_Effect_first f_Effect_first
  f_Effect_exits : Addr
  fd_Effect_exits : FuncData
  F_Effect_exits : Fun K "exits" "Effect.exits" s_Effect_exits f_Effect_exits fd_Effect_exits
  b_Effect_exits : Binds K fd_Effect_exits ["self"] []
  q_Effect_exits : Addr
  p_Effect_exits : PropOf K C_Effect "exits" q_Effect_exits f_Effect_exits
  f_Effect___len : Addr
  fd_Effect___len : FuncData
  F_Effect___len : Fun K "__len__" "Effect.__len__" s_Effect___len f_Effect___len fd_Effect___len
  b_Effect___len : Binds K fd_Effect___len ["self"] []
  h_Effect___len : PySem.W.findIn K (.ref C_Effect) "__len__" = some (some (.ref f_Effect___len))
  i_Effect___len : PySem.W.isFn K (.ref f_Effect___len) = true
  f_Effect___eq : Addr
  fd_Effect___eq : FuncData
  F_Effect___eq : Fun K "__eq__" "Effect.__eq__" s_Effect___eq f_Effect___eq fd_Effect___eq
  b_Effect___eq : Binds K fd_Effect___eq ["self", "other"] []
  h_Effect___eq : PySem.W.findIn K (.ref C_Effect) "__eq__" = some (some (.ref f_Effect___eq))
  i_Effect___eq : PySem.W.isFn K (.ref f_Effect___eq) = true
  f_Forest___init : Addr
  fd_Forest___init : FuncData
  F_Forest___init : Fun K "__init__" "Forest.__init__" s_Forest___init f_Forest___init fd_Forest___init
  b_Forest___init : Binds K fd_Forest___init ["self", "many"] []
  M_Forest : Mk K C_Forest f_Forest___init
  f_Forest_allows : Addr
  fd_Forest_allows : FuncData
  F_Forest_allows : Fun K "allows" "Forest.allows" s_Forest_allows f_Forest_allows fd_Forest_allows
  b_Forest_allows : Binds K fd_Forest_allows ["self", "page", "later"] []
  m_Forest_allows : Meth K C_Forest "allows" f_Forest_allows
  f_Forest_choose : Addr
  fd_Forest_choose : FuncData
  F_Forest_choose : Fun K "choose" "Forest.choose" s_Forest_choose f_Forest_choose fd_Forest_choose
  b_Forest_choose : Binds K fd_Forest_choose ["self", "page", "later"] []
  m_Forest_choose : Meth K C_Forest "choose" f_Forest_choose
  f_Forest_ways : Addr
  fd_Forest_ways : FuncData
  F_Forest_ways : Fun K "ways" "Forest.ways" s_Forest_ways f_Forest_ways fd_Forest_ways
  b_Forest_ways : Binds K fd_Forest_ways ["self"] []
  m_Forest_ways : Meth K C_Forest "ways" f_Forest_ways
  f_Forest_ways_with : Addr
  fd_Forest_ways_with : FuncData
  F_Forest_ways_with : Fun K "ways_with" "Forest.ways_with" s_Forest_ways_with f_Forest_ways_with fd_Forest_ways_with
  b_Forest_ways_with : Binds K fd_Forest_ways_with ["self", "page", "later"] []
  m_Forest_ways_with : Meth K C_Forest "ways_with" f_Forest_ways_with
  k_count_effects_0_0 : KBinds K fd_count_effects ["many"] ["many"] (kg .none 0 1 [0]) (kg .non 0 1 [0])
  k_effect_rank_0_0 : KBinds K fd_effect_rank ["effect"] ["effect"] (kg .none 0 1 [0]) (kg .non 0 1 [0])
  k_nth_effect_0_1_0 : KBinds K fd_nth_effect ["many", "index"] ["index", "many"] (kg .none 0 2 [1, 0]) (kg .non 0 2 [1, 0])
  t_MOST_PAGE : Tok
  c_MOST_PAGE : mg "MOST_PAGE" = some (.int 39 t_MOST_PAGE)
  t_MOST_PAGES : Tok
  c_MOST_PAGES : mg "MOST_PAGES" = some (.int 40 t_MOST_PAGES)
  n_all : mg "all" = none
  n_any : mg "any" = none
  n_bool : mg "bool" = none
  n_dict : mg "dict" = none
  n_divmod : mg "divmod" = none
  n_enumerate : mg "enumerate" = none
  n_int : mg "int" = none
  n_isinstance : mg "isinstance" = none
  n_len : mg "len" = none
  n_list : mg "list" = none
  n_max : mg "max" = none
  n_range : mg "range" = none
  n_repr : mg "repr" = none
  n_set : mg "set" = none
  n_tuple : mg "tuple" = none
  n_zip : mg "zip" = none
local macro_rules | `(tactic| walk_at "sx") => `(tactic| try simp only [x_seq, x_next, x_brk, x_cnt, x_nev, x_ret, x_retN, x_drop, x_ifS, x_asg, x_gn, x_gsub, x_par, x_par3, x_aug, x_for, x_lc, x_rng1, x_rng2, x_rng3, x_ilist, x_itup, x_ienum, x_izip, x_izipA, x_istr, x_var, x_c, x_op, x_un, x_test, x_b, x_chain, x_and, x_or, x_not, x_andV, x_orV, x_notV, x_ife, x_nil, x_cons, x_lst, x_tup, x_cb, x_call, x_callK, x_bm, x_bm0, x_tru, x_sl, x_nopart, x_part, x_revL, x_I0, x_I, x_U, x_ip, x_ipC, x_eqI, x_neI, x_eqB, x_neB, x_eqS, x_neS, x_isB, x_isNB, x_lrg, x_gall, x_lenSet, x_lenSetC, x_augS, x_sortSet, x_rg1, x_rg2, x_dnewK, x_dnewT, x_dget, x_dget1, x_dget2, x_din, x_dnotin, x_dput, x_ikeys, x_ghead, x_fld, x_sfld, x_prop, x_meth, x_make, x_dc,
  L2.start, List.map_cons, List.map_nil, List.length_cons, List.length_nil, Nat.reduceAdd, Nat.reduceSub, Nat.sub_self, Nat.zero_add, List.replicate, List.replicate_succ, List.replicate_zero, List.append_nil, List.cons_append, List.nil_append, List.set_cons_zero, List.set_cons_succ, List.getElem?_cons_zero, List.getElem?_cons_succ, Option.some.injEq, V.int.injEq, V.bl.injEq, V.ref.injEq, V.str.injEq, List.cons.injEq, and_true, true_and, exists_eq_left', exists_eq_left, exists_and_left, exists_eq, if_true, if_false, ite_true, ite_false, Bool.true_eq_false, Bool.false_eq_true, reduceIte, reduceCtorEq, Bool.not_true, Bool.not_false, decide_true, decide_false, decide_eq_true_eq, Bool.and_true, Bool.true_and, Bool.and_self, Bool.and_false, Bool.false_and, Bool.or_self, Bool.or_false, Bool.false_or, Bool.or_true, Bool.true_or, eq_self])
section
variable {P : Program} {w : World} {K : PySem.W.Frag} {mg : Str → Option Value} {base : Heap}
/-- a value with its type: a number, or what is none -/
inductive Kd (K : PySem.W.Frag) (H : Hp) : V → Prop
  | int (i : Int) : Kd K H (.int i)
  | bl (b : Bool) : Kd K H (.bl b)
  | odd {v : V} {t : Value} (h : TyX K H v t) (n : PySem.W.kitOne K t (.type "int") = some false) : Kd K H v
def inR (lo hi : Int) : V → Bool
  | .int i => decide (lo ≤ i) && decide (i ≤ hi)
  | _ => false
def spIsInt (K : PySem.W.Frag) : Sp := fun vs H Q _ => ∃ (v : V) (lo hi : Int), vs = [v, .int lo, .int hi] ∧ Kd K H v ∧ Q (.bl (inR lo hi v)) H
theorem ok_is_integer (T : Txt K mg) : FnOk P w K mg base CX0 1 T.f_is_integer T.fd_is_integer ["value", "least", "most"] (spIsInt K) := by
  refine T.F_is_integer.ok sc_is_integer (fun vs H Q E h => ?_) (fun cdv A outer s H vs Q E hr h => ?_)
  · obtain ⟨v, lo, hi, rfl, _⟩ := h
    rfl
  · obtain ⟨v, lo, hi, rfl, kd, k⟩ := h
    apply Exists.intro
    apply And.intro
    · apply pss_one
      exact (ps_ret (pe_and (pe_callB (k_isi (K := K) rfl) (by rfl) T.n_isinstance (by decide +kernel) (pa_cons (pv 0) (pa_cons (pe_bltn (v := .ty "int") (by rfl) T.n_int (by decide +kernel) rfl) pa_nil))) (pe_and (pe_not (pe_callB (k_isi (K := K) rfl) (by rfl) T.n_isinstance (by decide +kernel) (pa_cons (pv 0) (pa_cons (pe_bltn (v := .ty "bool") (by rfl) T.n_bool (by decide +kernel) rfl) pa_nil)))) (pe_one (pe_chain op_le op_le (pv 1) (pv 0) (pv 2))))))
    walk_at "sx"
    cases kd with
    | int i =>
      refine isi_int (b := true) (by decide +kernel) ?_
      walk_at "sx"
      refine isi_int (b := false) (by decide +kernel) ?_
      have k' : Q (.bl (decide (lo ≤ i) && decide (i ≤ hi))) H := k
      walk_at "sx"
      by_cases h1 : lo ≤ i
      · simpa [h1] using k'
      · simpa [h1] using k'
    | bl b =>
      refine ⟨.bl b, .ty "int", .type "bool", .type "int", true, rfl, .ty "int", .base (.bl b), kit_ty (by decide +kernel), ?_⟩
      walk_at "sx"
      refine ⟨.bl b, .ty "bool", .type "bool", .type "bool", true, rfl, .ty "bool", .base (.bl b), kit_ty (by decide +kernel), ?_⟩
      walk_at "sx"
      exact k
    | odd ty n =>
      refine ⟨v, .ty "int", _, .type "int", false, rfl, .ty "int", ty, n, ?_⟩
      have e : inR lo hi v = false := by
        cases v with
        | int i =>
          cases ty with
          | base h => cases h; exact absurd n (by rw [kit_ty (r := true) (by decide +kernel)]; simp)
        | _ => rfl
      rw [e] at k
      walk_at "sx"
      exact k
def spIsPage (K : PySem.W.Frag) : Sp := fun vs H Q _ => ∃ v, vs = [v] ∧ Kd K H v ∧ Q (.bl (inR 0 39 v)) H
theorem ok_is_page (T : Txt K mg) : FnOk P w K mg base CX0 2 T.f_is_page T.fd_is_page ["value"] (spIsPage K) := by
  refine T.F_is_page.ok sc_is_page (fun vs H Q E h => ?_) (fun cdv A outer s H vs Q E hr h => ?_)
  · obtain ⟨i, rfl, _⟩ := h
    rfl
  · obtain ⟨i, rfl, kd, k⟩ := h
    apply Exists.intro
    apply And.intro
    · apply pss_one
      exact (ps_ret (pe_call (ok_is_integer T) (hr.mono (by decide)) (by rfl) T.m_is_integer T.F_is_integer.kp T.b_is_integer .nil pass0 (pa_cons (pv 0) (pa_cons pe_int (pa_cons (pe_glob (v := .int 39) rfl T.c_MOST_PAGE ⟨_, rfl⟩) pa_nil)))))
    walk_at "sx"
    exact ⟨i, 0, 39, rfl, kd, k⟩
theorem Kd.of {K : PySem.W.Frag} {H : Hp} {v : V} {t : Value} (h : TyX K H v t) (n : PySem.W.kitOne K t (.type "int") = some false) : Kd K H v := .odd h n
theorem kd_non {K : PySem.W.Frag} {H : Hp} : Kd K H .non := .odd (.base .non) (kit_ty (by decide +kernel))
theorem kd_str {K : PySem.W.Frag} {H : Hp} (x : Str) : Kd K H (.str x) := .odd (.base (.str x)) (kit_ty (by decide +kernel))
theorem kd_lst {K : PySem.W.Frag} {H : Hp} {a : Addr} {xs : List V} (e : H a = some (.lst xs)) : Kd K H (.ref a) := .odd (.base (.lst e)) (kit_ty (by decide +kernel))
theorem kd_tup {K : PySem.W.Frag} {H : Hp} {a : Addr} {xs : List V} (e : H a = some (.tup xs)) : Kd K H (.ref a) := .odd (.base (.tup e)) (kit_ty (by decide +kernel))
theorem kd_dic {K : PySem.W.Frag} {H : Hp} {a : Addr} {xs : List (Key × V)} (e : H a = some (.dK xs)) : Kd K H (.ref a) := .odd (.base (.dK e)) (kit_ty (by decide +kernel))
end
section
variable {P : Program} {w : World} {K : PySem.W.Frag} {mg : Str → Option Value} {base : Heap}
def spChk : Sp := fun vs H Q _ => ∃ i lo hi : Int, vs = [.int i, .int lo, .int hi] ∧ lo ≤ i ∧ i ≤ hi ∧ Q .non H
theorem ok_check_number (T : Txt K mg) : FnOk P w K mg base CX0 2 T.f_check_number T.fd_check_number ["value", "least", "most"] spChk := by
  refine T.F_check_number.ok sc_check_number (fun vs H Q E h => ?_) (fun cdv A outer s H vs Q E hr h => ?_)
  · obtain ⟨i, lo, hi, rfl, _⟩ := h
    rfl
  · obtain ⟨i, lo, hi, rfl, h1, h2, k⟩ := h
    apply Exists.intro
    apply And.intro
    · apply pss_one
      apply ps_if
      · exact (pt_not (pt_val (pe_call (ok_is_integer T) (hr.mono (by decide)) (by rfl) T.m_is_integer T.F_is_integer.kp T.b_is_integer .nil pass0 (pa_cons (pv 0) (pa_cons (pv 1) (pa_cons (pv 2) pa_nil))))))
      · apply pss_one
        exact ps_never
      · exact pss_nil
    walk_at "sx"
    refine ⟨.int i, lo, hi, rfl, .int i, ?_⟩
    simp only [inR, h1, h2]
    walk_at "sx"
    exact k
end
/-! ### trails.py and lengths.py -/
section
variable {P : Program} {w : World} {K : PySem.W.Frag} {mg : Str → Option Value} {base : Heap}
theorem ints_at {ns : List Int} {i : Nat} {v : V} (h : (ns.map V.int)[i]? = some v) : ∃ n, ns[i]? = some n ∧ v = .int n := by
  rw [List.getElem?_map] at h
  cases e : ns[i]? with
  | none => rw [e] at h; cases h
  | some n => rw [e] at h; cases h; exact ⟨n, rfl, rfl⟩
theorem at_ints {ns : List Int} {i : Nat} {n : Int} (h : ns[i]? = some n) : (ns.map V.int)[i]? = some (.int n) := by rw [List.getElem?_map, h]; rfl
def spIsVisits (K : PySem.W.Frag) : Sp := fun vs H Q _ => ∃ (a : Addr) (ns : List Int), vs = [.ref a] ∧ SqL K H a (ns.map V.int) ∧ ns.length ≤ 300 ∧ Pg 40 ns ∧ ∀ H', Ex H H' → Q (.bl true) H'
def spCheckVisits (K : PySem.W.Frag) : Sp := fun vs H Q _ => ∃ (a : Addr) (ns : List Int), vs = [.ref a] ∧ SqL K H a (ns.map V.int) ∧ ns.length ≤ 300 ∧ Pg 40 ns ∧ ∀ H', Ex H H' → Q .non H'
end
/-! ### exits.py -/
theorem kept_pairs {P : Int × Int → Bool} {g : Int × Int → Int} : ∀ (qs : List (Int × Int)), kept qs.length (fun i => P (qs.getD i (0, 0))) (fun i => V.int (g (qs.getD i (0, 0)))) = ((qs.filter P).map g).map V.int := fun qs => by
  have h : ∀ n, n ≤ qs.length → kept n (fun i => P (qs.getD i (0, 0))) (fun i => V.int (g (qs.getD i (0, 0)))) = (((qs.take n).filter P).map g).map V.int := fun n => by
    induction n with
    | zero => intro _; rfl
    | succ n ih =>
      intro hn
      have hq : qs[n]? = some (qs.getD n (0, 0)) := by rw [List.getD_eq_getElem?_getD, List.getElem?_eq_getElem (by omega)]; rfl
      rw [List.take_add_one, hq]
      cases c : P (qs.getD n (0, 0)) with
      | true =>
        rw [kept_yes (k := fun i => P (qs.getD i (0, 0))) c, ih (by omega), Option.toList_some, List.filter_append, List.filter_cons_of_pos c, List.filter_nil, List.map_append, List.map_append]
        rfl
      | false =>
        rw [kept_no (k := fun i => P (qs.getD i (0, 0))) c, ih (by omega), Option.toList_some, List.filter_append, List.filter_cons_of_neg (by rw [c]; exact Bool.false_ne_true), List.filter_nil, List.append_nil]
  rw [h _ (Nat.le_refl _), List.take_of_length_le (Nat.le_refl _)]
section
variable {P : Program} {w : World} {K : PySem.W.Frag} {mg : Str → Option Value} {base : Heap}
def firstV : List Int → V
  | [] => .non
  | a :: _ => .int a
/-- an effect stands at x -/
def EffAt (C : Addr) (H : Hp) (x : Addr) (v : V) (qs : List (Int × Int)) : Prop := ∃ dx t d ts, H x = some (.ins C dx [("begin_page", v), ("pairs", .ref t), ("exit_of", .ref d)]) ∧ H t = some (.tup ((ts : List Addr).map V.ref)) ∧ ts.length = qs.length ∧ (∀ i u, ts[i]? = some u → PairAt H u (qs.getD i (0, 0))) ∧ H d = some (.dK (qs.map itK))
theorem EffAt.ex {C : Addr} {H H' : Hp} {x : Addr} {v : V} {qs : List (Int × Int)} (h : EffAt C H x v qs) (e : Ex H H') : EffAt C H' x v qs := by
  obtain ⟨dx, t, d, ts, h1, h2, h3, h4, h5⟩ := h
  exact ⟨dx, t, d, ts, e _ _ h1, e _ _ h2, h3, fun i u hi => e _ _ (h4 i u hi), e _ _ h5⟩
def spExitsIn (K : PySem.W.Frag) : Sp := fun vs H Q _ => ∃ (a : Addr) (row : List Int), vs = [.ref a] ∧ SqL K H a (row.map V.int) ∧ row.length ≤ 6000 ∧ ∀ d H', H d = none → Ex H H' → H' d = some (.dK ((foldP [] row).map itK)) → Q (.ref d) H'
def JXi (H1 : Hp) (a d : Addr) (row : List Int) (i : Nat) (σ' : L2.St) (H' : Hp) : Prop := ∃ l2 l3 qs, σ' = [some (.ref a), some (.ref d), l2, l3] ∧ Fx d H1 H' ∧ H' d = some (.dK ((qs : List (Int × Int)).map itK)) ∧ foldP qs (row.drop i) = foldP [] row ∧ qs.length ≤ i
/-- pairs of pages -/
def PgP (qs : List (Int × Int)) : Prop := ∀ q ∈ qs, (0 ≤ q.1 ∧ q.1 < 40) ∧ 0 ≤ q.2 ∧ q.2 < 40
def spIsPair (K : PySem.W.Frag) : Sp := fun vs H Q _ => ∃ (t : Addr) (q : Int × Int), vs = [.ref t] ∧ PairAt H t q ∧ (0 ≤ q.1 ∧ q.1 < 40) ∧ (0 ≤ q.2 ∧ q.2 < 40) ∧ ∀ H', Ex H H' → Q (.bl true) H'
theorem ok_is_pair (T : Txt K mg) : FnOk P w K mg base CX0 3 T.f_is_pair T.fd_is_pair ["value"] (spIsPair K) := by
  refine T.F_is_pair.ok sc_is_pair (fun vs H Q E h => ?_) (fun cdv A outer s H vs Q E hr h => ?_)
  · obtain ⟨t, q, rfl, _⟩ := h
    rfl
  · obtain ⟨t, q, rfl, hT, h1, h2, k⟩ := h
    apply Exists.intro
    apply And.intro
    · apply pss_one
      exact (ps_ret (pe_and (pe_callB (k_isi (K := K) rfl) (by rfl) T.n_isinstance (by decide +kernel) (pa_cons (pv 0) (pa_cons (pe_bltn (v := .ty "tuple") (by rfl) T.n_tuple (by decide +kernel) rfl) pa_nil))) (pe_and (pe_cmpR op_eq (pe_callB (k_len (K := K) rfl) (by rfl) T.n_len PySem.boot_len (pa_cons (pv 0) pa_nil)) pe_int (by rfl)) (pe_and (pe_call (ok_is_page T) (hr.mono (by decide)) (by rfl) T.m_is_page T.F_is_page.kp T.b_is_page .nil pass0 (pa_cons (pe_ix (k_ix_tup (K := K) rfl) (pv 0) pe_int (fun _ _ => rfl)) pa_nil)) (pe_one (pe_call (ok_is_page T) (hr.mono (by decide)) (by rfl) T.m_is_page T.F_is_page.kp T.b_is_page .nil pass0 (pa_cons (pe_ix (k_ix_tup (K := K) rfl) (pv 0) pe_int (fun _ _ => rfl)) pa_nil)))))))
    have hT' : H t = some (.tup [.int q.1, .int q.2]) := hT
    walk_at "sx"
    refine isi_x (b := true) (tyx_t (.inl (.inl hT'))) (by decide +kernel) ?_
    walk_at "sx"
    refine lenT (.inl (.inl hT')) ?_
    walk_at "sx"
    refine ⟨t, _, _, _, rfl, rfl, .inl (.inl hT'), atI_n (j := 0) rfl rfl, ?_⟩
    refine ⟨.int q.1, rfl, .int q.1, ?_⟩
    simp only [inR]
    have z1 : (0 : Int) ≤ q.1 := h1.1
    have z2 : q.1 ≤ 39 := by omega
    rw [decide_eq_true z1, decide_eq_true z2]
    walk_at "sx"
    refine ⟨t, _, _, _, rfl, rfl, .inl (.inl hT'), atI_n (j := 1) rfl rfl, ?_⟩
    refine ⟨.int q.2, rfl, .int q.2, ?_⟩
    simp only [inR]
    have z3 : (0 : Int) ≤ q.2 := h2.1
    have z4 : q.2 ≤ 39 := by omega
    rw [decide_eq_true z3, decide_eq_true z4]
    exact k _ (Ex.refl _)
def spLead : Sp := fun vs H Q _ => ∃ (d : Addr) (p r : Int) (qs : List (Int × Int)) (f : Int → Int) (S : Int → Prop), vs = [.ref d, .int p, .int r] ∧ H d = some (.dK (qs.map itK)) ∧ qs.length ≤ 1000 ∧ S p ∧ (∀ x, S x → getI qs x = some (f x) ∧ S (f x)) ∧ ∀ H', Ex H H' → Q (.bl (lead f r qs.length p)) H'
def JLd (H : Hp) (d : Addr) (p r : Int) (n : Nat) (f : Int → Int) (S : Int → Prop) (i : Nat) (σ' : L2.St) (H' : Hp) : Prop := ∃ p' l3, σ' = [some (.ref d), some (.int p'), some (.int r), l3] ∧ H' = H ∧ S p' ∧ lead f r n p = lead f r (n - i) p'
theorem ok_leads_to_root (T : Txt K mg) : FnOk P w K mg base CX0 3 T.f_leads_to_root T.fd_leads_to_root ["exit_of", "page", "root"] spLead := by
  refine T.F_leads_to_root.ok sc_leads_to_root (fun vs H Q E h => ?_) (fun cdv A outer s H vs Q E hr h => ?_)
  · obtain ⟨d, p, r, qs, f, S, rfl, _⟩ := h
    rfl
  · obtain ⟨d, p, r, qs, f, S, rfl, hd, hl, hp, hS, k⟩ := h
    apply Exists.intro
    apply And.intro
    · apply pss_cons
      · apply ps_for PassesOwn.never rfl
        · exact (pi_range1 (by rfl) T.n_range (pa_cons (pe_callB call_lenD (by rfl) T.n_len PySem.boot_len (pa_cons (pv 0) pa_nil)) pa_nil))
        · exact (pg_name (i := 3) sc_leads_to_root.nd rfl (.inl rfl))
        · apply pss_cons
          · apply ps_if
            · exact (pt_cmpR op_eq (pv 1) (pv 2) (by rfl))
            · apply pss_one
              exact (ps_ret pe_bl)
            · exact pss_nil
          apply pss_one
          exact (ps_set (i := 1) sc_leads_to_root.nd rfl (.inl rfl) (pe_dget (hu_of hr) (pv 0) (pv 1) (fun _ _ => rfl)))
      apply pss_one
      exact (ps_ret pe_bl)
    walk_at "sx"
    refine ⟨_, hd, ?_⟩
    rw [List.length_map]
    refine ⟨by omega, by omega, ?_⟩
    rw [Int.toNat_natCast]
    refine lg_rng (JLd H d p r qs.length f S) ⟨p, none, rfl, rfl, hp, rfl⟩ (fun i σ' H' hi hP => ?_) (fun σ' H' hP => ?_)
    · obtain ⟨p', l3, rfl, rfl, hp', hf⟩ := hP
      walk_at "sx"
      obtain ⟨m, hm⟩ : ∃ m, qs.length - i = m + 1 := ⟨qs.length - i - 1, by omega⟩
      rw [hm] at hf
      have hf2 : lead f r qs.length p = (if p' = r then true else lead f r m (f p')) := hf
      by_cases c : p' = r
      · rw [if_pos c] at hf2 ⊢
        have := k _ (Ex.refl _)
        rw [hf2] at this
        exact this
      · rw [if_neg c] at hf2 ⊢
        obtain ⟨g, s⟩ := hS p' hp'
        refine ⟨_, .inl ⟨_, Sum.inl p', .inl hd, rfl, by rw [getI_val, g]; rfl⟩, ?_⟩
        refine ⟨_, _, rfl, rfl, s, ?_⟩
        rw [hf2, show qs.length - (i + 1) = m by omega]
    · obtain ⟨p', l3, rfl, rfl, hp', hf⟩ := hP
      walk_at "sx"
      have := k _ (Ex.refl _)
      rw [hf, Nat.sub_self] at this
      exact this
end
theorem ints_pgp {row : List Int} (hp : Pg 40 row) : PgP (exs row) := fun q hq => by
  obtain ⟨x, y⟩ := q
  obtain ⟨h1, h2⟩ := mem_nx ((mem_exs hp).mp hq)
  exact ⟨hp x h1, hp y h2⟩
def dPair (q : Int × Int) : PyData := .tuple [.int q.1, .int q.2]
def dPairs (qs : List (Int × Int)) : PyData := .list (qs.map dPair)
section
variable {P : Program} {w : World} {K : PySem.W.Frag} {mg : Str → Option Value} {base : Heap}
theorem dp_pairs {H : Hp} : ∀ {ts : List Addr} {qs : List (Int × Int)}, ts.length = qs.length → (∀ (i : Nat) t, ts[i]? = some t → PairAt H t (qs.getD i (0, 0))) → DpAll K H (ts.map V.ref) (qs.map dPair)
  | [], [], _, _ => .nil
  | [], _ :: _, h, _ => by simp at h
  | _ :: _, [], h, _ => by simp at h
  | t :: ts, q :: qs, h, hp => .cons (.tup (.inl (.inl (hp 0 t rfl))) (.cons (.int _) (.cons (.int _) .nil))) (dp_pairs (by simpa using h) fun i u hi => by
    have := hp (i + 1) u (by simpa using hi)
    simpa using this)
theorem pairs_dp {H : Hp} {a : Addr} {ts : List Addr} {qs : List (Int × Int)} (h : PairsAt K H a ts qs) : Dp K H (.ref a) (dPairs qs) := .lst h.1 (dp_pairs h.2.1 h.2.2)
theorem shp_pairs (qs : List (Int × Int)) : SeqAt.shaped (dPairs qs) = true := by
  have h1 : ∀ qs : List (Int × Int), PyData.canLayAll0 (qs.map dPair) = true := fun qs => by
    induction qs with
    | nil => simp [PyData.canLayAll0]
    | cons n ns ih => simp [PyData.canLayAll0, PyData.canLay0, dPair, ih]
  have h2 := dep_all (ds := qs.map dPair) (n := 1) fun d m => by
      obtain ⟨n, hn, rfl⟩ := List.mem_map.mp m
      simp [PyData.depth, PyData.depthAll, dPair]
  show (PyData.canLay0 _ && decide (PyData.depth _ ≤ 64)) = true
  rw [Bool.and_eq_true]
  refine ⟨?_, decide_eq_true ?_⟩
  · unfold dPairs; simp only [PyData.canLay0]; exact h1 qs
  · unfold dPairs; simp only [PyData.depth]; omega
theorem eqPairsNil {H : Hp} {Q : VK} {a b : Addr} {ts : List Addr} {qs : List (Int × Int)} (h : PairsAt K H a ts qs) (hb : H b = some (.lst [])) (q : Q (.bl (decide (qs = []))) H) : rEqD K (.ref a) (.ref b) H Q := by
  refine ⟨_, .list [], pairs_dp h, .lst (.inl (.inl hb)) .nil, shp_pairs qs, rfl, ?_⟩
  have e : PyData.eqv (dPairs qs) (.list []) = decide (qs = []) := by
    cases qs with
    | nil => rfl
    | cons q qs => simp [dPairs, PyData.eqv, PyData.eqvAll]
  rw [e]
  exact q
theorem pr_ev {H : Hp} {t : Addr} {q : Int × Int} (h : PairAt H t q) : H t = some (.tup [V.int q.1, V.int q.2]) := h
def spAreExits (K : PySem.W.Frag) : Sp := fun vs H Q _ => ∃ (a : Addr) (ts : List Addr) (row : List Int), vs = [.ref a] ∧ PairsAt K H a ts (exs row) ∧ Pg 40 row ∧ row ≠ [] ∧ ∀ H', Ex H H' → Q (.bl true) H'
theorem ok_are_exits (T : Txt K mg) : FnOk P w K mg base CX0 4 T.f_are_exits T.fd_are_exits ["value"] (spAreExits K) := by
  refine T.F_are_exits.ok sc_are_exits (fun vs H Q E h => ?_) (fun cdv A outer s H vs Q E hr h => ?_)
  · obtain ⟨a, ts, row, rfl, _⟩ := h
    rfl
  · obtain ⟨a, ts, row, rfl, hA, hp, hne, k⟩ := h
    apply Exists.intro
    apply And.intro
    · apply pss_cons
      · apply ps_if
        · exact (PW.pt (pw_or (pt_not (pt_val (pe_callB (k_isi (K := K) rfl) (by rfl) T.n_isinstance (by decide +kernel) (pa_cons (pv 0) (pa_cons (pe_bltn (v := .ty "list") (by rfl) T.n_list (by decide +kernel) rfl) pa_nil))))) (pw_or (pt_cmpR (k_eqD (K := K) rfl hr.units) (pv 0) (pe_lst pa_nil) (by rfl)) (pw_or1 (pt_not (pt_val (pe_callB (k_all (K := K) rfl rfl) (by rfl) T.n_all (by decide +kernel) (pa_cons (pe_lc (own := [("pair", 6)]) rfl sc_are_exits.nd (k_pi_list (K := K) rfl (pv 0)) (blkOk_by (own := [("pair", 6)]) (N := ["value", "pages", "roots", "exit_of", "page", "later", "pair", "other"]) (sc := defScope s_are_exits) (by decide +kernel)) (fun _ _ _ _ _ => by exact (pg_name (i := 6) sc_are_exits.nd rfl (.inl rfl))) (fun _ _ _ _ _ => by exact pts_nil) (fun _ _ _ _ _ => by exact (pe_call (ok_is_pair T) (hr.mono (by decide)) (by rfl) T.m_is_pair T.F_is_pair.kp T.b_is_pair .nil pass0 (pa_cons (pv 6) pa_nil)))) pa_nil))))))))
        · apply pss_one
          exact (ps_ret pe_bl)
        · exact pss_nil
      apply pss_cons
      · exact (ps_setLc (i := 1) (own := [("page", 4), ("later", 5)]) rfl sc_are_exits.nd rfl rfl (sw_true rfl rfl rfl (by decide +kernel)) (k_pi_list (K := K) rfl (pv 0)) (blkOk_by (own := [("page", 4), ("later", 5)]) (N := ["value", "pages", "roots", "exit_of", "page", "later", "pair", "other"]) (sc := defScope s_are_exits) (by decide +kernel)) (fun _ _ _ _ _ => by exact (k_tup (K := K) (n := 2) rfl rfl (pgs_cons (pg_name (i := 4) sc_are_exits.nd rfl (.inl rfl)) (pgs_cons (pg_name (i := 5) sc_are_exits.nd rfl (.inl rfl)) pgs_nil)))) (fun _ _ _ _ _ => by exact pts_nil) (fun _ _ _ _ _ => by exact (pv 4)))
      apply pss_cons
      · exact (ps_set (i := 2) sc_are_exits.nd rfl (.inr rfl) (pe_lc (own := [("page", 4), ("later", 5)]) rfl sc_are_exits.nd (k_pi_list (K := K) rfl (pv 0)) (blkOk_by (own := [("page", 4), ("later", 5)]) (N := ["value", "pages", "roots", "exit_of", "page", "later", "pair", "other"]) (sc := defScope s_are_exits) (by decide +kernel)) (fun _ _ _ _ _ => by exact (k_tup (K := K) (n := 2) rfl rfl (pgs_cons (pg_name (i := 4) sc_are_exits.nd rfl (.inl rfl)) (pgs_cons (pg_name (i := 5) sc_are_exits.nd rfl (.inl rfl)) pgs_nil)))) (fun _ _ _ _ _ => by exact (pts_one (pt_cmpR op_eq (pv 4) (pv 5) (by rfl)))) (fun _ _ _ _ _ => by exact (pv 4))))
      apply pss_cons
      · apply ps_if
        · exact (PW.pt (pw_or (pt_cmpR op_ne (pe_callB (k_len (K := K) rfl) (by rfl) T.n_len PySem.boot_len (pa_cons (pv 2) pa_nil)) pe_int (by rfl)) (pw_or1 (pt_val (pe_callB (k_any (K := K) rfl rfl) (by rfl) T.n_any (by decide +kernel) (pa_cons (pe_lc (own := [("page", 4), ("other", 7)]) rfl sc_are_exits.nd (k_pi_zipA (K := K) rfl (by rfl) T.n_zip (pa_cons (pv 1) (pa_cons (pe_slice (k_sl_list (K := K) rfl) (pv 1) (po_some pe_int) po_none) pa_nil))) (blkOk_by (own := [("page", 4), ("other", 7)]) (N := ["value", "pages", "roots", "exit_of", "page", "later", "pair", "other"]) (sc := defScope s_are_exits) (by decide +kernel)) (fun _ _ _ _ _ => by exact (k_tup (K := K) (n := 2) rfl rfl (pgs_cons (pg_name (i := 4) sc_are_exits.nd rfl (.inl rfl)) (pgs_cons (pg_name (i := 7) sc_are_exits.nd rfl (.inl rfl)) pgs_nil)))) (fun _ _ _ _ _ => by exact pts_nil) (fun _ _ _ _ _ => by exact (pe_cmpR op_ge (pv 4) (pv 7) (by rfl)))) pa_nil))))))
        · apply pss_one
          exact (ps_ret pe_bl)
        · exact pss_nil
      apply pss_cons
      · exact (ps_set (i := 3) sc_are_exits.nd rfl (.inr rfl) (pe_callTy (k_dictP (K := K) rfl rfl) (by rfl) T.n_dict (by decide +kernel) (pa_cons (pv 0) pa_nil)))
      apply pss_cons
      · apply ps_if
        · exact (pt_not (pt_val (pe_callB (k_all (K := K) rfl rfl) (by rfl) T.n_all (by decide +kernel) (pa_cons (pe_lc (own := [("page", 4), ("later", 5)]) rfl sc_are_exits.nd (k_pi_list (K := K) rfl (pv 0)) (blkOk_by (own := [("page", 4), ("later", 5)]) (N := ["value", "pages", "roots", "exit_of", "page", "later", "pair", "other"]) (sc := defScope s_are_exits) (by decide +kernel)) (fun _ _ _ _ _ => by exact (k_tup (K := K) (n := 2) rfl rfl (pgs_cons (pg_name (i := 4) sc_are_exits.nd rfl (.inl rfl)) (pgs_cons (pg_name (i := 5) sc_are_exits.nd rfl (.inl rfl)) pgs_nil)))) (fun _ _ _ _ _ => by exact pts_nil) (fun _ _ _ _ _ => by exact (pe_cmp (pc_din (hu_of hr) (pv 5) (pv 3)) rfl))) pa_nil))))
        · apply pss_one
          exact (ps_ret pe_bl)
        · exact pss_nil
      apply pss_one
      exact (ps_ret (pe_callB (k_all (K := K) rfl rfl) (by rfl) T.n_all (by decide +kernel) (pa_cons (pe_lc (own := [("page", 4)]) rfl sc_are_exits.nd (k_pi_list (K := K) rfl (pv 1)) (blkOk_by (own := [("page", 4)]) (N := ["value", "pages", "roots", "exit_of", "page", "later", "pair", "other"]) (sc := defScope s_are_exits) (by decide +kernel)) (fun _ _ _ _ _ => by exact (pg_name (i := 4) sc_are_exits.nd rfl (.inl rfl))) (fun _ _ _ _ _ => by exact pts_nil) (fun _ _ _ _ _ => by exact (pe_call (ok_leads_to_root T) (hr.mono (by decide)) (by rfl) T.m_leads_to_root T.F_leads_to_root.kp T.b_leads_to_root .nil pass0 (pa_cons (pv 3) (pa_cons (pv 4) (pa_cons (pe_ix (k_ix_list (K := K) rfl) (pv 2) pe_int (fun _ _ => rfl)) pa_nil)))))) pa_nil)))
    have hl40 := exs_len40 row
    have ltq := hA.2.1
    have nex : exs row ≠ [] := fun e => by
      have := (mem_exs hp).mpr (nx_lst hne)
      rw [e] at this
      exact List.not_mem_nil this
    have hpgp := ints_pgp hp
    have hget : ∀ i, i < (exs row).length → (exs row)[i]? = some ((exs row).getD i (0, 0)) := fun i hi => by rw [List.getD_eq_getElem?_getD, List.getElem?_eq_getElem hi]; rfl
    refine seq_cut (fun σ' H' => σ' = [some (.ref a), none, none, none, none, none, none, none] ∧ Ex H H') (fun N hN => ?_) (fun σ1 H1 hC => ?_)
    · walk_at "sx"
      refine isi_x (b := true) (tyx_l hA.1) (by decide +kernel) ?_
      walk_at "sx"
      refine ⟨sz_ok (by omega), fun z nz1 => ?_⟩
      have ez := Ex.new nz1 (o := .lst [])
      refine eqPairsNil (hA.ex ez) upd_same ?_
      rw [decide_eq_false nex]
      walk_at "sx"
      have hA1 := hA.ex ez
      refine ⟨⟨_, hA1.1⟩, fun D nD => ?_⟩
      refine lc_list (xs := ts.map V.ref) (fun _ => true) (fun _ => V.bl true) hA1.1 nD (by rw [List.length_map]; omega) (fun u => rfl) (fun i x _ => tyes) (fun i x hx _ => ?_) (fun H2 e2 hD => ?_)
      · obtain ⟨t, ht, rfl⟩ := refs_at hx
        have hi := (List.getElem?_eq_some_iff.mp ht).1
        have hq := hpgp _ (List.mem_of_getElem? (hget i (by omega)))
        refine ev_call (vs := [.ref t]) (ea_cons (ev_var rfl) ea_nil) (fun H3 e3 Q3 q3 E3 => ⟨t, (exs row).getD i (0, 0), rfl, e3 _ _ (hA1.2.2 i t ht), hq.1, hq.2, fun H' e' => q3 H' e'⟩)
      · rw [kept_const] at hD
        have e5 : List.replicate (ts.map V.ref).length (V.bl true) = (List.replicate ts.length true).map V.bl := by rw [List.map_replicate, List.length_map]
        rw [e5] at hD
        refine allL (.inl (.inl hD)) ?_
        rw [all_true]
        walk_at "sx"
        exact hN _ _ ⟨rfl, ez.trans e2⟩
    obtain ⟨rfl, e1⟩ := hC
    have hA1 := hA.ex e1
    refine seq_cut (fun σ' H' => ∃ b, σ' = [some (.ref a), some (.ref b), none, none, none, none, none, none] ∧ Ex H1 H' ∧ H' b = some (.lst (((exs row).map (·.1)).map V.int))) (fun N hN => ?_) (fun σ2 H2 hC => ?_)
    · walk_at "sx"
      refine ⟨⟨_, hA1.1⟩, fun D nD => ?_⟩
      refine lc_pairs (ts := ts) (u := fun i => .int ((exs row).getD i (0, 0)).1) (v := fun i => .int ((exs row).getD i (0, 0)).2) (.inl ⟨rfl, hA1.1⟩) (fun i t ht => hA1.2.2 i t ht) (fun _ => true) (fun i => V.int ((exs row).getD i (0, 0)).1) nD (by omega) (fun u v => rfl) (fun i hi => tyes) (fun i hi _ => ev_var rfl) (fun H2 e2 hD => ?_)
      rw [ltq, kept_pairs (P := fun _ => true) (g := fun q => q.1), List.filter_eq_self.mpr (fun _ _ => rfl)] at hD
      exact hN _ _ ⟨D, rfl, e2, hD⟩
    obtain ⟨b, rfl, e2, hb⟩ := hC
    have hA2 := hA1.ex e2
    refine seq_cut (fun σ' H' => ∃ c, σ' = [some (.ref a), some (.ref b), some (.ref c), none, none, none, none, none] ∧ Ex H2 H' ∧ H' c = some (.lst ([lst row].map V.int))) (fun N hN => ?_) (fun σ3 H3 hC => ?_)
    · walk_at "sx"
      refine ⟨⟨_, hA2.1⟩, fun D nD => ?_⟩
      refine lc_pairs (ts := ts) (u := fun i => .int ((exs row).getD i (0, 0)).1) (v := fun i => .int ((exs row).getD i (0, 0)).2) (.inl ⟨rfl, hA2.1⟩) (fun i t ht => hA2.2.2 i t ht) (fun i => decide (((exs row).getD i (0, 0)).1 = ((exs row).getD i (0, 0)).2)) (fun i => V.int ((exs row).getD i (0, 0)).1) nD (by omega) (fun u v => rfl) (fun i hi => ?_) (fun i hi _ => ev_var rfl) (fun H2 e2 hD => ?_)
      · refine et_is (et_test (ev_op (ev_var rfl) (ev_var rfl) (rv_eq rfl))) ?_
        exact decide_eq_decide.mpr ⟨fun e => V.int.inj e, fun e => congrArg V.int e⟩
      · rw [ltq, kept_pairs (P := fun q => decide (q.1 = q.2)) (g := fun q => q.1)] at hD
        have hr := roots_exs hp hne
        unfold rootsOf at hr
        rw [hr] at hD
        exact hN _ _ ⟨D, rfl, e2, hD⟩
    obtain ⟨c, rfl, e3, hc⟩ := hC
    have hb3 := e3 _ _ hb
    refine seq_cut (fun σ' H' => σ' = [some (.ref a), some (.ref b), some (.ref c), none, none, none, none, none] ∧ Ex H3 H') (fun N hN => ?_) (fun σ4 H4 hC => ?_)
    · walk_at "sx"
      refine lenL (.inl (.inl hc)) ?_
      have z11 : (([lst row].map V.int).length : Int) = 1 := rfl
      rw [z11]
      walk_at "sx"
      refine slL (.inl (.inl hb3)) fun z nz1 => ?_
      have hcd : cutV (((exs row).map (·.1)).map V.int) (some 1) none = (((exs row).map (·.1)).drop 1).map V.int := cut_drop1 _
      rw [hcd]
      have ez := Ex.new nz1 (o := .lst ((((exs row).map (·.1)).drop 1).map V.int))
      refine ⟨_, _, ⟨rfl, rfl⟩, _, _, .inl ⟨.inl (.inl (ez _ _ hb3)), .inl (.inl upd_same), fun D nD => ?_⟩⟩
      refine lc_zipS (xs := ((exs row).map (·.1)).map V.int) (ys := (((exs row).map (·.1)).drop 1).map V.int) (fun _ => true) (fun _ => V.bl false) (.inl (.inl (ez _ _ hb3))) (.inl (.inl upd_same)) (by rw [List.length_map, List.length_map, List.length_drop]; omega) nD (by rw [List.length_map, List.length_drop, List.length_map]; omega) (fun u v => rfl) (fun i x y _ _ => tyes) (fun i x y hx hy _ => ?_) (fun H2 e2 hD => ?_)
      · obtain ⟨p, hp1, rfl⟩ := ints_at hx
        obtain ⟨q, hq1, rfl⟩ := ints_at hy
        rw [List.getElem?_drop, Nat.add_comm 1 i] at hq1
        refine ev_is (ev_op (ev_var rfl) (ev_var rfl) rv_I0) ?_
        have hpq : p < q := by
          have hs := exs_srt row
          rw [List.getElem?_map] at hp1 hq1
          cases c1 : (exs row)[i]? with
          | none => rw [c1] at hp1; cases hp1
          | some g1 =>
            cases c2 : (exs row)[i + 1]? with
            | none => rw [c2] at hq1; cases hq1
            | some g2 =>
              rw [c1] at hp1
              rw [c2] at hq1
              obtain ⟨l1, e1'⟩ := List.getElem?_eq_some_iff.mp c1
              obtain ⟨l2, e2'⟩ := List.getElem?_eq_some_iff.mp c2
              have := List.pairwise_iff_getElem.mp hs i (i + 1) l1 l2 (by omega)
              rw [e1', e2'] at this
              rw [← Option.some.inj hp1, ← Option.some.inj hq1]
              exact this
        show V.bl (decide (p ≥ q)) = V.bl false
        rw [decide_eq_false (by omega)]
      · rw [kept_const] at hD
        have e5 : List.replicate ((((exs row).map (·.1)).drop 1).map V.int).length (V.bl false) = (List.replicate (((exs row).map (·.1)).drop 1).length false).map V.bl := by rw [List.map_replicate, List.length_map]
        rw [e5] at hD
        refine anyL (.inl (.inl hD)) ?_
        have hf : ∀ n, (List.replicate n false).any id = false := fun n => by
          induction n with
          | zero => rfl
          | succ n ih => rw [List.replicate_succ, List.any_cons, ih]; rfl
        rw [hf]
        walk_at "sx"
        exact hN _ _ ⟨rfl, ez.trans e2⟩
    obtain ⟨rfl, e4⟩ := hC
    have hA4 := (hA2.ex e3).ex e4
    have hb4 := e4 _ _ hb3
    have hc4 := e4 _ _ hc
    have ndk : ((exs row).map (·.1)).Nodup := srt_nodup (exs_srt row)
    walk_at "sx"
    refine ⟨a, ts, exs row, rfl, hA4, ndk, fun d nd => ?_⟩
    walk_at "sx"
    have e5 := Ex.new nd (o := .dK ((exs row).map itK))
    have hA5 := hA4.ex e5
    generalize hH5 : upd H4 d (.dK ((exs row).map itK)) = H5 at e5 hA5
    have hd5 : H5 d = some (.dK ((exs row).map itK)) := by rw [← hH5]; exact upd_same
    have gI : ∀ x y, nx row x = some y → getI (exs row) x = some y := fun x y h => (getI_mem ndk).mp ((mem_exs hp).mpr h)
    refine ⟨⟨_, hA5.1⟩, fun D nD => ?_⟩
    refine lc_pairs (ts := ts) (u := fun i => .int ((exs row).getD i (0, 0)).1) (v := fun i => .int ((exs row).getD i (0, 0)).2) (.inl ⟨rfl, hA5.1⟩) (fun i t ht => hA5.2.2 i t ht) (fun _ => true) (fun i => V.bl true) nD (by omega) (fun u v => rfl) (fun i hi => tyes) (fun i hi _ => ?_) (fun H6 e6 hD => ?_)
    · have hm := List.mem_of_getElem? (hget i (by omega))
      obtain ⟨x, y, hxy⟩ : ∃ x y, (exs row).getD i (0, 0) = (x, y) := ⟨_, _, rfl⟩
      rw [hxy] at hm ⊢
      have hy := (mem_nx ((mem_exs hp).mp hm)).2
      obtain ⟨z, hz⟩ := nx_mem hy
      refine ev_is (ev_din (k := Sum.inl y) (ev_var rfl) (ev_var rfl) hd5) ?_
      rw [getI_val, gI y z hz]
      rfl
    · rw [kept_const] at hD
      have e7 : List.replicate ts.length (V.bl true) = (List.replicate ts.length true).map V.bl := by rw [List.map_replicate]
      rw [e7] at hD
      refine allL (.inl (.inl hD)) ?_
      rw [all_true]
      walk_at "sx"
      have hb6 := e6 _ _ (e5 _ _ hb4)
      have hc6 := e6 _ _ (e5 _ _ hc4)
      have hd6 := e6 _ _ hd5
      refine ⟨⟨_, .inl (.inl hb6)⟩, fun D2 nD2 => ?_⟩
      refine lc_list (xs := ((exs row).map (·.1)).map V.int) (fun _ => true) (fun _ => V.bl true) (.inl (.inl hb6)) nD2 (by rw [List.length_map, List.length_map]; omega) (fun u => rfl) (fun i x _ => tyes) (fun i x hx _ => ?_) (fun H7 e8 hD2 => ?_)
      · obtain ⟨p, hp1, rfl⟩ := ints_at hx
        have pr : p ∈ row := by
          obtain ⟨⟨x, y⟩, hq, rfl⟩ := List.mem_map.mp (List.mem_of_getElem? hp1)
          exact (mem_nx ((mem_exs hp).mp hq)).1
        refine ev_call (vs := [.ref d, .int p, .int (lst row)]) (ea_cons (ev_var rfl) (ea_cons (ev_var rfl) (ea_cons (ev_op (ev_var rfl) ev_c (rv_ixL (.inl (.inl hc6)) (atI_n (j := 0) rfl rfl))) ea_nil))) (fun H3 e3 Q3 q3 E3 => ?_)
        refine ⟨d, p, lst row, exs row, nxt row, fun x => x ∈ row, rfl, e3 _ _ hd6, by omega, pr, fun x hx => ?_, fun H' e' => ?_⟩
        · obtain ⟨y, hy⟩ := nx_mem hx
          rw [nxt_at hy]
          exact ⟨gI x y hy, (mem_nx hy).2⟩
        · rw [lead_ok (exs row).length pr (by rw [exs_len hp]; omega)]
          exact q3 H' e'
      · rw [kept_const] at hD2
        have e9 : List.replicate (((exs row).map (·.1)).map V.int).length (V.bl true) = (List.replicate ((exs row).map (·.1)).length true).map V.bl := by rw [List.map_replicate, List.length_map]
        rw [e9] at hD2
        refine allL (.inl (.inl hD2)) ?_
        rw [all_true]
        exact k _ (e1.trans (e2.trans (e3.trans (e4.trans (e5.trans (e6.trans e8))))))
/-! ### class Effect -/
/-- a first page for these visits' exits -/
def Begin (row : List Int) (v : V) : Prop := (row = [] ∧ v = .non) ∨ ∃ p, p ∈ row ∧ v = .int p
theorem begin_first (row : List Int) : Begin row (firstV row) := by
  cases row with
  | nil => exact .inl ⟨rfl, rfl⟩
  | cons a r => exact .inr ⟨a, List.mem_cons_self, rfl⟩
def spInit (C : Addr) (K : PySem.W.Frag) : Sp := fun vs H Q _ => ∃ (x dx a : Addr) (ts : List Addr) (row : List Int) (v : V), vs = [.ref x, v, .ref a] ∧ Begin row v ∧ H x = some (.ins C dx []) ∧ PairsAt K H a ts (exs row) ∧ Pg 40 row ∧ ∀ H', (∀ b o, H b = some o → b ≠ x → H' b = some o) → EffAt C H' x v (exs row) → Q .non H'
theorem flds_all (v : V) (t d : Addr) : putF "exit_of" (V.ref d) (putF "pairs" (V.ref t) (putF "begin_page" v [])) = ([("begin_page", v), ("pairs", V.ref t), ("exit_of", V.ref d)] : List (Str × V)) := by
  have k1 : ¬ (("begin_page" : Str) = "pairs") := by decide +kernel
  have k2 : ¬ (("begin_page" : Str) = "exit_of") := by decide +kernel
  have k3 : ¬ (("pairs" : Str) = "exit_of") := by decide +kernel
  simp [putF, k1, k2, k3]
theorem len_flds1 (v : V) : (putF "begin_page" v ([] : List (Str × V))).length = 1 := rfl
theorem len_flds2 (v u : V) : (putF "pairs" u (putF "begin_page" v ([] : List (Str × V)))).length = 2 := by
  have k1 : ¬ (("begin_page" : Str) = "pairs") := by decide +kernel
  simp [putF, k1]
theorem ok_Effect___init (T : Txt K mg) : FnOk P w K mg base CX0 5 T.f_Effect___init T.fd_Effect___init ["self", "first", "exits"] (spInit T.C_Effect K) := by
  refine T.F_Effect___init.ok sc_Effect___init (fun vs H Q E h => ?_) (fun cdv A outer s H vs Q E hr h => ?_)
  · obtain ⟨x, dx, a, ts, row, v, rfl, _⟩ := h
    rfl
  · obtain ⟨x, dx, a, ts, row, v, rfl, hbg, hx, hA, hp, k⟩ := h
    apply Exists.intro
    apply And.intro
    · apply pss_cons
      · apply ps_if
        · exact (pt_cmpR op_isN (pv 1) pe_non (by rfl))
        · apply pss_one
          exact (ps_set (i := 3) sc_Effect___init.nd rfl (.inl rfl) (pe_and (pe_callB (k_isi (K := K) rfl) (by rfl) T.n_isinstance (by decide +kernel) (pa_cons (pv 2) (pa_cons (pe_bltn (v := .ty "list") (by rfl) T.n_list (by decide +kernel) rfl) pa_nil))) (pe_one (pe_cmpR (k_eqD (K := K) rfl hr.units) (pv 2) (pe_lst pa_nil) (by rfl)))))
        · apply pss_one
          exact (ps_set (i := 3) sc_Effect___init.nd rfl (.inl rfl) (pe_and (pe_call (ok_is_page T) (hr.mono (by decide)) (by rfl) T.m_is_page T.F_is_page.kp T.b_is_page .nil pass0 (pa_cons (pv 1) pa_nil)) (pe_and (pe_call (ok_are_exits T) (hr.mono (by decide)) (by rfl) T.m_are_exits T.F_are_exits.kp T.b_are_exits .nil pass0 (pa_cons (pv 2) pa_nil)) (pe_one (pe_cmp (pc_din (hu_of hr) (pv 1) (pe_callTy (k_dictP (K := K) rfl rfl) (by rfl) T.n_dict (by decide +kernel) (pa_cons (pv 2) pa_nil))) rfl)))))
      apply pss_cons
      · apply ps_if
        · exact (pt_not (pt_val (pv 3)))
        · apply pss_one
          exact ps_never
        · exact pss_nil
      apply pss_cons
      · exact (k_sfld (K := K) rfl (pv 0) (pv 1) rfl)
      apply pss_cons
      · exact (k_sfld (K := K) rfl (pv 0) (pe_callTy (k_tupOf (K := K) rfl) (by rfl) T.n_tuple (by decide +kernel) (pa_cons (pv 2) pa_nil)) rfl)
      apply pss_one
      exact (k_sfld (K := K) rfl (pv 0) (pe_callTy (k_dictP (K := K) rfl rfl) (by rfl) T.n_dict (by decide +kernel) (pa_cons (pv 2) pa_nil)) rfl)
    have ndk : ((exs row).map (·.1)).Nodup := srt_nodup (exs_srt row)
    have hl40 := exs_len40 row
    refine seq_cut (fun σ' H' => σ' = [some (.ref x), some (v), some (.ref a), some (.bl true)] ∧ Ex H H') (fun N hN => ?_) (fun σ1 H1 hC => ?_)
    · rcases hbg with ⟨rfl, rfl⟩ | ⟨p, hpm, rfl⟩
      · have e0 : exs [] = [] := by decide +kernel
        rw [e0] at hA
        walk_at "sx"
        refine isi_x (b := true) (tyx_l hA.1) (by decide +kernel) ?_
        walk_at "sx"
        refine ⟨sz_ok (by omega), fun z nz1 => ?_⟩
        have ez := Ex.new nz1 (o := .lst [])
        refine eqPairsNil (hA.ex ez) upd_same ?_
        exact hN _ _ ⟨rfl, ez⟩
      · have hp0 := hp p hpm
        have z2 : p ≤ 39 := by omega
        walk_at "sx"
        refine ⟨.int p, rfl, .int p, ?_⟩
        simp only [inR]
        rw [decide_eq_true hp0.1, decide_eq_true z2]
        walk_at "sx"
        refine ⟨a, ts, row, rfl, hA, hp, List.ne_nil_of_mem hpm, fun H1 e1 => ?_⟩
        walk_at "sx"
        refine ⟨a, ts, exs row, rfl, hA.ex e1, ndk, fun d nd => ?_⟩
        have e5 := Ex.new nd (o := .dK ((exs row).map itK))
        refine ⟨d, rfl, _, DGet.k (k := Sum.inl p) upd_same, ?_⟩
        obtain ⟨y, hy⟩ := nx_mem (row := row) (p := p) hpm
        have hg : (valV ((exs row).map itK) (Sum.inl p)).isSome = true := by
          rw [valV_itK ndk ((mem_exs hp).mpr hy)]
          rfl
        rw [hg]
        exact hN _ _ ⟨rfl, e1.trans e5⟩
    obtain ⟨rfl, e1⟩ := hC
    have hA1 := hA.ex e1
    have hx1 := e1 _ _ hx
    walk_at "sx"
    refine ⟨_, dx, _, hx1, T.cl_Effect, T.na_Effect_begin_page, by show 0 < 1000; omega, ?_⟩
    have nxa : ∀ {b : Addr} {o : HO}, H1 b = some o → (∀ C dx fs, o ≠ .ins C dx fs) → b ≠ x := fun h1 h2 => ne_of h1 hx1 (h2 _ _ _)
    have hpx : ∀ (fs : List (Str × V)) i t, ts[i]? = some t → PairAt (upd H1 x (.ins T.C_Effect dx fs)) t ((exs row).getD i (0, 0)) := fun fs i t hi => by
      have h := hA1.2.2 i t hi
      have ne : t ≠ x := ne_of (pr_ev h) hx1 (by intro z; cases z)
      unfold PairAt
      rw [upd_ne ne]
      exact h
    have hAx : ∀ fs : List (Str × V), PairsAt K (upd H1 x (.ins T.C_Effect dx fs)) a ts (exs row) := fun fs => by
      refine ⟨?_, hA1.2.1, hpx fs⟩
      rcases hA1.1 with h | h
      · rcases h with h | ⟨o, h⟩
        · exact .inl (.inl (by rw [upd_ne (ne_of h hx1 (by intro z; cases z))]; exact h))
        · exact .inl (.inr ⟨o, by rw [upd_ne (ne_of h hx1 (by intro z; cases z))]; exact h⟩)
      · exact .inr h
    refine ⟨a, _, rfl, .inl ⟨(hAx _).1, fun t nt => ?_⟩⟩
    have hx2 : ∀ fs : List (Str × V), (upd (upd H1 x (.ins T.C_Effect dx fs)) t (.tup (ts.map V.ref))) x = some (.ins T.C_Effect dx fs) := fun fs => by
      have ntx : x ≠ t := ne_of_none upd_same nt
      rw [upd_ne ntx, upd_same]
    refine ⟨_, dx, _, hx2 _, T.cl_Effect, T.na_Effect_pairs, by rw [len_flds1]; omega, ?_⟩
    have ntx : x ≠ t := ne_of_none upd_same nt
    have nt1 : H1 t = none := by rw [upd_ne (Ne.symm ntx)] at nt; exact nt
    -- the heap with the tuple and the fields
    generalize hf2 : putF "pairs" (V.ref t) (putF "begin_page" (v) []) = f2
    have l2 : f2.length = 2 := by rw [← hf2]; exact len_flds2 _ _
    have hG : ∀ b o, b ≠ x → H1 b = some o → (upd (upd (upd H1 x (.ins T.C_Effect dx (putF "begin_page" (v) []))) t (.tup (ts.map V.ref))) x (.ins T.C_Effect dx f2)) b = some o := fun b o nb h => by
      rw [upd_ne nb, upd_ne (ne_of_none h nt1), upd_ne nb]
      exact h
    have hGx : (upd (upd (upd H1 x (.ins T.C_Effect dx (putF "begin_page" (v) []))) t (.tup (ts.map V.ref))) x (.ins T.C_Effect dx f2)) x = some (.ins T.C_Effect dx f2) := upd_same
    have hGt : (upd (upd (upd H1 x (.ins T.C_Effect dx (putF "begin_page" (v) []))) t (.tup (ts.map V.ref))) x (.ins T.C_Effect dx f2)) t = some (.tup (ts.map V.ref)) := by rw [upd_ne (Ne.symm ntx), upd_same]
    generalize (upd (upd (upd H1 x (.ins T.C_Effect dx (putF "begin_page" (v) []))) t (.tup (ts.map V.ref))) x (.ins T.C_Effect dx f2)) = G at hG hGx hGt ⊢
    have hAG : PairsAt K G a ts (exs row) := by
      refine ⟨?_, hA1.2.1, fun i u hi => ?_⟩
      · rcases hA1.1 with h | h
        · rcases h with h | ⟨o, h⟩
          · exact .inl (.inl (hG _ _ (ne_of h hx1 (by intro z; cases z)) h))
          · exact .inl (.inr ⟨o, hG _ _ (ne_of h hx1 (by intro z; cases z)) h⟩)
        · exact .inr h
      · have h := hA1.2.2 i u hi
        exact hG _ _ (ne_of (pr_ev h) hx1 (by intro z; cases z)) h
    refine ⟨a, ts, exs row, rfl, hAG, ndk, fun d nd => ?_⟩
    have ndx : x ≠ d := ne_of_none hGx nd
    refine ⟨_, dx, f2, by rw [upd_ne ndx]; exact hGx, T.cl_Effect, T.na_Effect_exit_of, by rw [l2]; omega, ?_⟩
    refine k _ (fun b o h nb => ?_) ⟨dx, t, d, ts, ?_, ?_, hA1.2.1, fun i u hi => ?_, ?_⟩
    · have h1 := hG b o nb (e1 _ _ h)
      rw [upd_ne nb, upd_ne (ne_of_none h1 nd)]
      exact h1
    · rw [upd_same, ← hf2, flds_all]
    · rw [upd_ne (Ne.symm ntx), upd_ne (ne_of_none hGt nd)]
      exact hGt
    · have h := hAG.2.2 i u hi
      unfold PairAt
      rw [upd_ne (ne_of (pr_ev h) hGx (by intro z; cases z)), upd_ne (ne_of_none (pr_ev h) nd)]
      exact h
    · rw [upd_ne (Ne.symm ndx), upd_same]
theorem lk_pairs (v : V) (t d : Addr) : ([("begin_page", v), ("pairs", V.ref t), ("exit_of", V.ref d)] : List (Str × V)).lookup ("pairs" : Str) = some (.ref t) := by
  have k1 : (("pairs" : Str) == "begin_page") = false := by decide +kernel
  simp [List.lookup, k1]
theorem lk_exit (v : V) (t d : Addr) : ([("begin_page", v), ("pairs", V.ref t), ("exit_of", V.ref d)] : List (Str × V)).lookup ("exit_of" : Str) = some (.ref d) := by
  have k1 : (("exit_of" : Str) == "begin_page") = false := by decide +kernel
  have k2 : (("exit_of" : Str) == "pairs") = false := by decide +kernel
  simp [List.lookup, k1, k2]
theorem lk_begin (v : V) (t d : Addr) : ([("begin_page", v), ("pairs", V.ref t), ("exit_of", V.ref d)] : List (Str × V)).lookup ("begin_page" : Str) = some v := by
  simp [List.lookup]
end
section
variable {P : Program} {w : World} {K : PySem.W.Frag} {mg : Str → Option Value} {base : Heap}
def spFirst (C : Addr) : Sp := fun vs H Q _ => ∃ (x : Addr) (v : V) (qs : List (Int × Int)), vs = [.ref x] ∧ EffAt C H x v qs ∧ Q v H
theorem ok_Effect_first (T : Txt K mg) : FnOk P w K mg base CX0 1 T.f_Effect_first T.fd_Effect_first ["self"] (spFirst T.C_Effect) := by
  refine T.F_Effect_first.ok sc_Effect_first (fun vs H Q E h => ?_) (fun cdv A outer s H vs Q E hr h => ?_)
  · obtain ⟨x, v, qs, rfl, _⟩ := h
    rfl
  · obtain ⟨x, v, qs, rfl, hx, k⟩ := h
    apply Exists.intro
    apply And.intro
    · apply pss_one
      exact (ps_ret (k_fld (K := K) rfl (pv 0) rfl))
    obtain ⟨dx, t, d, ts, h1, h2, h3, h4, h5⟩ := hx
    walk_at "sx"
    exact ⟨_, _, _, h1, T.cl_Effect, T.na_Effect_begin_page, _, lk_begin _ _ _, k⟩
def spExits (C : Addr) : Sp := fun vs H Q _ => ∃ (x : Addr) (v : V) (qs : List (Int × Int)), vs = [.ref x] ∧ EffAt C H x v qs ∧ ∀ l ts H', H l = none → Ex H H' → H' l = some (.lst ((ts : List Addr).map V.ref)) → ts.length = qs.length → (∀ i u, ts[i]? = some u → PairAt H' u (qs.getD i (0, 0))) → Q (.ref l) H'
theorem ok_Effect_exits (T : Txt K mg) : FnOk P w K mg base CX0 1 T.f_Effect_exits T.fd_Effect_exits ["self"] (spExits T.C_Effect) := by
  refine T.F_Effect_exits.ok sc_Effect_exits (fun vs H Q E h => ?_) (fun cdv A outer s H vs Q E hr h => ?_)
  · obtain ⟨x, v, qs, rfl, _⟩ := h
    rfl
  · obtain ⟨x, v, qs, rfl, hx, k⟩ := h
    apply Exists.intro
    apply And.intro
    · apply pss_one
      exact (ps_ret (pe_callTy (k_listOf (K := K) rfl) (by rfl) T.n_list (by decide +kernel) (pa_cons (k_fld (K := K) rfl (pv 0) rfl) pa_nil)))
    obtain ⟨dx, t, d, ts, h1, h2, h3, h4, h5⟩ := hx
    walk_at "sx"
    refine ⟨_, _, _, h1, T.cl_Effect, T.na_Effect_pairs, _, lk_pairs _ _ _, ?_⟩
    refine ⟨t, _, rfl, .inr (.inl (.inl h2)), fun l nl => ?_⟩
    have el := Ex.new nl (o := .lst (ts.map V.ref))
    exact k l ts _ nl el upd_same h3 fun i u hi => el _ _ (h4 i u hi)
def lastV (qs : List (Int × Int)) : V := match rootsOf qs with
  | [] => .non
  | r :: _ => .int r
def spLastE (C : Addr) : Sp := fun vs H Q _ => ∃ (x : Addr) (v : V) (qs : List (Int × Int)), vs = [.ref x] ∧ EffAt C H x v qs ∧ qs.length ≤ 100 ∧ ∀ H', Ex H H' → Q (lastV qs) H'
def spLeaves (C : Addr) : Sp := fun vs H Q _ => ∃ (x : Addr) (v : V) (qs : List (Int × Int)), vs = [.ref x] ∧ EffAt C H x v qs ∧ qs.length ≤ 100 ∧ ∀ l H', H l = none → Ex H H' → H' l = some (.lst ((leavesOf qs).map V.int)) → Q (.ref l) H'
def spLen (C : Addr) : Sp := fun vs H Q _ => ∃ (x : Addr) (v : V) (qs : List (Int × Int)), vs = [.ref x] ∧ EffAt C H x v qs ∧ Q (.int (qs.length : Nat)) H
theorem ok_Effect___len (T : Txt K mg) : FnOk P w K mg base CX0 1 T.f_Effect___len T.fd_Effect___len ["self"] (spLen T.C_Effect) := by
  refine T.F_Effect___len.ok sc_Effect___len (fun vs H Q E h => ?_) (fun cdv A outer s H vs Q E hr h => ?_)
  · obtain ⟨x, v, qs, rfl, _⟩ := h
    rfl
  · obtain ⟨x, v, qs, rfl, hx, k⟩ := h
    apply Exists.intro
    apply And.intro
    · apply pss_one
      exact (ps_ret (pe_callB (k_len (K := K) rfl) (by rfl) T.n_len PySem.boot_len (pa_cons (k_fld (K := K) rfl (pv 0) rfl) pa_nil)))
    obtain ⟨dx, t, d, ts, h1, h2, h3, h4, h5⟩ := hx
    walk_at "sx"
    refine ⟨_, _, _, h1, T.cl_Effect, T.na_Effect_pairs, _, lk_pairs _ _ _, ?_⟩
    refine lenT (.inl (.inl h2)) ?_
    rw [List.length_map, h3]
    exact k
end
def dF : V → PyData
  | .int i => .int i
  | _ => .none
theorem dBeg {K : PySem.W.Frag} {H : Hp} {row : List Int} {u : V} (h : Begin row u) : Dp K H u (dF u) := by
  rcases h with ⟨_, rfl⟩ | ⟨p, _, rfl⟩
  · exact .non
  · exact .int p
theorem shp_dF (u : V) : SeqAt.shaped (dF u) = true := by
  cases u <;> rfl
theorem eqv_dF {r1 r2 : List Int} {u v : V} (h : Begin r1 u) (g : Begin r2 v) : PyData.eqv (dF u) (dF v) = decide (u = v) := by
  rcases h with ⟨_, rfl⟩ | ⟨p, _, rfl⟩
  · rcases g with ⟨_, rfl⟩ | ⟨q, _, rfl⟩
    · rfl
    · simp [dF, PyData.eqv]
  · rcases g with ⟨_, rfl⟩ | ⟨q, _, rfl⟩
    · simp [dF, PyData.eqv]
    · simp [dF, PyData.eqv]
      rw [Bool.eq_iff_iff]
      simp
theorem shp_tup (qs : List (Int × Int)) : SeqAt.shaped (.tuple (qs.map dPair)) = true := by
  have h1 : ∀ qs : List (Int × Int), PyData.canLayAll0 (qs.map dPair) = true := fun qs => by
    induction qs with
    | nil => simp [PyData.canLayAll0]
    | cons n ns ih => simp [PyData.canLayAll0, PyData.canLay0, dPair, ih]
  have h2 := dep_all (ds := qs.map dPair) (n := 1) fun d m => by
      obtain ⟨n, hn, rfl⟩ := List.mem_map.mp m
      simp [PyData.depth, PyData.depthAll, dPair]
  show (PyData.canLay0 _ && decide (PyData.depth _ ≤ 64)) = true
  rw [Bool.and_eq_true]
  refine ⟨?_, decide_eq_true ?_⟩
  · simp only [PyData.canLay0]; exact h1 qs
  · simp only [PyData.depth]; omega
theorem eqv_all : ∀ qs rs : List (Int × Int), PyData.eqvAll (qs.map dPair) (rs.map dPair) = decide (qs = rs)
  | [], [] => by simp [PyData.eqvAll]
  | [], r :: rs => by simp [PyData.eqvAll]
  | q :: qs, [] => by simp [PyData.eqvAll]
  | q :: qs, r :: rs => by
    have ih := eqv_all qs rs
    rw [List.map_cons, List.map_cons]
    simp only [PyData.eqvAll, ih]
    have e : PyData.eqv (dPair q) (dPair r) = decide (q = r) := by
      obtain ⟨a, b⟩ := q
      obtain ⟨c, d⟩ := r
      simp [dPair, PyData.eqv, PyData.eqvAll]
      rw [Bool.eq_iff_iff]
      simp
    rw [e]
    simp
theorem eqv_tup (qs rs : List (Int × Int)) : PyData.eqv (.tuple (qs.map dPair)) (.tuple (rs.map dPair)) = decide (qs = rs) := by
  simp only [PyData.eqv]
  exact eqv_all qs rs
theorem getI_exs {row : List Int} (hp : Pg 40 row) (x : Int) : getI (exs row) x = nx row x := by
  have nd : ((exs row).map (·.1)).Nodup := srt_nodup (exs_srt row)
  cases c : nx row x with
  | some y => exact (getI_mem nd).mp ((mem_exs hp).mpr c)
  | none =>
    cases c2 : getI (exs row) x with
    | none => rfl
    | some y =>
      have := (mem_exs hp).mp ((getI_mem nd).mpr c2)
      rw [c] at this
      cases this
theorem nx_in {row : List Int} {x : Int} : (nx row x).isSome = decide (x ∈ row) := by
  by_cases h : x ∈ row
  · obtain ⟨y, hy⟩ := nx_mem h
    rw [hy, decide_eq_true h]; rfl
  · rw [decide_eq_false h]
    cases c : nx row x with
    | none => rfl
    | some y => exact absurd (mem_nx c).1 h
/-- the exits of visits that go on -/
theorem nx_app {b : Int} {s : List Int} {x : Int} : ∀ r : List Int, nx (r ++ b :: s) x = match nx (b :: s) x with | some y => some y | none => (nx r x).map fun y => if y = x then b else y
  | [] => by
    show nx (b :: s) x = _
    cases nx (b :: s) x <;> rfl
  | a :: r => by
    have ih := nx_app (b := b) (s := s) (x := x) r
    cases c : nx (b :: s) x with
    | some y =>
      rw [c] at ih
      exact nx_some ih
    | none =>
      rw [c] at ih
      cases d : nx r x with
      | some y =>
        rw [d] at ih
        rw [nx_some d]
        exact nx_some ih
      | none =>
        rw [d] at ih
        show nx (a :: (r ++ b :: s)) x = (nx (a :: r) x).map _
        rw [nx_none ih, nx_none d]
        by_cases e : a = x
        · rw [if_pos e, if_pos e]
          cases r with
          | nil =>
            show some b = some (if a = x then b else a)
            rw [if_pos e]
          | cons c2 r' =>
            have nc : ¬ c2 = x := fun z => by
              obtain ⟨y, hy⟩ := nx_mem (row := c2 :: r') (p := x) (by rw [← z]; exact List.mem_cons_self)
              rw [hy] at d
              cases d
            show some c2 = some (if c2 = x then b else c2)
            rw [if_neg nc]
        · rw [if_neg e, if_neg e]
          rfl
section
variable {P : Program} {w : World} {K : PySem.W.Frag} {mg : Str → Option Value} {base : Heap}
def spCont (C : Addr) (K : PySem.W.Frag) : Sp := fun vs H Q _ => ∃ (x : Addr) (v u : V) (row : List Int), vs = [.ref x, v] ∧ EffAt C H x u (exs row) ∧ Pg 40 row ∧ Kd K H v ∧ Q (.bl (match v with | .int p => decide (p ∈ row) | _ => false)) H
def spEqE (C : Addr) (K : PySem.W.Frag) : Sp := fun vs H Q _ => ∃ (x : Addr) (y u : V) (row : List Int), vs = [.ref x, y] ∧ EffAt C H x u (exs row) ∧ Pg 40 row ∧ Begin row u ∧ ((Odd K C H y ∧ Q (.bl false) H) ∨ ∃ (b : Addr) (u2 : V) (row2 : List Int), y = .ref b ∧ EffAt C H b u2 (exs row2) ∧ Pg 40 row2 ∧ Begin row2 u2 ∧ Q (.bl (decide (u = u2 ∧ exs row = exs row2))) H)
theorem ok_Effect___eq (T : Txt K mg) : FnOk P w K mg base CX0 1 T.f_Effect___eq T.fd_Effect___eq ["self", "other"] (spEqE T.C_Effect K) := by
  refine T.F_Effect___eq.ok sc_Effect___eq (fun vs H Q E h => ?_) (fun cdv A outer s H vs Q E hr h => ?_)
  · obtain ⟨x, y, u, row, rfl, _⟩ := h
    rfl
  · obtain ⟨x, y, u, row, rfl, hx, hp, hb, k⟩ := h
    apply Exists.intro
    apply And.intro
    · apply pss_one
      exact (ps_ret (pe_and (pe_callB (k_isi (K := K) rfl) (by rfl) T.n_isinstance (by decide +kernel) (pa_cons (pv 1) (pa_cons (pe_glob (v := .ref T.C_Effect) (by rfl) T.g_Effect rfl) pa_nil))) (pe_and (pe_cmpR (k_eqD (K := K) rfl hr.units) (k_fld (K := K) rfl (pv 0) rfl) (k_fld (K := K) rfl (pv 1) rfl) (by rfl)) (pe_one (pe_cmpR (k_eqD (K := K) rfl hr.units) (k_fld (K := K) rfl (pv 0) rfl) (k_fld (K := K) rfl (pv 1) rfl) (by rfl))))))
    obtain ⟨dx, t, d, ts, h1, h2, h3, h4, h5⟩ := hx
    walk_at "sx"
    rcases k with ⟨⟨ty, tx, _, ki⟩, q⟩ | ⟨b, u2, row2, rfl, hy, hp2, hb2, q⟩
    · refine ⟨y, .ref T.C_Effect, _, .ref T.C_Effect, false, rfl, .own _, tx, ki, ?_⟩
      walk_at "sx"
      exact q
    · obtain ⟨dx2, t2, d2, ts2, g1, g2, g3, g4, g5⟩ := hy
      refine ⟨.ref b, .ref T.C_Effect, .ref T.C_Effect, .ref T.C_Effect, true, rfl, .own _, T.x_Effect.ty g1, T.x_Effect.me, ?_⟩
      walk_at "sx"
      refine ⟨_, _, _, h1, T.cl_Effect, T.na_Effect_begin_page, _, lk_begin _ _ _, ?_⟩
      refine ⟨_, _, _, g1, T.cl_Effect, T.na_Effect_begin_page, _, lk_begin _ _ _, ?_⟩
      refine ⟨_, _, dBeg hb, dBeg hb2, shp_dF u, shp_dF u2, ?_⟩
      rw [eqv_dF hb hb2]
      refine ⟨_, rfl, ?_⟩
      by_cases c : u = u2
      · rw [decide_eq_true c, if_pos rfl]
        refine ⟨_, _, _, h1, T.cl_Effect, T.na_Effect_pairs, _, lk_pairs _ _ _, ?_⟩
        refine ⟨_, _, _, g1, T.cl_Effect, T.na_Effect_pairs, _, lk_pairs _ _ _, ?_⟩
        refine ⟨_, _, .tup (.inl (.inl h2)) (dp_pairs h3 h4), .tup (.inl (.inl g2)) (dp_pairs g3 g4), shp_tup _, shp_tup _, ?_⟩
        rw [eqv_tup]
        have e : decide (u = u2 ∧ exs row = exs row2) = decide (exs row = exs row2) := decide_eq_decide.mpr ⟨fun h => h.2, fun h => ⟨c, h⟩⟩
        rw [e] at q
        exact q
      · rw [decide_eq_false c, if_neg (by decide)]
        have e : decide (u = u2 ∧ exs row = exs row2) = false := decide_eq_false fun h => c h.1
        rw [e] at q
        exact q
def spAddE (C : Addr) (K : PySem.W.Frag) : Sp := fun vs H Q _ => ∃ (x y : Addr) (row row2 : List Int), vs = [.ref x, .ref y] ∧ EffAt C H x (firstV row) (exs row) ∧ EffAt C H y (firstV row2) (exs row2) ∧ Pg 40 row ∧ Pg 40 row2 ∧ ∀ z H', H z = none → Ex H H' → EffAt C H' z (firstV (row ++ row2)) (exs (row ++ row2)) → Q (.ref z) H'
theorem getI_snoc (l : List (Int × Int)) (p q z : Int) : getI (l ++ [(p, q)]) z = match getI l z with | some w => some w | none => if z = p then some q else none := by
  unfold getI
  rw [List.find?_append]
  cases c : l.find? fun q => decide (q.1 = z) with
  | some w => rfl
  | none =>
    by_cases e : z = p
    · subst e; simp
    · have : ¬ p = z := fun w => e w.symm
      simp [this, e]
theorem getI_in {l : List (Int × Int)} {p w : Int} (h : getI l p = some w) : (p, w) ∈ l := by
  unfold getI at h
  cases c : l.find? fun q => decide (q.1 = p) with
  | none => rw [c] at h; cases h
  | some g =>
    rw [c] at h
    have e0 := List.find?_some (p := fun q : Int × Int => decide (q.1 = p)) c
    have e1 : g.1 = p := of_decide_eq_true e0
    have e2 : g.2 = w := Option.some.inj h
    have := List.mem_of_find?_eq_some c
    rw [← e1, ← e2]
    exact this
def JA1 (H1 : Hp) (x y c : Addr) (row : List Int) (b : Int) (i : Nat) (σ' : L2.St) (H' : Hp) : Prop := ∃ l3 l4 qs, σ' = [some (.ref x), some (.ref y), some (.ref c), l3, l4] ∧ Ex H1 H' ∧ H' c = some (.dK ((qs : List (Int × Int)).map itK)) ∧ (qs.map (·.1)).Nodup ∧ qs.length ≤ 40 + i ∧ ∀ z, getI qs z = (nx row z).map fun w => if w = z ∧ (z, z) ∈ (exs row).take i then b else w
def JA2 (H1 : Hp) (x y c : Addr) (row row2 : List Int) (b : Int) (i : Nat) (σ' : L2.St) (H' : Hp) : Prop := ∃ l3 l4 qs, σ' = [some (.ref x), some (.ref y), some (.ref c), l3, l4] ∧ Ex H1 H' ∧ H' c = some (.dK ((qs : List (Int × Int)).map itK)) ∧ (qs.map (·.1)).Nodup ∧ qs.length ≤ 80 + i ∧ ∀ z, getI qs z = match getI ((exs row2).take i) z with | some w => some w | none => (nx row z).map fun w => if w = z then b else w
end
end LW

set_option Elab.async false
set_option linter.all false
set_option maxRecDepth 100000
set_option maxHeartbeats 4000000
namespace LW
open PySem PySem.Spec PyProof.Rows L2 BC Evl TR EF L2.DX
local macro_rules | `(tactic| walk_at "sx") => `(tactic| try simp only [x_seq, x_next, x_brk, x_cnt, x_nev, x_ret, x_retN, x_drop, x_ifS, x_asg, x_gn, x_gsub, x_par, x_par3, x_aug, x_for, x_lc, x_rng1, x_rng2, x_rng3, x_ilist, x_itup, x_ienum, x_izip, x_izipA, x_istr, x_var, x_c, x_op, x_un, x_test, x_b, x_chain, x_and, x_or, x_not, x_andV, x_orV, x_notV, x_ife, x_nil, x_cons, x_lst, x_tup, x_cb, x_call, x_callK, x_bm, x_bm0, x_tru, x_sl, x_nopart, x_part, x_revL, x_I0, x_I, x_U, x_ip, x_ipC, x_eqI, x_neI, x_eqB, x_neB, x_eqS, x_neS, x_isB, x_isNB, x_lrg, x_gall, x_lenSet, x_lenSetC, x_augS, x_sortSet, x_rg1, x_rg2, x_dnewK, x_dnewT, x_dget, x_dget1, x_dget2, x_din, x_dnotin, x_dput, x_ikeys, x_ghead, x_fld, x_sfld, x_prop, x_meth, x_make, x_dc,
  L2.start, List.map_cons, List.map_nil, List.length_cons, List.length_nil, Nat.reduceAdd, Nat.reduceSub, Nat.sub_self, Nat.zero_add, List.replicate, List.replicate_succ, List.replicate_zero, List.append_nil, List.cons_append, List.nil_append, List.set_cons_zero, List.set_cons_succ, List.getElem?_cons_zero, List.getElem?_cons_succ, Option.some.injEq, V.int.injEq, V.bl.injEq, V.ref.injEq, V.str.injEq, List.cons.injEq, and_true, true_and, exists_eq_left', exists_eq_left, exists_and_left, exists_eq, if_true, if_false, ite_true, ite_false, Bool.true_eq_false, Bool.false_eq_true, reduceIte, reduceCtorEq, Bool.not_true, Bool.not_false, decide_true, decide_false, decide_eq_true_eq, Bool.and_true, Bool.true_and, Bool.and_self, Bool.and_false, Bool.false_and, Bool.or_self, Bool.or_false, Bool.false_or, Bool.or_true, Bool.true_or, eq_self])
section
variable {P : Program} {w : World} {K : PySem.W.Frag} {mg : Str → Option Value} {base : Heap}
open FO (Fo)
def rtV : Option Nat → V
  | none => .non
  | some r => .int r
/-- a forest at x, its marks at l -/
def FoAt (C : Addr) (H : Hp) (x l : Addr) (m : Nat) (F : Fo) : Prop := ∃ dx, H x = some (.ins C dx [("many", .int m), ("marks", .ref l), ("root_mark", rtV F.rt)]) ∧ H l = some (.lst ((nz F.ms).map V.int))
theorem FoAt.ex {C : Addr} {H H' : Hp} {x l : Addr} {m : Nat} {F : Fo} (h : FoAt C H x l m F) (e : Ex H H') : FoAt C H' x l m F := by
  obtain ⟨dx, h1, h2⟩ := h
  exact ⟨dx, e _ _ h1, e _ _ h2⟩
theorem fk_many (a b c : V) : ([("many", a), ("marks", b), ("root_mark", c)] : List (Str × V)).lookup ("many" : Str) = some a := by
  simp [List.lookup]
theorem fk_marks (a b c : V) : ([("many", a), ("marks", b), ("root_mark", c)] : List (Str × V)).lookup ("marks" : Str) = some b := by
  have k1 : (("marks" : Str) == "many") = false := by decide +kernel
  simp [List.lookup, k1]
theorem fk_root (a b c : V) : ([("many", a), ("marks", b), ("root_mark", c)] : List (Str × V)).lookup ("root_mark" : Str) = some c := by
  have k1 : (("root_mark" : Str) == "many") = false := by decide +kernel
  have k2 : (("root_mark" : Str) == "marks") = false := by decide +kernel
  simp [List.lookup, k1, k2]
theorem fp_all (a b c : V) : putF "root_mark" c (putF "marks" b (putF "many" a [])) = ([("many", a), ("marks", b), ("root_mark", c)] : List (Str × V)) := by
  have k1 : ¬ (("many" : Str) = "marks") := by decide +kernel
  have k2 : ¬ (("many" : Str) = "root_mark") := by decide +kernel
  have k3 : ¬ (("marks" : Str) = "root_mark") := by decide +kernel
  simp [putF, k1, k2, k3]
theorem fp_marks (a b c d : V) : putF "marks" d [("many", a), ("marks", b), ("root_mark", c)] = ([("many", a), ("marks", d), ("root_mark", c)] : List (Str × V)) := by
  have k1 : ¬ (("many" : Str) = "marks") := by decide +kernel
  have k3 : ¬ (("root_mark" : Str) = "marks") := by decide +kernel
  simp [putF, k1, k3]
theorem fp_root (a b c d : V) : putF "root_mark" d [("many", a), ("marks", b), ("root_mark", c)] = ([("many", a), ("marks", b), ("root_mark", d)] : List (Str × V)) := by
  have k1 : ¬ (("many" : Str) = "root_mark") := by decide +kernel
  have k3 : ¬ (("marks" : Str) = "root_mark") := by decide +kernel
  simp [putF, k1, k3]
def spPower : Sp := fun vs H Q _ => ∃ n t : Nat, vs = [.int n, .int t] ∧ n ≤ 4 ∧ t ≤ 4 ∧ Q (.int ((n ^ t : Nat) : Int)) H
def JPw (H : Hp) (n t : Nat) (i : Nat) (σ' : L2.St) (H' : Hp) : Prop := ∃ l3, σ' = [some (.int n), some (.int t), some (.int ((n ^ i : Nat) : Int)), l3] ∧ H' = H
theorem pow_256 {n i : Nat} (h : n ≤ 4) (hi : i ≤ 4) : n ^ i ≤ 256 := Nat.le_trans (Nat.pow_le_pow_left h i) (Nat.pow_le_pow_right (by omega) hi)
theorem ok_power (T : Txt K mg) : FnOk P w K mg base CX0 1 T.f_power T.fd_power ["number", "times"] spPower := by
  refine T.F_power.ok sc_power (fun vs H Q E h => ?_) (fun cdv A outer s H vs Q E hr h => ?_)
  · obtain ⟨n, t, rfl, _⟩ := h
    rfl
  · obtain ⟨n, t, rfl, h1, h2, k⟩ := h
    apply Exists.intro
    apply And.intro
    · apply pss_cons
      · exact (ps_set (i := 2) sc_power.nd rfl (.inl rfl) pe_int)
      apply pss_cons
      · apply ps_for PassesOwn.never rfl
        · exact (pi_range1 (by rfl) T.n_range (pa_cons (pv 1) pa_nil))
        · exact (pg_name (i := 3) sc_power.nd rfl (.inl rfl))
        · apply pss_one
          exact (ps_aug (i := 2) sc_power.nd rfl (.inl rfl) (pv 0) ip_mulX)
      apply pss_one
      exact (ps_ret (pv 2))
    walk_at "sx"
    refine ⟨by omega, by omega, ?_⟩
    rw [Int.toNat_natCast]
    refine lg_rng (JPw H n t) ⟨none, rfl, rfl⟩ (fun i σ' H' hi hP => ?_) (fun σ' H' hP => ?_)
    · obtain ⟨l3, rfl, rfl⟩ := hP
      have b := pow_256 (n := n) (i := i) h1 (by omega)
      walk_at "sx"
      refine ⟨.inl (.inl ⟨by omega, by omega⟩), ?_⟩
      refine ⟨some (.int (0 + (i : Int))), ?_, rfl⟩
      rw [Nat.pow_succ, Int.natCast_mul]
    · obtain ⟨l3, rfl, rfl⟩ := hP
      walk_at "sx"
      exact k
theorem rg_new : ∀ m : Nat, m ≤ 4 → rgV 0 m = (nz (List.range m)).map V.int
  | 0, _ => by decide +kernel
  | 1, _ => by decide +kernel
  | 2, _ => by decide +kernel
  | 3, _ => by decide +kernel
  | 4, _ => by decide +kernel
  | n + 5, h => absurd h (by omega)
theorem fl_1 (a : V) : (putF "many" a ([] : List (Str × V))).length < 1000 := by
  simp [putF]
theorem fl_2 (a b : V) : (putF "marks" b (putF "many" a ([] : List (Str × V)))).length < 1000 := by
  have k1 : ¬ (("many" : Str) = "marks") := by decide +kernel
  simp [putF, k1]
theorem nd_dups : ∀ (n : Nat) (l : List Nat), l.length ≤ n → l.eraseDups.Nodup
  | _, [], _ => by rw [List.eraseDups_nil]; exact List.nodup_nil
  | 0, a :: l, h => by rw [List.length_cons] at h; omega
  | n + 1, a :: l, h => by
    rw [List.eraseDups_cons, List.nodup_cons]
    refine ⟨fun m => ?_, nd_dups n _ (Nat.le_trans (List.length_filter_le _ _) (by rw [List.length_cons] at h; omega))⟩
    rw [List.mem_eraseDups, List.mem_filter] at m
    simp at m
theorem dup_count (l : List Nat) (ks : List Int) (nd : ks.Nodup) (h : ∀ x, x ∈ ks ↔ x ∈ nz l) : ks.length = l.eraseDups.length := by
  have nd2 : (nz l.eraseDups).Nodup := by
    unfold nz List.Nodup
    rw [List.pairwise_map]
    exact (nd_dups _ l (Nat.le_refl _)).imp fun {a b} (h : a ≠ b) e => h (Int.ofNat.inj e)
  have m2 : ∀ x, x ∈ nz l.eraseDups ↔ x ∈ nz l := fun x => by
    unfold nz
    rw [List.mem_map, List.mem_map]
    constructor
    · rintro ⟨y, hy, e⟩
      exact ⟨y, List.mem_eraseDups.mp hy, e⟩
    · rintro ⟨y, hy, e⟩
      exact ⟨y, List.mem_eraseDups.mpr hy, e⟩
  have a := sub_len nd fun x hx => (m2 x).mpr ((h x).mp hx)
  have b := sub_len nd2 fun x hx => (h x).mpr ((m2 x).mp hx)
  rw [nz_len] at a b
  omega
theorem nz_count (r : Nat) : ∀ L : List Nat, (nz L).count (r : Int) = L.count r
  | [] => rfl
  | x :: L => by
    show ((x : Int) :: nz L).count (r : Int) = _
    rw [List.count_cons, List.count_cons, nz_count r L]
    congr 1
    by_cases h : x = r
    · subst h; simp
    · have : ¬ ((x : Int) = (r : Int)) := by omega
      simp [h, this]
theorem gd_at {L : List Nat} {i : Nat} (h : i < L.length) : L[i]? = some (L.getD i 0) := by
  rw [List.getD_eq_getElem?_getD, List.getElem?_eq_getElem h]
  rfl
def spFInit (C : Addr) : Sp := fun vs H Q _ => ∃ (x dx : Addr) (m : Nat), vs = [.ref x, .int m] ∧ H x = some (.ins C dx []) ∧ m ≤ 4 ∧ ∀ l H', H l = none → (∀ b o, H b = some o → b ≠ x → H' b = some o) → FoAt C H' x l m (FO.new m) → Q .non H'
theorem ok_Forest___init (T : Txt K mg) : FnOk P w K mg base CX0 1 T.f_Forest___init T.fd_Forest___init ["self", "many"] (spFInit T.C_Forest) := by
  refine T.F_Forest___init.ok sc_Forest___init (fun vs H Q E h => ?_) (fun cdv A outer s H vs Q E hr h => ?_)
  · obtain ⟨x, dx, m, rfl, _⟩ := h
    rfl
  · obtain ⟨x, dx, m, rfl, hx, hm, k⟩ := h
    apply Exists.intro
    apply And.intro
    · apply pss_cons
      · exact (k_sfld (K := K) rfl (pv 0) (pv 1) rfl)
      apply pss_cons
      · exact (k_sfld (K := K) rfl (pv 0) (pe_listRg rfl (by rfl) T.n_list (prg_1 (by rfl) T.n_range (pv 1))) rfl)
      apply pss_one
      exact (k_sfld (K := K) rfl (pv 0) pe_non rfl)
    walk_at "sx"
    refine ⟨_, dx, _, hx, T.cl_Forest, T.na_Forest_many, by show 0 < 1000; omega, ⟨by omega, by omega, by omega, by omega, by omega⟩, fun q nq => ?_⟩
    have nqx : x ≠ q := ne_of_none upd_same nq
    have nqH : H q = none := by rw [upd_ne (Ne.symm nqx)] at nq; exact nq
    refine ⟨_, dx, _, by rw [upd_ne nqx, upd_same], T.cl_Forest, T.na_Forest_marks, fl_1 _, ?_⟩
    refine ⟨_, dx, _, upd_same, T.cl_Forest, T.na_Forest_root_mark, fl_2 _ _, ?_⟩
    refine k q _ nqH (fun b o hb nb => ?_) ⟨dx, ?_, ?_⟩
    · rw [upd_ne nb, upd_ne nb, upd_ne (ne_of_none hb nqH), upd_ne nb]
      exact hb
    · rw [upd_same, fp_all]
      rfl
    · rw [upd_ne (Ne.symm nqx), upd_ne (Ne.symm nqx), upd_same, rg_new m hm]
      rfl
def spAllows (C : Addr) : Sp := fun vs H Q _ => ∃ (x l : Addr) (m p q : Nat) (F : Fo), vs = [.ref x, .int p, .int q] ∧ FoAt C H x l m F ∧ p < F.ms.length ∧ q < F.ms.length ∧ Q (.bl (FO.allow F p q)) H
theorem ok_Forest_allows (T : Txt K mg) : FnOk P w K mg base CX0 1 T.f_Forest_allows T.fd_Forest_allows ["self", "page", "later"] (spAllows T.C_Forest) := by
  refine T.F_Forest_allows.ok sc_Forest_allows (fun vs H Q E h => ?_) (fun cdv A outer s H vs Q E hr h => ?_)
  · obtain ⟨x, l, m, p, q, F, rfl, _⟩ := h
    rfl
  · obtain ⟨x, l, m, p, q, F, rfl, hF, hp, hq, k⟩ := h
    apply Exists.intro
    apply And.intro
    · apply pss_cons
      · apply ps_if
        · exact (pt_cmpR op_eq (pv 1) (pv 2) (by rfl))
        · apply pss_one
          exact (ps_ret (pe_cmpR op_isN (k_fld (K := K) rfl (pv 0) rfl) pe_non (by rfl)))
        · exact pss_nil
      apply pss_one
      exact (ps_ret (pe_cmpR op_ne (pe_ix (k_ix_list (K := K) rfl) (k_fld (K := K) rfl (pv 0) rfl) (pv 1) (fun _ _ => rfl)) (pe_ix (k_ix_list (K := K) rfl) (k_fld (K := K) rfl (pv 0) rfl) (pv 2) (fun _ _ => rfl)) (by rfl)))
    walk_at "sx"
    obtain ⟨dx, h1, h2⟩ := hF
    by_cases e : p = q
    · subst e
      rw [if_pos rfl]
      refine ⟨_, _, _, h1, T.cl_Forest, T.na_Forest_root_mark, _, fk_root _ _ _, ?_⟩
      have e2 : decide (rtV F.rt = V.non) = FO.allow F p p := by
        unfold FO.allow
        rw [if_pos rfl]
        cases F.rt <;> simp [rtV]
      rw [e2]
      exact k
    · rw [if_neg (by omega)]
      refine ⟨_, _, _, h1, T.cl_Forest, T.na_Forest_marks, _, fk_marks _ _ _, ?_⟩
      refine ixL (.inl (.inl h2)) (atI_n rfl (nz_at (gd_at hp))) ?_
      refine ⟨_, _, _, h1, T.cl_Forest, T.na_Forest_marks, _, fk_marks _ _ _, ?_⟩
      refine ixL (.inl (.inl h2)) (atI_n rfl (nz_at (gd_at hq))) ?_
      walk_at "sx"
      have e2 : FO.allow F p q = !decide (((F.ms.getD p 0 : Nat) : Int) = ((F.ms.getD q 0 : Nat) : Int)) := by
        unfold FO.allow
        rw [if_neg e]
        by_cases c : F.ms.getD p 0 = F.ms.getD q 0
        · rw [c]; simp
        · have c2 : ¬ (((F.ms.getD p 0 : Nat) : Int) = ((F.ms.getD q 0 : Nat) : Int)) := by omega
          rw [decide_eq_true c, decide_eq_false c2]
          rfl
      rw [e2] at k
      exact k
theorem choose_len (F : Fo) (p q : Nat) : (FO.choose F p q).ms.length = F.ms.length := by
  unfold FO.choose
  split
  · rfl
  · exact List.length_map _
theorem fk_other {f : Str} (a b c : V) (k1 : (f == "many") = false) (k2 : (f == "marks") = false) (k3 : (f == "root_mark") = false) : ([("many", a), ("marks", b), ("root_mark", c)] : List (Str × V)).lookup f = none := by
  simp [List.lookup, k1, k2, k3]
def spChoose (C : Addr) : Sp := fun vs H Q _ => ∃ (x l : Addr) (m p q : Nat) (F : Fo), vs = [.ref x, .int p, .int q] ∧ FoAt C H x l m F ∧ p < F.ms.length ∧ q < F.ms.length ∧ F.ms.length ≤ 4 ∧ ∀ l2 H', (l2 = l ∨ H l2 = none) → (∀ b o, H b = some o → b ≠ x → H' b = some o) → FoAt C H' x l2 m (FO.choose F p q) → Q .non H'
theorem ok_Forest_choose (T : Txt K mg) : FnOk P w K mg base CX0 1 T.f_Forest_choose T.fd_Forest_choose ["self", "page", "later"] (spChoose T.C_Forest) := by
  refine T.F_Forest_choose.ok sc_Forest_choose (fun vs H Q E h => ?_) (fun cdv A outer s H vs Q E hr h => ?_)
  · obtain ⟨x, l, m, p, q, F, rfl, _⟩ := h
    rfl
  · obtain ⟨x, l, m, p, q, F, rfl, hF, hp, hq, hl, k⟩ := h
    apply Exists.intro
    apply And.intro
    · apply pss_one
      apply ps_if
      · exact (pt_cmpR op_eq (pv 1) (pv 2) (by rfl))
      · apply pss_one
        exact (k_sfld (K := K) rfl (pv 0) (pe_ix (k_ix_list (K := K) rfl) (k_fld (K := K) rfl (pv 0) rfl) (pv 1) (fun _ _ => rfl)) rfl)
      · apply pss_cons
        · exact (ps_asg (pe_tup (pa_cons (pe_ix (k_ix_list (K := K) rfl) (k_fld (K := K) rfl (pv 0) rfl) (pv 1) (fun _ _ => rfl)) (pa_cons (pe_ix (k_ix_list (K := K) rfl) (k_fld (K := K) rfl (pv 0) rfl) (pv 2) (fun _ _ => rfl)) pa_nil))) (k_tup (K := K) (n := 2) rfl rfl (pgs_cons (pg_name (i := 3) sc_Forest_choose.nd rfl (.inr rfl)) (pgs_cons (pg_name (i := 4) sc_Forest_choose.nd rfl (.inr rfl)) pgs_nil))))
        apply pss_one
        exact (k_sfld (K := K) rfl (pv 0) (pe_lc (own := [("mark", 5)]) rfl sc_Forest_choose.nd (k_pi_list (K := K) rfl (k_fld (K := K) rfl (pv 0) rfl)) (blkOk_by (own := [("mark", 5)]) (N := ["self", "page", "later", "old", "new", "mark"]) (sc := defScope s_Forest_choose) (by decide +kernel)) (fun _ _ _ _ _ => by exact (pg_name (i := 5) sc_Forest_choose.nd rfl (.inl rfl))) (fun _ _ _ _ _ => by exact pts_nil) (fun _ _ _ _ _ => by exact (pe_ifExp (pt_cmpR op_eq (pv 5) (pv 3) (by rfl)) (pv 4) (pv 5)))) rfl)
    walk_at "sx"
    obtain ⟨dx, h1, h2⟩ := hF
    have nlx : l ≠ x := ne_of h2 h1 (by intro z; cases z)
    by_cases e : p = q
    · subst e
      rw [if_pos rfl]
      refine ⟨_, _, _, h1, T.cl_Forest, T.na_Forest_marks, _, fk_marks _ _ _, ?_⟩
      refine ixL (.inl (.inl h2)) (atI_n rfl (nz_at (gd_at hp))) ?_
      refine ⟨_, _, _, h1, T.cl_Forest, T.na_Forest_root_mark, by show 3 < 1000; omega, ?_⟩
      rw [fp_root]
      refine k l _ (.inl rfl) (fun b o hb nb => by rw [upd_ne nb]; exact hb) ⟨dx, ?_, ?_⟩
      · rw [upd_same]
        unfold FO.choose
        rw [if_pos rfl]
        rfl
      · rw [upd_ne nlx, h2]
        unfold FO.choose
        rw [if_pos rfl]
    · rw [if_neg (by omega)]
      refine ⟨_, _, _, h1, T.cl_Forest, T.na_Forest_marks, _, fk_marks _ _ _, ?_⟩
      refine ixL (.inl (.inl h2)) (atI_n rfl (nz_at (gd_at hp))) ?_
      refine ⟨_, _, _, h1, T.cl_Forest, T.na_Forest_marks, _, fk_marks _ _ _, ?_⟩
      refine ixL (.inl (.inl h2)) (atI_n rfl (nz_at (gd_at hq))) ?_
      refine ⟨sz_ok (by omega), fun tp ntp => g_two upd_same ?_⟩
      have et := Ex.new ntp (o := .tup [V.int (F.ms.getD p 0 : Nat), V.int (F.ms.getD q 0 : Nat)])
      have h1t := et _ _ h1
      have h2t := et _ _ h2
      generalize upd H tp (.tup [V.int (F.ms.getD p 0 : Nat), V.int (F.ms.getD q 0 : Nat)]) = H1 at et h1t h2t ⊢
      walk_at "sx"
      refine ⟨_, _, _, h1t, T.cl_Forest, T.na_Forest_marks, _, fk_marks _ _ _, ?_⟩
      refine ⟨l, rfl, ⟨_, .inl (.inl h2t)⟩, fun D nD => ?_⟩
      refine lc_list (xs := (nz F.ms).map V.int) (fun _ => true) (fun i => V.int (((FO.choose F p q).ms.getD i 0 : Nat) : Int)) (.inl (.inl h2t)) nD (by rw [List.length_map, nz_len]; omega) (fun u => rfl) (fun i x _ => tyes) (fun i v hv _ => ?_) (fun H2 e2 hD => ?_)
      · obtain ⟨y, hy, rfl⟩ := at_nz hv
        have hcv : (FO.choose F p q).ms.getD i 0 = if y = F.ms.getD p 0 then F.ms.getD q 0 else y := by
          unfold FO.choose
          rw [if_neg e]
          show (F.ms.map _).getD i 0 = _
          rw [List.getD_eq_getElem?_getD, List.getElem?_map, hy]
          rfl
        rw [hcv]
        intro Hz ez R hR
        walk_at "sx"
        refine ⟨_, rfl, _, rfl, rfl, _, rfl, ?_⟩
        by_cases c : y = F.ms.getD p 0
        · rw [if_pos c] at hR
          rw [if_pos (decide_eq_true (by rw [c]))]
          exact ⟨_, rfl, hR _ (Ex.refl _)⟩
        · rw [if_neg c] at hR
          rw [if_neg (by rw [decide_eq_true_eq]; intro z; exact c (Int.ofNat.inj (V.int.inj z)))]
          exact ⟨_, rfl, hR _ (Ex.refl _)⟩
      · rw [kept_all] at hD
        have hlen := choose_len F p q
        have eD : (List.range ((nz F.ms).map V.int).length).map (fun i => V.int (((FO.choose F p q).ms.getD i 0 : Nat) : Int)) = (nz (FO.choose F p q).ms).map V.int := by
          rw [List.length_map, nz_len]
          apply List.ext_getElem?
          intro i
          rw [List.getElem?_map]
          by_cases c : i < F.ms.length
          · rw [List.getElem?_range c, nz_at (gd_at (by omega))]
            rfl
          · rw [List.getElem?_eq_none (by rw [List.length_range]; omega), List.getElem?_eq_none (by rw [List.length_map, nz_len]; omega)]
            rfl
        rw [eD] at hD
        have nD0 : H D = none := fresh_back et nD
        have h1D := e2 _ _ h1t
        have nxD : D ≠ x := ne_of hD h1D (by intro z; cases z)
        refine ⟨_, _, _, h1D, T.cl_Forest, T.na_Forest_marks, by show 3 < 1000; omega, ?_⟩
        rw [fp_marks]
        refine k D _ (.inr nD0) (fun b o hb nb => by rw [upd_ne nb]; exact e2 _ _ (et _ _ hb)) ⟨dx, ?_, by rw [upd_ne nxD]; exact hD⟩
        rw [upd_same]
        unfold FO.choose
        rw [if_neg e]
def spWays (C : Addr) : Sp := fun vs H Q _ => ∃ (x l : Addr) (m : Nat) (F : Fo), vs = [.ref x] ∧ FoAt C H x l m F ∧ F.ms.length ≤ 4 ∧ 0 < F.ms.length ∧ m ≤ 4 ∧ ∀ H', Ex H H' → Q (.int (FO.ways m F : Nat)) H'
theorem ok_Forest_ways (T : Txt K mg) : FnOk P w K mg base CX0 2 T.f_Forest_ways T.fd_Forest_ways ["self"] (spWays T.C_Forest) := by
  refine T.F_Forest_ways.ok sc_Forest_ways (fun vs H Q E h => ?_) (fun cdv A outer s H vs Q E hr h => ?_)
  · obtain ⟨x, l, m, F, rfl, _⟩ := h
    rfl
  · obtain ⟨x, l, m, F, rfl, hF, hl, h0, hm, k⟩ := h
    apply Exists.intro
    apply And.intro
    · apply pss_cons
      · exact (ps_set (i := 1) sc_Forest_ways.nd rfl (.inl rfl) (k_lenSetC (K := K) rfl (by rfl) T.n_len (by rfl) T.n_set (k_fld (K := K) rfl (pv 0) rfl)))
      apply pss_cons
      · apply ps_if
        · exact (pt_cmpR op_isN (k_fld (K := K) rfl (pv 0) rfl) pe_non (by rfl))
        · apply pss_one
          exact (ps_ret (pe_call (ok_power T) (hr.mono (by decide)) (by rfl) T.m_power T.F_power.kp T.b_power .nil pass0 (pa_cons (k_fld (K := K) rfl (pv 0) rfl) (pa_cons (pe_op op_sub (pv 1) pe_int) pa_nil))))
        · exact pss_nil
      apply pss_one
      exact (ps_ret (pe_ifExp (pt_cmpR op_eq (pv 1) pe_int (by rfl)) pe_int (pe_op op_mulX (k_bm (K := K) rfl (pe_bm PySem.F.plainAttrs_list PySem.F.slot_list_count PySem.F.type_list_count (k_lcount (K := K) rfl) (k_fld (K := K) rfl (pv 0) rfl) (pa_cons (k_fld (K := K) rfl (pv 0) rfl) pa_nil))) (pe_call (ok_power T) (hr.mono (by decide)) (by rfl) T.m_power T.F_power.kp T.b_power .nil pass0 (pa_cons (k_fld (K := K) rfl (pv 0) rfl) (pa_cons (pe_op op_sub (pv 1) pe_int) pa_nil))))))
    walk_at "sx"
    obtain ⟨dx, h1, h2⟩ := hF
    refine ⟨_, _, _, h1, T.cl_Forest, T.na_Forest_marks, _, fk_marks _ _ _, ?_⟩
    refine ⟨l, rfl, nz F.ms, .inl (.inl h2), by rw [nz_len]; omega, fun ks k1 k2 k3 => ?_⟩
    have ek : ks.length = FO.parts F := dup_count F.ms ks k1 k2
    rw [nz_len] at k3
    have e1 : 1 ≤ FO.parts F := by
      unfold FO.parts
      refine List.length_pos_of_mem (a := F.ms.getD 0 0) (List.mem_eraseDups.mpr ?_)
      exact List.mem_of_getElem? (gd_at h0)
    rw [ek] at k3 ⊢
    have hw := k H (Ex.refl _)
    unfold FO.ways at hw
    refine ⟨_, _, _, h1, T.cl_Forest, T.na_Forest_root_mark, _, fk_root _ _ _, ?_⟩
    cases hr0 : F.rt with
    | none =>
      rw [hr0] at hw
      rw [if_pos (by rfl)]
      refine ⟨_, _, _, h1, T.cl_Forest, T.na_Forest_many, _, fk_many _ _ _, ?_⟩
      exact ⟨m, FO.parts F - 1, by rw [show ((FO.parts F : Nat) : Int) - 1 = ((FO.parts F - 1 : Nat) : Int) by omega], hm, by omega, hw⟩
    | some r =>
      rw [hr0] at hw
      simp only [] at hw
      rw [if_neg (by intro z; cases z)]
      by_cases q1 : FO.parts F = 1
      · rw [if_pos q1] at hw
        rw [if_pos (by omega)]
        exact hw
      · rw [if_neg q1] at hw
        rw [if_neg (by omega)]
        refine ⟨_, _, _, h1, T.cl_Forest, T.na_Forest_marks, _, fk_marks _ _ _, tyL h2, ?_⟩
        refine ⟨_, _, _, h1, T.cl_Forest, T.na_Forest_root_mark, _, fk_root _ _ _, ?_⟩
        rw [hr0]
        refine ⟨l, nz F.ms, (r : Int), rfl, rfl, .inl (.inl h2), ?_⟩
        rw [nz_count]
        refine ⟨_, _, _, h1, T.cl_Forest, T.na_Forest_many, _, fk_many _ _ _, ?_⟩
        refine ⟨m, FO.parts F - 2, by rw [show ((FO.parts F : Nat) : Int) - 2 = ((FO.parts F - 2 : Nat) : Int) by omega], hm, by omega, ?_⟩
        walk_at "sx"
        have b1 := pow_256 (n := m) (i := FO.parts F - 2) hm (by omega)
        have b2 : F.ms.count r ≤ F.ms.length := List.count_le_length
        rw [Int.natCast_mul] at hw
        exact ⟨.inl (.inl ⟨by omega, by omega⟩), hw⟩
def spWith (C : Addr) : Sp := fun vs H Q _ => ∃ (x l : Addr) (m p q : Nat) (F : Fo), vs = [.ref x, .int p, .int q] ∧ FoAt C H x l m F ∧ p < F.ms.length ∧ q < F.ms.length ∧ F.ms.length ≤ 4 ∧ m ≤ 4 ∧ ∀ H', Ex H H' → Q (.int (FO.ways m (FO.choose F p q) : Nat)) H'
theorem ok_Forest_ways_with (T : Txt K mg) : FnOk P w K mg base CX0 4 T.f_Forest_ways_with T.fd_Forest_ways_with ["self", "page", "later"] (spWith T.C_Forest) := by
  refine T.F_Forest_ways_with.ok sc_Forest_ways_with (fun vs H Q E h => ?_) (fun cdv A outer s H vs Q E hr h => ?_)
  · obtain ⟨x, l, m, p, q, F, rfl, _⟩ := h
    rfl
  · obtain ⟨x, l, m, p, q, F, rfl, hF, hp, hq, hl, hm, k⟩ := h
    apply Exists.intro
    apply And.intro
    · apply pss_cons
      · exact (ps_set (i := 3) sc_Forest_ways_with.nd rfl (.inl rfl) (pe_make T.M_Forest (ok_Forest___init T) (hr.mono (by decide)) (by rfl) T.g_Forest T.b_Forest___init .nil pass0 (pa_cons (k_fld (K := K) rfl (pv 0) rfl) pa_nil)))
      apply pss_cons
      · exact (k_sfld (K := K) rfl (pv 3) (pe_callTy (k_listOf (K := K) rfl) (by rfl) T.n_list (by decide +kernel) (pa_cons (k_fld (K := K) rfl (pv 0) rfl) pa_nil)) rfl)
      apply pss_cons
      · exact (k_sfld (K := K) rfl (pv 3) (k_fld (K := K) rfl (pv 0) rfl) rfl)
      apply pss_cons
      · exact (ps_expr (pe_meth (pv 3) T.cl_Forest T.m_Forest_choose (ok_Forest_choose T) (hr.mono (by decide)) T.b_Forest_choose .nil pass0 (pa_cons (pv 1) (pa_cons (pv 2) pa_nil))))
      apply pss_one
      exact (ps_ret (pe_meth0 (pv 3) T.cl_Forest T.m_Forest_ways (ok_Forest_ways T) (hr.mono (by decide)) T.b_Forest_ways .nil pass0))
    walk_at "sx"
    obtain ⟨dx, h1, h2⟩ := hF
    have nlx : l ≠ x := ne_of h2 h1 (by intro z; cases z)
    refine ⟨_, _, _, h1, T.cl_Forest, T.na_Forest_many, _, fk_many _ _ _, fun y dy ny ndy hne => ?_⟩
    have nyx : x ≠ y := ne_of_none h1 ny
    have nyl : l ≠ y := ne_of_none h2 ny
    refine ⟨y, dy, m, rfl, upd_same, hm, fun l0 H1 nl0 hk hN => ?_⟩
    have kH : ∀ b o, H b = some o → H1 b = some o := fun b o hb => hk b o (by rw [upd_ne (ne_of_none hb ny), upd_ne (ne_of_none hb ndy)]; exact hb) (ne_of_none hb ny)
    refine ⟨rfl, ?_⟩
    refine ⟨_, _, _, kH _ _ h1, T.cl_Forest, T.na_Forest_marks, _, fk_marks _ _ _, ?_⟩
    refine ⟨l, _, rfl, .inl (.inl (.inl (kH _ _ h2))), fun l1 nl1 => ?_⟩
    obtain ⟨dN, n1, n2⟩ := hN
    have nl1y : y ≠ l1 := ne_of_none n1 nl1
    refine ⟨_, _, _, by rw [upd_ne nl1y]; exact n1, T.cl_Forest, T.na_Forest_marks, by show 3 < 1000; omega, ?_⟩
    rw [fp_marks]
    have gx : (upd (upd H1 l1 (.lst ((nz F.ms).map V.int))) y (.ins T.C_Forest dN [("many", .int m), ("marks", .ref l1), ("root_mark", rtV (FO.new m).rt)])) x = some (.ins T.C_Forest dx [("many", .int m), ("marks", .ref l), ("root_mark", rtV F.rt)]) := by
      rw [upd_ne nyx, upd_ne (ne_of_none (kH _ _ h1) nl1)]
      exact kH _ _ h1
    have gy : (upd (upd H1 l1 (.lst ((nz F.ms).map V.int))) y (.ins T.C_Forest dN [("many", .int m), ("marks", .ref l1), ("root_mark", rtV (FO.new m).rt)])) y = some (.ins T.C_Forest dN [("many", .int m), ("marks", .ref l1), ("root_mark", rtV (FO.new m).rt)]) := upd_same
    have gl : (upd (upd H1 l1 (.lst ((nz F.ms).map V.int))) y (.ins T.C_Forest dN [("many", .int m), ("marks", .ref l1), ("root_mark", rtV (FO.new m).rt)])) l1 = some (.lst ((nz F.ms).map V.int)) := by rw [upd_ne (Ne.symm nl1y), upd_same]
    have kG : ∀ b o, H b = some o → (upd (upd H1 l1 (.lst ((nz F.ms).map V.int))) y (.ins T.C_Forest dN [("many", .int m), ("marks", .ref l1), ("root_mark", rtV (FO.new m).rt)])) b = some o := fun b o hb => by
      rw [upd_ne (ne_of_none hb ny), upd_ne (ne_of_none (kH _ _ hb) nl1)]
      exact kH _ _ hb
    generalize (upd (upd H1 l1 (.lst ((nz F.ms).map V.int))) y (.ins T.C_Forest dN [("many", .int m), ("marks", .ref l1), ("root_mark", rtV (FO.new m).rt)])) = G at gx gy gl kG ⊢
    refine ⟨_, _, _, gx, T.cl_Forest, T.na_Forest_root_mark, _, fk_root _ _ _, ?_⟩
    refine ⟨_, _, _, gy, T.cl_Forest, T.na_Forest_root_mark, by show 3 < 1000; omega, ?_⟩
    rw [fp_root]
    refine ⟨dN, _, upd_same, fk_other _ _ _ (by decide +kernel) (by decide +kernel) (by decide +kernel), ?_⟩
    refine ⟨y, l1, m, p, q, F, rfl, ⟨dN, upd_same, by rw [upd_ne (Ne.symm nl1y)]; exact gl⟩, hp, hq, hl, fun l2 H2 _ hk2 hF2 => ?_⟩
    have hcl := choose_len F p q
    obtain ⟨d2, f1, f2⟩ := hF2
    refine ⟨_, _, f1, fk_other _ _ _ (by decide +kernel) (by decide +kernel) (by decide +kernel), ?_⟩
    exact ⟨y, l2, m, FO.choose F p q, rfl, ⟨d2, f1, f2⟩, by omega, by omega, hm, fun H3 e3 => k _ (fun b o hb => e3 _ _ (hk2 b o (by rw [upd_ne (ne_of_none hb ny)]; exact kG b o hb) (ne_of_none hb ny)))⟩
end
end LW

set_option Elab.async false
set_option linter.all false
set_option maxRecDepth 100000
set_option maxHeartbeats 4000000
namespace LW
open PySem PySem.Spec PyProof.Rows L2 BC Evl TR EF L2.DX
local macro_rules | `(tactic| walk_at "sx") => `(tactic| try simp only [x_seq, x_next, x_brk, x_cnt, x_nev, x_ret, x_retN, x_drop, x_ifS, x_asg, x_gn, x_gsub, x_par, x_par3, x_aug, x_for, x_lc, x_rng1, x_rng2, x_rng3, x_ilist, x_itup, x_ienum, x_izip, x_izipA, x_istr, x_var, x_c, x_op, x_un, x_test, x_b, x_chain, x_and, x_or, x_not, x_andV, x_orV, x_notV, x_ife, x_nil, x_cons, x_lst, x_tup, x_cb, x_call, x_callK, x_bm, x_bm0, x_tru, x_sl, x_nopart, x_part, x_revL, x_I0, x_I, x_U, x_ip, x_ipC, x_eqI, x_neI, x_eqB, x_neB, x_eqS, x_neS, x_isB, x_isNB, x_lrg, x_gall, x_lenSet, x_lenSetC, x_augS, x_sortSet, x_rg1, x_rg2, x_dnewK, x_dnewT, x_dget, x_dget1, x_dget2, x_din, x_dnotin, x_dput, x_ikeys, x_ghead, x_fld, x_sfld, x_prop, x_meth, x_make, x_dc,
  L2.start, List.map_cons, List.map_nil, List.length_cons, List.length_nil, Nat.reduceAdd, Nat.reduceSub, Nat.sub_self, Nat.zero_add, List.replicate, List.replicate_succ, List.replicate_zero, List.append_nil, List.cons_append, List.nil_append, List.set_cons_zero, List.set_cons_succ, List.getElem?_cons_zero, List.getElem?_cons_succ, Option.some.injEq, V.int.injEq, V.bl.injEq, V.ref.injEq, V.str.injEq, List.cons.injEq, and_true, true_and, exists_eq_left', exists_eq_left, exists_and_left, exists_eq, if_true, if_false, ite_true, ite_false, Bool.true_eq_false, Bool.false_eq_true, reduceIte, reduceCtorEq, Bool.not_true, Bool.not_false, decide_true, decide_false, decide_eq_true_eq, Bool.and_true, Bool.true_and, Bool.and_self, Bool.and_false, Bool.false_and, Bool.or_self, Bool.or_false, Bool.false_or, Bool.or_true, Bool.true_or, eq_self])
section
variable {P : Program} {w : World} {K : PySem.W.Frag} {mg : Str → Option Value} {base : Heap}
open FO (Fo)
theorem ok_number_of_effects (T : Txt K mg) : FnOk P w K mg base CX0 2 T.f_number_of_effects T.fd_number_of_effects ["many"] (fun vs H Q _ => ∃ n : Nat, vs = [.int n] ∧ n ≤ 4 ∧ Q (.int ((n ^ n : Nat) : Int)) H) := by
  refine T.F_number_of_effects.ok sc_number_of_effects (fun vs H Q E h => ?_) (fun cdv A outer s H vs Q E hr h => ?_)
  · obtain ⟨n, rfl, _⟩ := h
    rfl
  · obtain ⟨n, rfl, h1, k⟩ := h
    apply Exists.intro
    apply And.intro
    · apply pss_one
      exact (ps_ret (pe_call (ok_power T) (hr.mono (by decide)) (by rfl) T.m_power T.F_power.kp T.b_power .nil pass0 (pa_cons (pv 0) (pa_cons (pv 0) pa_nil))))
    walk_at "sx"
    exact ⟨n, n, rfl, h1, h1, k⟩
def spCountE : Sp := fun vs H Q _ => ∃ n : Nat, vs = [.int n] ∧ 1 ≤ n ∧ n ≤ 4 ∧ Q (.int ((n ^ n : Nat) : Int)) H
theorem ok_count_effects (T : Txt K mg) : FnOk P w K mg base CX0 3 T.f_count_effects T.fd_count_effects ["many"] spCountE := by
  refine T.F_count_effects.ok sc_count_effects (fun vs H Q E h => ?_) (fun cdv A outer s H vs Q E hr h => ?_)
  · obtain ⟨n, rfl, _⟩ := h
    rfl
  · obtain ⟨n, rfl, h0, h1, k⟩ := h
    apply Exists.intro
    apply And.intro
    · apply pss_cons
      · exact (ps_expr (pe_call (ok_check_number T) (hr.mono (by decide)) (by rfl) T.m_check_number T.F_check_number.kp T.b_check_number .nil pass0 (pa_cons (pv 0) (pa_cons pe_int (pa_cons (pe_glob (v := .int 40) rfl T.c_MOST_PAGES ⟨_, rfl⟩) pa_nil)))))
      apply pss_one
      exact (ps_ret (pe_call (ok_number_of_effects T) (hr.mono (by decide)) (by rfl) T.m_number_of_effects T.F_number_of_effects.kp T.b_number_of_effects .nil pass0 (pa_cons (pv 0) pa_nil)))
    walk_at "sx"
    refine ⟨n, 1, 40, rfl, by omega, by omega, ?_⟩
    exact ⟨n, rfl, h1, k⟩
def lV (l : Option Nat) : Option V := l.map fun n => V.int (n : Int)
/-- pairs as the list ex holds them -/
def ExAt (H : Hp) (ex : Addr) (E : List (Nat × Nat)) : Prop := ∃ ts : List Addr, H ex = some (.lst (ts.map V.ref)) ∧ ts.length = E.length ∧ ∀ i t, ts[i]? = some t → PairAt H t ((FO.zs E).getD i (0, 0))
def JNx (H : Hp) (C : Addr) (m a : Nat) (p : Nat) (σ' : L2.St) (H' : Hp) : Prop := ∃ lp fo ex ml lw lo, σ' = [some (.int m), some (.int a), lp, some (.int ((a / m ^ (m - 1) : Nat) : Int)), some (.int (FO.run m ((a % m ^ (m - 1) : Nat) : Int) p).r), some (.ref fo), some (.ref ex), lV (FO.run m ((a % m ^ (m - 1) : Nat) : Int) p).l, lw, lo] ∧
  Ex H H' ∧ H fo = none ∧ H ex = none ∧ FoAt C H' fo ml m (FO.run m ((a % m ^ (m - 1) : Nat) : Int) p).F ∧ ml ≠ ex ∧ ExAt H' ex (FO.run m ((a % m ^ (m - 1) : Nat) : Int) p).ex
def JPk (H1 : Hp) (m a p : Nat) (first : Int) (fo ex : Addr) (F : Fo) (k : Option Nat × Int) (cs : List Nat) (j : Nat) (σ' : L2.St) (H' : Hp) : Prop := ∃ l r lw lo, σ' = [some (.int m), some (.int a), some (.int p), some (.int first), some (.int r), some (.ref fo), some (.ref ex), lV l, lw, lo] ∧ Ex H1 H' ∧ FO.pick m F p l r (cs.drop j) = k
theorem run_len (m : Nat) (r : Int) : ∀ p, (FO.run m r p).ex.length = p
  | 0 => rfl
  | p + 1 => by
    show ((FO.run m r p).ex ++ [_]).length = _
    rw [List.length_append, run_len m r p, List.length_singleton]
theorem zs_len (E : List (Nat × Nat)) : (FO.zs E).length = E.length := List.length_map _
theorem zs_app (E : List (Nat × Nat)) (x : Nat × Nat) : FO.zs (E ++ [x]) = FO.zs E ++ [((x.1 : Int), (x.2 : Int))] := by
  unfold FO.zs
  rw [List.map_append]
  rfl
/-- one more pair is appended -/
theorem ExAt.push {H : Hp} {ex tp : Addr} {ts : List Addr} {E : List (Nat × Nat)} {p q : Nat} (hts : H ex = some (.lst (ts.map V.ref))) (hl : ts.length = E.length) (hp : ∀ i t, ts[i]? = some t → PairAt H t ((FO.zs E).getD i (0, 0))) (ht : PairAt H tp ((p : Int), (q : Int))) :
    ExAt (upd H ex (.lst (ts.map V.ref ++ [V.ref tp]))) ex (E ++ [(p, q)]) := by
  have up : ∀ {t : Addr} {x : Int × Int}, PairAt H t x → PairAt (upd H ex (.lst (ts.map V.ref ++ [V.ref tp]))) t x := fun {t x} h => by
    have ne : t ≠ ex := fun z => by
      subst z
      unfold PairAt at h
      rw [hts] at h
      cases h
    unfold PairAt at h ⊢
    rw [upd_ne ne]
    exact h
  refine ⟨ts ++ [tp], by rw [upd_same, List.map_append]; rfl, by rw [List.length_append, List.length_append, hl]; rfl, fun i t hi => ?_⟩
  rw [zs_app]
  by_cases c : i < ts.length
  · rw [List.getElem?_append_left c] at hi
    have h := hp i t hi
    rw [List.getD_eq_getElem?_getD, List.getElem?_append_left (by rw [zs_len]; omega), ← List.getD_eq_getElem?_getD]
    exact up h
  · have hi2 : i = ts.length := by
      have := (List.getElem?_eq_some_iff.mp hi).1
      rw [List.length_append, List.length_singleton] at this
      omega
    subst hi2
    rw [List.getElem?_append_right (Nat.le_refl _), Nat.sub_self] at hi
    obtain rfl : tp = t := Option.some.inj hi
    rw [List.getD_eq_getElem?_getD, List.getElem?_append_right (by rw [zs_len]; omega), zs_len, hl, Nat.sub_self]
    exact up ht
def spNthE (C : Addr) : Sp := fun vs H Q _ => ∃ m a : Nat, vs = [.int m, .int a] ∧ 1 ≤ m ∧ m ≤ 4 ∧ a < m * m ^ (m - 1) ∧ ∀ x H', H x = none → Ex H H' → EffAt C H' x (.int ((a / m ^ (m - 1) : Nat) : Int)) (FO.zs (FO.exitsN m a)) → Q (.ref x) H'
theorem pow_top {m : Nat} (h : 1 ≤ m) : m * m ^ (m - 1) = m ^ m := by
  obtain ⟨k, rfl⟩ : ∃ k, m = k + 1 := ⟨m - 1, by omega⟩
  rw [Nat.add_sub_cancel, Nat.pow_succ, Nat.mul_comm]
theorem ok_nth_effect (T : Txt K mg) : FnOk P w K mg base CX0 7 T.f_nth_effect T.fd_nth_effect ["many", "index"] (spNthE T.C_Effect) := by
  refine T.F_nth_effect.ok sc_nth_effect (fun vs H Q E h => ?_) (fun cdv A outer s H vs Q E hr h => ?_)
  · obtain ⟨m, a, rfl, _⟩ := h
    rfl
  · obtain ⟨m, a, rfl, h1, h2, ha, k⟩ := h
    apply Exists.intro
    apply And.intro
    · apply pss_cons
      · exact (ps_expr (pe_call (ok_check_number T) (hr.mono (by decide)) (by rfl) T.m_check_number T.F_check_number.kp T.b_check_number .nil pass0 (pa_cons (pv 0) (pa_cons pe_int (pa_cons (pe_glob (v := .int 40) rfl T.c_MOST_PAGES ⟨_, rfl⟩) pa_nil)))))
      apply pss_cons
      · exact (ps_expr (pe_call (ok_check_number T) (hr.mono (by decide)) (by rfl) T.m_check_number T.F_check_number.kp T.b_check_number .nil pass0 (pa_cons (pv 1) (pa_cons pe_int (pa_cons (pe_op op_sub (pe_call (ok_number_of_effects T) (hr.mono (by decide)) (by rfl) T.m_number_of_effects T.F_number_of_effects.kp T.b_number_of_effects .nil pass0 (pa_cons (pv 0) pa_nil)) pe_int) pa_nil)))))
      apply pss_cons
      · exact (ps_asg (pe_callB call_dmX (by rfl) T.n_divmod (by decide +kernel) (pa_cons (pv 1) (pa_cons (pe_call (ok_power T) (hr.mono (by decide)) (by rfl) T.m_power T.F_power.kp T.b_power .nil pass0 (pa_cons (pv 0) (pa_cons (pe_op op_sub (pv 0) pe_int) pa_nil))) pa_nil))) (k_tup (K := K) (n := 2) rfl rfl (pgs_cons (pg_name (i := 3) sc_nth_effect.nd rfl (.inl rfl)) (pgs_cons (pg_name (i := 4) sc_nth_effect.nd rfl (.inl rfl)) pgs_nil))))
      apply pss_cons
      · exact (ps_asg (pe_tup (pa_cons (pe_make T.M_Forest (ok_Forest___init T) (hr.mono (by decide)) (by rfl) T.g_Forest T.b_Forest___init .nil pass0 (pa_cons (pv 0) pa_nil)) (pa_cons (pe_lst pa_nil) pa_nil))) (k_tup (K := K) (n := 2) rfl rfl (pgs_cons (pg_name (i := 5) sc_nth_effect.nd rfl (.inr rfl)) (pgs_cons (pg_name (i := 6) sc_nth_effect.nd rfl (.inl rfl)) pgs_nil))))
      apply pss_cons
      · apply ps_for PassesOwn.never rfl
        · exact (pi_range1 (by rfl) T.n_range (pa_cons (pv 0) pa_nil))
        · exact (pg_name (i := 2) sc_nth_effect.nd rfl (.inr rfl))
        · apply pss_cons
          · apply ps_for PassesOwn.never rfl
            · exact (k_pi_list (K := K) rfl (pe_lc (own := [("other", 9)]) rfl sc_nth_effect.nd (pi_range1 (by rfl) T.n_range (pa_cons (pv 0) pa_nil)) (blkOk_by (own := [("other", 9)]) (N := ["many", "index", "page", "first", "rest", "forest", "exits", "later", "ways", "other"]) (sc := defScope s_nth_effect) (by decide +kernel)) (fun _ _ _ _ _ => by exact (pg_name (i := 9) sc_nth_effect.nd rfl (.inl rfl))) (fun _ _ _ _ _ => by exact (pts_one (pt_val (pe_meth (pv 5) T.cl_Forest T.m_Forest_allows (ok_Forest_allows T) (hr.mono (by decide)) T.b_Forest_allows .nil pass0 (pa_cons (pv 2) (pa_cons (pv 9) pa_nil)))))) (fun _ _ _ _ _ => by exact (pv 9))))
            · exact (pg_name (i := 7) sc_nth_effect.nd rfl (.inl rfl))
            · apply pss_cons
              · exact (ps_set (i := 8) sc_nth_effect.nd rfl (.inl rfl) (pe_meth (pv 5) T.cl_Forest T.m_Forest_ways_with (ok_Forest_ways_with T) (hr.mono (by decide)) T.b_Forest_ways_with .nil pass0 (pa_cons (pv 2) (pa_cons (pv 7) pa_nil))))
              apply pss_cons
              · apply ps_if
                · exact (pt_cmpR op_lt (pv 4) (pv 8) (by rfl))
                · apply pss_one
                  exact ps_break
                · exact pss_nil
              apply pss_one
              exact (ps_aug (i := 4) sc_nth_effect.nd rfl (.inl rfl) (pv 8) ip_sub)
          apply pss_cons
          · exact (ps_expr (pe_meth (pv 5) T.cl_Forest T.m_Forest_choose (ok_Forest_choose T) (hr.mono (by decide)) T.b_Forest_choose .nil pass0 (pa_cons (pv 2) (pa_cons (pv 7) pa_nil))))
          apply pss_one
          exact (ps_expr (k_bm (K := K) rfl (pe_bm PySem.F.plainAttrs_list PySem.F.slot_list_append PySem.F.type_list_append mt_append (pv 6) (pa_cons (pe_tup (pa_cons (pv 2) (pa_cons (pv 7) pa_nil))) pa_nil))))
      apply pss_one
      exact (ps_ret (pe_make T.M_Effect (ok_Effect___init T) (hr.mono (by decide)) (by rfl) T.g_Effect T.b_Effect___init .nil pass0 (pa_cons (pv 3) (pa_cons (pv 6) pa_nil))))
    have A := FO.at_ok h1 h2 ha
    have pp : 0 < m ^ (m - 1) := Nat.pow_pos (by omega)
    have hp256 := pow_256 (n := m) (i := m - 1) h2 (by omega)
    walk_at "sx"
    refine ⟨m, 1, 40, rfl, by omega, by omega, ?_⟩
    refine ⟨m, rfl, h2, ?_⟩
    walk_at "sx"
    refine ⟨a, 0, _, rfl, by omega, by rw [← pow_top h1]; omega, ?_⟩
    refine ⟨m, m - 1, by rw [show (m : Int) - 1 = ((m - 1 : Nat) : Int) by omega], h2, by omega, ?_⟩
    refine ⟨_, _, rfl, wide_div (b := 10) (by omega) (by omega) (by omega) (by omega), fun T2 nT2 => g_two upd_same ?_⟩
    have et := Ex.new nT2 (o := .tup [V.int ((a : Int) / ((m ^ (m - 1) : Nat) : Int)), V.int ((a : Int) % ((m ^ (m - 1) : Nat) : Int))])
    generalize upd H T2 (.tup [V.int ((a : Int) / ((m ^ (m - 1) : Nat) : Int)), V.int ((a : Int) % ((m ^ (m - 1) : Nat) : Int))]) = H1 at et ⊢
    have eq1 : (a : Int) / ((m ^ (m - 1) : Nat) : Int) = ((a / m ^ (m - 1) : Nat) : Int) := (Int.natCast_ediv _ _).symm
    have eq2 : (a : Int) % ((m ^ (m - 1) : Nat) : Int) = ((a % m ^ (m - 1) : Nat) : Int) := (Int.natCast_emod _ _).symm
    rw [eq1, eq2]
    walk_at "sx"
    refine fun fo dy nfo ndy hne => ⟨fo, dy, m, rfl, upd_same, h2, fun l0 H2 nl0 hk hF0 => ⟨rfl, ?_⟩⟩
    have nfoH : H fo = none := fresh_back et nfo
    have ndyH : H dy = none := fresh_back et ndy
    have k2 : Ex H H2 := fun b o hb => hk b o (by rw [upd_ne (ne_of_none hb nfoH), upd_ne (ne_of_none hb ndyH)]; exact et _ _ hb) (ne_of_none hb nfoH)
    refine ⟨sz_ok (by omega), fun ex nex => ⟨sz_ok (by omega), fun tp ntp => g_two upd_same ?_⟩⟩
    have nexH : H ex = none := fresh_back k2 nex
    have e3 := (Ex.new nex (o := .lst [])).trans (Ex.new ntp (o := .tup [V.ref fo, V.ref ex]))
    have hF3 := hF0.ex e3
    have hex3 := (Ex.new ntp (o := .tup [V.ref fo, V.ref ex])) ex _ (show (upd H2 ex (.lst [])) ex = some (.lst []) from upd_same)
    have k3 := k2.trans e3
    have nl0x : l0 ≠ ex := by
      obtain ⟨dF, _, f2⟩ := hF0
      exact ne_of_none f2 nex
    generalize upd (upd H2 ex (.lst [])) tp (.tup [V.ref fo, V.ref ex]) = H3 at e3 hF3 hex3 k3 ⊢
    walk_at "sx"
    refine ⟨by omega, by omega, ?_⟩
    rw [Int.toNat_natCast]
    refine lg_rng (JNx H T.C_Forest m a) ⟨none, fo, ex, l0, none, none, rfl, k3, nfoH, nexH, hF3, nl0x, [], hex3, rfl, fun i t h => by simp at h⟩ (fun p σ' H' hp hP => ?_) (fun σ' H' hP => ?_)
    · obtain ⟨lp, fo, ex, ml, lw, lo, rfl, e, nfo, nex, hF, nml, ts, hts, ltl, hpr⟩ := hP
      obtain ⟨q, hq1, hq2⟩ := A.some p hp
      have hml := A.marks p hp
      have hle := run_len m ((a % m ^ (m - 1) : Nat) : Int) p
      have hstep : FO.run m ((a % m ^ (m - 1) : Nat) : Int) (p + 1) = FO.step m (FO.run m ((a % m ^ (m - 1) : Nat) : Int) p) p := rfl
      rw [hstep] at hq1
      unfold JNx
      rw [hstep]
      generalize FO.run m ((a % m ^ (m - 1) : Nat) : Int) p = S at hF hq1 hml hle hpr ltl ⊢
      rw [Int.zero_add]
      simp only [x_gn, List.set_cons_zero, List.set_cons_succ]
      have hk1 : (FO.pick m S.F p S.l S.r (FO.cands m S.F p)).1 = some q := hq1
      refine seq_cut (fun σ6 H6 => ∃ lw lo, σ6 = [some (.int m), some (.int a), some (.int p), some (.int ((a / m ^ (m - 1) : Nat) : Int)), some (.int (FO.pick m S.F p S.l S.r (FO.cands m S.F p)).2), some (.ref fo), some (.ref ex), lV (FO.pick m S.F p S.l S.r (FO.cands m S.F p)).1, lw, lo] ∧ Ex H' H6) (fun N hN => ?_) (fun σ6 H6 hC => ?_)
      · walk_at "sx"
        refine ⟨by omega, by omega, fun D nD => ?_⟩
        rw [Int.toNat_natCast]
        refine lc_rng (lo := 0) (n := m) (fun j => FO.allow S.F p j) (fun j => V.int ((j : Nat) : Int)) nD (by omega) (fun u => rfl) (fun j hj => ?_) (fun j hj _ => by rw [show (0 : Int) + j = (j : Int) by omega]; exact ev_var rfl) (fun H5 e5 hD => ?_)
        · intro Hz ez R hR
          obtain ⟨dF, f1, f2⟩ := hF
          walk_at "sx"
          refine ⟨_, rfl, fo, rfl, _, _, ez _ _ f1, fk_other _ _ _ (by decide +kernel) (by decide +kernel) (by decide +kernel), _, rfl, _, rfl, ?_⟩
          exact ⟨fo, ml, m, p, j, S.F, by rw [show (0 : Int) + (j : Int) = (j : Int) by omega], ⟨dF, ez _ _ f1, ez _ _ f2⟩, by omega, by omega, _, rfl, hR _ (Ex.refl _)⟩
        · have eD : kept m (fun j => FO.allow S.F p j) (fun j => V.int ((j : Nat) : Int)) = (nz (FO.cands m S.F p)).map V.int := by
            unfold kept FO.cands nz
            rw [List.map_map]
            rfl
          rw [eD] at hD
          refine ⟨D, rfl, ⟨_, .inl (.inl hD)⟩, ?_⟩
          generalize hk0 : FO.pick m S.F p S.l S.r (FO.cands m S.F p) = kk at hk1 hN ⊢
          have hcm : ∀ c ∈ FO.cands m S.F p, c < m := fun c hc => List.mem_range.mp (List.mem_filter.mp hc).1
          generalize FO.cands m S.F p = cs at hD hk0 hcm ⊢
          refine lg_list (xs := (nz cs).map V.int) (JPk H5 m a p ((a / m ^ (m - 1) : Nat) : Int) fo ex S.F kk cs) ⟨S.l, S.r, lw, lo, rfl, Ex.refl _, hk0⟩ (fun i σ2 H2 _ hP => by
            obtain ⟨_, _, _, _, _, e6, _⟩ := hP
            exact .inl (.inl (e6 _ _ hD))) (fun j v σ2 H2 hv hP => ?_) (fun σ2 H2 hP => ?_)
          · obtain ⟨l, r, lw, lo, rfl, e6, hpk⟩ := hP
            obtain ⟨c, hc, rfl⟩ := at_nz hv
            have hcl := hcm c (List.mem_of_getElem? hc)
            have hdj : cs.drop j = c :: cs.drop (j + 1) := by
              obtain ⟨h, e⟩ := List.getElem?_eq_some_iff.mp hc
              rw [List.drop_eq_getElem_cons h, e]
            rw [hdj] at hpk
            have hpk2 : (if r < ((FO.ways m (FO.choose S.F p c) : Nat) : Int) then (some c, r) else FO.pick m S.F p (some c) (r - ((FO.ways m (FO.choose S.F p c) : Nat) : Int)) (cs.drop (j + 1))) = kk := hpk
            have e56 := e5.trans e6
            have hF2 := hF.ex e56
            obtain ⟨dF, f1, f2⟩ := hF2
            walk_at "sx"
            refine ⟨_, _, f1, fk_other _ _ _ (by decide +kernel) (by decide +kernel) (by decide +kernel), ?_⟩
            refine ⟨fo, ml, m, p, c, S.F, rfl, ⟨dF, f1, f2⟩, by omega, by omega, by omega, h2, fun H7 e7 => ?_⟩
            walk_at "sx"
            by_cases g : r < ((FO.ways m (FO.choose S.F p c) : Nat) : Int)
            · rw [if_pos g] at hpk2
              subst hpk2
              rw [if_pos g]
              exact hN _ _ ⟨_, _, rfl, e56.trans e7⟩
            · rw [if_neg g] at hpk2
              rw [if_neg g]
              exact ⟨some c, _, _, _, rfl, e6.trans e7, hpk2⟩
          · obtain ⟨l, r, lw, lo, rfl, e6, hpk⟩ := hP
            rw [List.drop_of_length_le (by rw [List.length_map, nz_len]; omega)] at hpk
            have hpk2 : (l, r) = kk := hpk
            subst hpk2
            exact hN _ _ ⟨_, _, rfl, e5.trans e6⟩
      · obtain ⟨lw, lo, rfl, e6⟩ := hC
        have hF6 := hF.ex e6
        obtain ⟨dF, f1, f2⟩ := hF6
        have hts6 := e6 _ _ hts
        have nxf : ex ≠ fo := ne_of hts6 f1 (by intro z; cases z)
        have hcl := choose_len S.F p q
        simp only [FO.step, hk1]
        have hlv : lV (some q) = some (V.int (q : Int)) := rfl
        rw [hlv]
        walk_at "sx"
        refine ⟨_, _, f1, fk_other _ _ _ (by decide +kernel) (by decide +kernel) (by decide +kernel), ?_⟩
        refine ⟨fo, ml, m, p, q, S.F, rfl, ⟨dF, f1, f2⟩, by omega, by omega, by omega, fun l2 H7 hl2 hk7 hF7 => ?_⟩
        have hts7 := hk7 _ _ hts6 nxf
        refine ⟨tyL hts7, sz_ok (by omega), fun tp ntp => ?_⟩
        have hts8 := (Ex.new ntp (o := .tup [V.int p, V.int q])) _ _ hts7
        refine appL hts8 (BC.sz_lt (by rw [List.length_map, ltl]; omega)) ?_
        obtain ⟨dG, g1, g2⟩ := hF7
        have g18 := (Ex.new ntp (o := .tup [V.int p, V.int q])) _ _ g1
        have g28 := (Ex.new ntp (o := .tup [V.int p, V.int q])) _ _ g2
        have nl2 : l2 ≠ ex := by
          rcases hl2 with z | z
          · rw [z]; exact nml
          · exact Ne.symm (ne_of_none hts6 z)
        have k7 : ∀ b o, H' b = some o → b ≠ fo → upd H7 tp (.tup [V.int p, V.int q]) b = some o := fun b o hb nb => (Ex.new ntp) _ _ (hk7 b o (e6 _ _ hb) nb)
        have kH : Ex H (upd H7 tp (.tup [V.int p, V.int q])) := fun b o hb => k7 b o (e _ _ hb) (ne_of_none hb nfo)
        refine ⟨_, fo, ex, l2, lw, lo, ⟨rfl, rfl, rfl, rfl, rfl⟩, kH.mut nex, nfo, nex, ⟨dG, by rw [upd_ne (Ne.symm nxf)]; exact g18, by rw [upd_ne nl2]; exact g28⟩, nl2, ?_⟩
        refine ExAt.push hts8 ltl (fun i t hi => ?_) upd_same
        have h := hpr i t hi
        obtain ⟨dX, f1H, _⟩ := hF
        exact k7 _ _ h (ne_of (pr_ev h) f1H (by intro z; cases z))
    · obtain ⟨lp, fo, ex, ml, lw, lo, rfl, e, nfo, nex, hF, nml, ts, hts, ltl, hpr⟩ := hP
      have hE : (FO.run m ((a % m ^ (m - 1) : Nat) : Int) m).ex = FO.exitsN m a := rfl
      rw [hE] at ltl hpr
      walk_at "sx"
      intro x dx nx ndx hne
      have nxH : H x = none := fresh_back e nx
      have ndxH : H dx = none := fresh_back e ndx
      have up : ∀ b o, H' b = some o → upd (upd H' dx (.own x)) x (.ins T.C_Effect dx []) b = some o := fun b o hb => by
        rw [upd_ne (ne_of_none hb nx), upd_ne (ne_of_none hb ndx)]
        exact hb
      refine ⟨x, dx, ex, ts, FO.visitsOf m (FO.exitsN m a), .int ((a / m ^ (m - 1) : Nat) : Int), rfl, .inr ⟨_, A.begin, rfl⟩, upd_same, ⟨.inl (.inl (up _ _ hts)), ?_, fun i t hi => ?_⟩, fun y hy => ?_, fun H7 hk hE2 => ⟨rfl, ?_⟩⟩
      · rw [A.exs, ltl]
        unfold FO.zs
        rw [List.length_map]
      · rw [A.exs]
        exact up _ _ (hpr i t hi)
      · have := A.page y hy
        omega
      · rw [A.exs] at hE2
        exact k x H7 nxH (fun b o hb => hk b o (up _ _ (e _ _ hb)) (ne_of_none hb nxH)) hE2
end
end LW

set_option Elab.async false
set_option linter.all false
set_option maxRecDepth 100000
set_option maxHeartbeats 4000000
namespace LW
open PySem PySem.Spec PyProof.Rows L2 BC Evl TR EF L2.DX
local macro_rules | `(tactic| walk_at "sx") => `(tactic| try simp only [x_seq, x_next, x_brk, x_cnt, x_nev, x_ret, x_retN, x_drop, x_ifS, x_asg, x_gn, x_gsub, x_par, x_par3, x_aug, x_for, x_lc, x_rng1, x_rng2, x_rng3, x_ilist, x_itup, x_ienum, x_izip, x_izipA, x_istr, x_var, x_c, x_op, x_un, x_test, x_b, x_chain, x_and, x_or, x_not, x_andV, x_orV, x_notV, x_ife, x_nil, x_cons, x_lst, x_tup, x_cb, x_call, x_callK, x_bm, x_bm0, x_tru, x_sl, x_nopart, x_part, x_revL, x_I0, x_I, x_U, x_ip, x_ipC, x_eqI, x_neI, x_eqB, x_neB, x_eqS, x_neS, x_isB, x_isNB, x_lrg, x_gall, x_lenSet, x_lenSetC, x_augS, x_sortSet, x_rg1, x_rg2, x_dnewK, x_dnewT, x_dget, x_dget1, x_dget2, x_din, x_dnotin, x_dput, x_ikeys, x_ghead, x_fld, x_sfld, x_prop, x_meth, x_make, x_dc,
  L2.start, List.map_cons, List.map_nil, List.length_cons, List.length_nil, Nat.reduceAdd, Nat.reduceSub, Nat.sub_self, Nat.zero_add, List.replicate, List.replicate_succ, List.replicate_zero, List.append_nil, List.cons_append, List.nil_append, List.set_cons_zero, List.set_cons_succ, List.getElem?_cons_zero, List.getElem?_cons_succ, Option.some.injEq, V.int.injEq, V.bl.injEq, V.ref.injEq, V.str.injEq, List.cons.injEq, and_true, true_and, exists_eq_left', exists_eq_left, exists_and_left, exists_eq, if_true, if_false, ite_true, ite_false, Bool.true_eq_false, Bool.false_eq_true, reduceIte, reduceCtorEq, Bool.not_true, Bool.not_false, decide_true, decide_false, decide_eq_true_eq, Bool.and_true, Bool.true_and, Bool.and_self, Bool.and_false, Bool.false_and, Bool.or_self, Bool.or_false, Bool.false_or, Bool.or_true, Bool.true_or, eq_self])
section
variable {P : Program} {w : World} {K : PySem.W.Frag} {mg : Str → Option Value} {base : Heap}
open FO (Fo)
def spCheckEf (C : Addr) : Sp := fun vs H Q _ => ∃ (x : Addr) (v : V) (qs : List (Int × Int)), vs = [.ref x] ∧ EffAt C H x v qs ∧ Q .non H
theorem ok_check_effect (T : Txt K mg) : FnOk P w K mg base CX0 1 T.f_check_effect T.fd_check_effect ["value"] (spCheckEf T.C_Effect) := by
  refine T.F_check_effect.ok sc_check_effect (fun vs H Q E h => ?_) (fun cdv A outer s H vs Q E hr h => ?_)
  · obtain ⟨x, v, qs, rfl, _⟩ := h
    rfl
  · obtain ⟨x, v, qs, rfl, hx, k⟩ := h
    apply Exists.intro
    apply And.intro
    · apply pss_one
      apply ps_if
      · exact (pt_not (pt_val (pe_callB (k_isi (K := K) rfl) (by rfl) T.n_isinstance (by decide +kernel) (pa_cons (pv 0) (pa_cons (pe_glob (v := .ref T.C_Effect) (by rfl) T.g_Effect rfl) pa_nil)))))
      · apply pss_one
        exact ps_never
      · exact pss_nil
    obtain ⟨dx, t, d, ts, g1, g2, g3, g4, g5⟩ := hx
    walk_at "sx"
    refine ⟨.ref x, .ref T.C_Effect, .ref T.C_Effect, .ref T.C_Effect, true, rfl, .own _, T.x_Effect.ty g1, T.x_Effect.me, ?_⟩
    walk_at "sx"
    exact k
theorem zs_getD (E : List (Nat × Nat)) (i : Nat) : (FO.zs E).getD i (0, 0) = (((E.getD i (0, 0)).1 : Int), ((E.getD i (0, 0)).2 : Int)) := by
  unfold FO.zs
  rw [List.getD_eq_getElem?_getD, List.getD_eq_getElem?_getD, List.getElem?_map]
  cases E[i]? <;> rfl
def spRankE (C : Addr) : Sp := fun vs H Q _ => ∃ (x : Addr) (m a : Nat), vs = [.ref x] ∧ 1 ≤ m ∧ m ≤ 4 ∧ a < m * m ^ (m - 1) ∧ EffAt C H x (.int ((a / m ^ (m - 1) : Nat) : Int)) (FO.zs (FO.exitsN m a)) ∧ ∀ H', Ex H H' → Q (.int (a : Int)) H'
def JRk (H5 : Hp) (C : Addr) (x : Addr) (m a : Nat) (fo : Addr) (i : Nat) (σ' : L2.St) (H' : Hp) : Prop := ∃ ml l4 l5 l6, σ' = [some (.ref x), some (.int m), some (.int ((a / m ^ (m - 1) * m ^ (m - 1) + (FO.rk m (FO.exitsN m a) i).2 : Nat) : Int)), some (.ref fo), l4, l5, l6] ∧
  (∀ b o, H5 b = some o → b ≠ fo → H' b = some o) ∧ FoAt C H' fo ml m (FO.rk m (FO.exitsN m a) i).1
def JSm (H6 : Hp) (x : Addr) (m : Nat) (n : Nat) (fo : Addr) (F : Fo) (p q : Nat) (j : Nat) (σ' : L2.St) (H' : Hp) : Prop := ∃ l6, σ' = [some (.ref x), some (.int m), some (.int ((n + FO.small m F p j : Nat) : Int)), some (.ref fo), some (.int p), some (.int q), l6] ∧ Ex H6 H'
theorem ok_effect_rank (T : Txt K mg) : FnOk P w K mg base CX0 6 T.f_effect_rank T.fd_effect_rank ["effect"] (spRankE T.C_Effect) := by
  refine T.F_effect_rank.ok sc_effect_rank (fun vs H Q E h => ?_) (fun cdv A outer s H vs Q E hr h => ?_)
  · obtain ⟨x, m, a, rfl, _⟩ := h
    rfl
  · obtain ⟨x, m, a, rfl, h1, h2, ha, hx, k⟩ := h
    apply Exists.intro
    apply And.intro
    · apply pss_cons
      · exact (ps_expr (pe_call (ok_check_effect T) (hr.mono (by decide)) (by rfl) T.m_check_effect T.F_check_effect.kp T.b_check_effect .nil pass0 (pa_cons (pv 0) pa_nil)))
      apply pss_cons
      · exact (ps_set (i := 1) sc_effect_rank.nd rfl (.inl rfl) (pe_callB (call_lenOwn T.h_Effect___len T.i_Effect___len (ok_Effect___len T) (hr.mono (by decide)) T.b_Effect___len pass0) (by rfl) T.n_len PySem.boot_len (pa_cons (pv 0) pa_nil)))
      apply pss_cons
      · apply ps_if
        · exact (PW.pt (pw_or (pt_cmpR op_eq (pv 1) pe_int (by rfl)) (pw_or1 (pt_cmpR (k_neD (K := K) rfl hr.units) (pe_lc (own := [("page", 4), ("later", 5)]) rfl sc_effect_rank.nd (k_pi_list (K := K) rfl (pe_prop (pv 0) T.cl_Effect T.p_Effect_exits (ok_Effect_exits T) (hr.mono (by decide)) T.b_Effect_exits .nil pass0 rfl)) (blkOk_by (own := [("page", 4), ("later", 5)]) (N := ["effect", "many", "found", "forest", "page", "later", "other"]) (sc := defScope s_effect_rank) (by decide +kernel)) (fun _ _ _ _ _ => by exact (k_tup (K := K) (n := 2) rfl rfl (pgs_cons (pg_name (i := 4) sc_effect_rank.nd rfl (.inl rfl)) (pgs_cons (pg_name (i := 5) sc_effect_rank.nd rfl (.inl rfl)) pgs_nil)))) (fun _ _ _ _ _ => by exact pts_nil) (fun _ _ _ _ _ => by exact (pv 4))) (pe_listRg rfl (by rfl) T.n_list (prg_1 (by rfl) T.n_range (pv 1))) (by rfl)))))
        · apply pss_one
          exact ps_never
        · exact pss_nil
      apply pss_cons
      · exact (ps_par (i := 2) (j := 3) (by rfl) sc_effect_rank.nd rfl rfl (by decide) rfl rfl (pa_cons (pe_op op_mulX (pe_prop (pv 0) T.cl_Effect T.p_Effect_first (ok_Effect_first T) (hr.mono (by decide)) T.b_Effect_first .nil pass0 rfl) (pe_call (ok_power T) (hr.mono (by decide)) (by rfl) T.m_power T.F_power.kp T.b_power .nil pass0 (pa_cons (pv 1) (pa_cons (pe_op op_sub (pv 1) pe_int) pa_nil)))) (pa_cons (pe_make T.M_Forest (ok_Forest___init T) (hr.mono (by decide)) (by rfl) T.g_Forest T.b_Forest___init .nil pass0 (pa_cons (pv 1) pa_nil)) pa_nil)) (by rfl))
      apply pss_cons
      · apply ps_for PassesOwn.never rfl
        · exact (k_pi_list (K := K) rfl (pe_prop (pv 0) T.cl_Effect T.p_Effect_exits (ok_Effect_exits T) (hr.mono (by decide)) T.b_Effect_exits .nil pass0 rfl))
        · exact (k_tup (K := K) (n := 2) rfl rfl (pgs_cons (pg_name (i := 4) sc_effect_rank.nd rfl (.inl rfl)) (pgs_cons (pg_name (i := 5) sc_effect_rank.nd rfl (.inl rfl)) pgs_nil)))
        · apply pss_cons
          · apply ps_for PassesOwn.never rfl
            · exact (pi_range1 (by rfl) T.n_range (pa_cons (pv 5) pa_nil))
            · exact (pg_name (i := 6) sc_effect_rank.nd rfl (.inl rfl))
            · apply pss_one
              apply ps_if
              · exact (pt_val (pe_meth (pv 3) T.cl_Forest T.m_Forest_allows (ok_Forest_allows T) (hr.mono (by decide)) T.b_Forest_allows .nil pass0 (pa_cons (pv 4) (pa_cons (pv 6) pa_nil))))
              · apply pss_one
                exact (ps_aug (i := 2) sc_effect_rank.nd rfl (.inl rfl) (pe_meth (pv 3) T.cl_Forest T.m_Forest_ways_with (ok_Forest_ways_with T) (hr.mono (by decide)) T.b_Forest_ways_with .nil pass0 (pa_cons (pv 4) (pa_cons (pv 6) pa_nil))) ip_add)
              · exact pss_nil
          apply pss_one
          exact (ps_expr (pe_meth (pv 3) T.cl_Forest T.m_Forest_choose (ok_Forest_choose T) (hr.mono (by decide)) T.b_Forest_choose .nil pass0 (pa_cons (pv 4) (pa_cons (pv 5) pa_nil))))
      apply pss_one
      exact (ps_ret (pv 2))
    have A := FO.at_ok h1 h2 ha
    have pp : 0 < m ^ (m - 1) := Nat.pow_pos (by omega)
    have haf : a / m ^ (m - 1) < m := Nat.div_lt_of_lt_mul (by rw [Nat.mul_comm]; exact ha)
    have haf0 := Int.natCast_nonneg (a / m ^ (m - 1))
    have haf1 : ((a / m ^ (m - 1) : Nat) : Int) < (m : Int) := Int.ofNat_lt.mpr haf
    have hp256 := pow_256 (n := m) (i := m - 1) h2 (by omega)
    have hlen : (FO.zs (FO.exitsN m a)).length = m := by rw [zs_len, A.len]
    have hx0 := hx
    obtain ⟨dx, t, d, ts0, g1, g2, g3, g4, g5⟩ := hx
    walk_at "sx"
    refine ⟨x, _, _, rfl, hx0, ?_⟩
    walk_at "sx"
    refine ⟨x, _, _, rfl, g1, x, _, _, rfl, hx0, (m : Int), by rw [hlen], by omega, by omega, ?_⟩
    refine ⟨rfl, ?_⟩
    rw [decide_eq_false (by intro z; have := V.int.inj z; omega)]
    walk_at "sx"
    refine ⟨_, _, g1, x, _, _, rfl, hx0, fun el ts H1 nel e1 hel hlts hpt => ?_⟩
    rw [hlen] at hlts
    have hpt2 : ∀ (i : Nat) (t : Addr), ts[i]? = some t → H1 t = some (.tup [.int (i : Int), .int (((FO.exitsN m a).getD i (0, 0)).2 : Nat)]) := fun i t hi => by
      have hi2 := (List.getElem?_eq_some_iff.mp hi).1
      have h := hpt i t hi
      unfold PairAt at h
      rw [zs_getD, A.fst i (by omega)] at h
      exact h
    refine ⟨el, rfl, ⟨_, .inl (.inl hel)⟩, fun D nD => ?_⟩
    refine lc_pairs (ts := ts) (u := fun i => .int (i : Int)) (v := fun i => .int (((FO.exitsN m a).getD i (0, 0)).2 : Nat)) (.inl ⟨rfl, .inl (.inl hel)⟩) (fun i t hi => hpt2 i t hi) (fun _ => true) (fun i => V.int ((i : Nat) : Int)) nD (by omega) (fun u v => rfl) (fun i _ => tyes) (fun i hi _ => ev_var rfl) (fun H2 e2 hD => ?_)
    rw [kept_all, hlts] at hD
    have eD : (List.range m).map (fun i => V.int ((i : Nat) : Int)) = (nz (List.range m)).map V.int := by
      unfold nz
      rw [List.map_map]
      rfl
    rw [eD] at hD
    refine ⟨⟨by omega, by omega, by omega, by omega, by omega⟩, fun q nq => ?_⟩
    refine neInts (ns := nz (List.range m)) (ms := nz (List.range m)) (.inl (.inl ((Ex.new nq) _ _ hD))) (.inl (.inl (by rw [upd_same, rg_new m h2]))) ?_
    rw [decide_eq_true rfl]
    walk_at "sx"
    have E2 := (e1.trans e2).trans (Ex.new nq (o := .lst (rgV 0 m)))
    generalize upd H2 q (.lst (rgV 0 m)) = H3 at E2 ⊢
    refine ⟨_, _, E2 _ _ g1, x, _, _, rfl, hx0.ex E2, ?_⟩
    walk_at "sx"
    refine ⟨m, m - 1, by rw [show (m : Int) - 1 = ((m - 1 : Nat) : Int) by omega], h2, by omega, ?_⟩
    walk_at "sx"
    refine ⟨?_, ?_⟩
    · exact .inl (.inl ⟨by omega, by omega⟩)
    intro fo dy nfo ndy hne
    refine ⟨fo, dy, m, rfl, upd_same, h2, fun l0 H4 nl0 hk hF0 => ⟨rfl, ?_⟩⟩
    have nfoH : H fo = none := fresh_back E2 nfo
    have ndyH : H dy = none := fresh_back E2 ndy
    have k4 : Ex H H4 := fun b o hb => hk b o (by rw [upd_ne (ne_of_none hb nfoH), upd_ne (ne_of_none hb ndyH)]; exact E2 _ _ hb) (ne_of_none hb nfoH)
    refine ⟨_, _, ⟨rfl, rfl⟩, ?_⟩
    refine ⟨_, _, k4 _ _ g1, x, _, _, rfl, hx0.ex k4, fun e2l ts2 H5 nel2 e5 hel2 hlts2 hpt2' => ?_⟩
    rw [hlen] at hlts2
    refine ⟨e2l, rfl, ⟨_, .inl (.inl hel2)⟩, ?_⟩
    have k5 := k4.trans e5
    rw [← Int.natCast_mul]
    have hF5 := hF0.ex e5
    have hpt3 : ∀ (i : Nat) (t : Addr), ts2[i]? = some t → H5 t = some (.tup [.int (i : Int), .int (((FO.exitsN m a).getD i (0, 0)).2 : Nat)]) := fun i t hi => by
      have hi2 := (List.getElem?_eq_some_iff.mp hi).1
      have h := hpt2' i t hi
      unfold PairAt at h
      rw [zs_getD, A.fst i (by omega)] at h
      exact h
    have nef : e2l ≠ fo := by
      obtain ⟨dF, f1, _⟩ := hF5
      exact ne_of hel2 f1 (by intro z; cases z)
    have ntf : ∀ (i : Nat) (t : Addr), ts2[i]? = some t → t ≠ fo := fun i t hi => by
      obtain ⟨dF, f1, _⟩ := hF5
      exact ne_of (hpt3 i t hi) f1 (by intro z; cases z)
    refine lg_list (xs := ts2.map V.ref) (JRk H5 T.C_Forest x m a fo) ⟨l0, none, none, none, rfl, fun b o hb _ => hb, hF5⟩ (fun i σ' H' _ hP => by
      obtain ⟨_, _, _, _, _, kk, _⟩ := hP
      exact .inl (.inl (kk _ _ hel2 nef))) (fun i v σ' H' hv hP => ?_) (fun σ' H' hP => ?_)
    · obtain ⟨ml, l4, l5, l6, rfl, kk, hF⟩ := hP
      rw [List.getElem?_map] at hv
      obtain ⟨t, ht, rfl⟩ := Option.map_eq_some_iff.mp hv
      have hi : i < m := by
        have := (List.getElem?_eq_some_iff.mp ht).1
        omega
      have hml := A.marks2 i hi
      have hq := A.snd i hi
      have hst : FO.rk m (FO.exitsN m a) (i + 1) = (FO.choose (FO.rk m (FO.exitsN m a) i).1 i ((FO.exitsN m a).getD i (0, 0)).2, (FO.rk m (FO.exitsN m a) i).2 + FO.small m (FO.rk m (FO.exitsN m a) i).1 i ((FO.exitsN m a).getD i (0, 0)).2) := by
        have e := A.fst i hi
        show (FO.choose _ ((FO.exitsN m a).getD i (0, 0)).1 _, _ + FO.small m _ ((FO.exitsN m a).getD i (0, 0)).1 _) = _
        rw [e]
      have htup := kk _ _ (hpt3 i t ht) (ntf i t ht)
      unfold JRk
      rw [hst]
      generalize (FO.rk m (FO.exitsN m a) i).1 = F at hF hml ⊢
      generalize (FO.rk m (FO.exitsN m a) i).2 = rr
      generalize ((FO.exitsN m a).getD i (0, 0)).2 = q at hq htup ⊢
      refine g_two htup ?_
      simp only [List.set_cons_zero, List.set_cons_succ]
      refine seq_cut (fun σ6 H6 => ∃ l6, σ6 = [some (.ref x), some (.int m), some (.int ((a / m ^ (m - 1) * m ^ (m - 1) + rr + FO.small m F i q : Nat) : Int)), some (.ref fo), some (.int i), some (.int q), l6] ∧ Ex H' H6) (fun N hN => ?_) (fun σ6 H6 hC => ?_)
      · walk_at "sx"
        refine ⟨by omega, by omega, ?_⟩
        rw [Int.toNat_natCast]
        refine lg_rng (JSm H' x m (a / m ^ (m - 1) * m ^ (m - 1) + rr) fo F i q) ⟨l6, rfl, Ex.refl _⟩ (fun j σ2 H2 hj hP => ?_) (fun σ2 H2 hP => ?_)
        · obtain ⟨l6, rfl, e6⟩ := hP
          obtain ⟨dF, f1, f2⟩ := hF.ex e6
          rw [Int.zero_add]
          walk_at "sx"
          refine ⟨_, _, f1, fk_other _ _ _ (by decide +kernel) (by decide +kernel) (by decide +kernel), ?_⟩
          refine ⟨fo, ml, m, i, j, F, rfl, ⟨dF, f1, f2⟩, by omega, by omega, ?_⟩
          cases hal : FO.allow F i j
          · walk_at "sx"
            refine ⟨some (.int (j : Int)), ?_, e6⟩
            have es : FO.small m F i (j + 1) = FO.small m F i j + if FO.allow F i j then FO.ways m (FO.choose F i j) else 0 := rfl
            rw [es, hal, if_neg (by decide), Nat.add_zero]
          · walk_at "sx"
            refine ⟨_, _, f1, fk_other _ _ _ (by decide +kernel) (by decide +kernel) (by decide +kernel), ?_⟩
            refine ⟨fo, ml, m, i, j, F, rfl, ⟨dF, f1, f2⟩, by omega, by omega, by omega, h2, fun H7 e7 => ?_⟩
            walk_at "sx"
            refine ⟨some (.int (j : Int)), ?_, e6.trans e7⟩
            have es : FO.small m F i (j + 1) = FO.small m F i j + if FO.allow F i j then FO.ways m (FO.choose F i j) else 0 := rfl
            rw [es, hal, if_pos rfl, ← Nat.add_assoc, Int.natCast_add (a / m ^ (m - 1) * m ^ (m - 1) + rr + FO.small m F i j)]
        · obtain ⟨l6, rfl, e6⟩ := hP
          exact hN _ _ ⟨_, rfl, e6⟩
      · obtain ⟨l6, rfl, e6⟩ := hC
        obtain ⟨dF, f1, f2⟩ := hF.ex e6
        walk_at "sx"
        refine ⟨_, _, f1, fk_other _ _ _ (by decide +kernel) (by decide +kernel) (by decide +kernel), ?_⟩
        refine ⟨fo, ml, m, i, q, F, rfl, ⟨dF, f1, f2⟩, by omega, by omega, by omega, fun l2 H7 hl2 hk7 hF7 => ?_⟩
        exact ⟨l2, some (.int (i : Int)), some (.int (q : Int)), l6, ⟨by rw [Nat.add_assoc], rfl, rfl, rfl⟩, fun b o hb nb => hk7 b o (e6 _ _ (kk b o hb nb)) nb, hF7⟩
    · obtain ⟨ml, l4, l5, l6, rfl, kk, hF⟩ := hP
      have er : a / m ^ (m - 1) * m ^ (m - 1) + (FO.rk m (FO.exitsN m a) m).2 = a := by
        rw [A.rank, Nat.mul_comm]
        exact Nat.div_add_mod a _
      rw [List.length_map, hlts2, er]
      walk_at "sx"
      exact k _ fun b o hb => kk b o (k5 _ _ hb) (ne_of_none hb nfoH)
end
end LW

set_option Elab.async false
set_option linter.all false
set_option maxRecDepth 100000
set_option maxHeartbeats 4000000
namespace LW
open PySem PySem.Spec PyProof.Rows L2 BC Evl TR EF L2.DX
local macro_rules | `(tactic| walk_at "sx") => `(tactic| try simp only [x_seq, x_next, x_brk, x_cnt, x_nev, x_ret, x_retN, x_drop, x_ifS, x_asg, x_gn, x_gsub, x_par, x_par3, x_aug, x_for, x_lc, x_rng1, x_rng2, x_rng3, x_ilist, x_itup, x_ienum, x_izip, x_izipA, x_istr, x_var, x_c, x_op, x_un, x_test, x_b, x_chain, x_and, x_or, x_not, x_andV, x_orV, x_notV, x_ife, x_nil, x_cons, x_lst, x_tup, x_cb, x_call, x_callK, x_bm, x_bm0, x_tru, x_sl, x_nopart, x_part, x_revL, x_I0, x_I, x_U, x_ip, x_ipC, x_eqI, x_neI, x_eqB, x_neB, x_eqS, x_neS, x_isB, x_isNB, x_lrg, x_gall, x_lenSet, x_lenSetC, x_augS, x_sortSet, x_rg1, x_rg2, x_dnewK, x_dnewT, x_dget, x_dget1, x_dget2, x_din, x_dnotin, x_dput, x_ikeys, x_ghead, x_fld, x_sfld, x_prop, x_meth, x_make, x_dc,
  L2.start, List.map_cons, List.map_nil, List.length_cons, List.length_nil, Nat.reduceAdd, Nat.reduceSub, Nat.sub_self, Nat.zero_add, List.replicate, List.replicate_succ, List.replicate_zero, List.append_nil, List.cons_append, List.nil_append, List.set_cons_zero, List.set_cons_succ, List.getElem?_cons_zero, List.getElem?_cons_succ, Option.some.injEq, V.int.injEq, V.bl.injEq, V.ref.injEq, V.str.injEq, List.cons.injEq, and_true, true_and, exists_eq_left', exists_eq_left, exists_and_left, exists_eq, if_true, if_false, ite_true, ite_false, Bool.true_eq_false, Bool.false_eq_true, reduceIte, reduceCtorEq, Bool.not_true, Bool.not_false, decide_true, decide_false, decide_eq_true_eq, Bool.and_true, Bool.true_and, Bool.and_self, Bool.and_false, Bool.false_and, Bool.or_self, Bool.or_false, Bool.false_or, Bool.or_true, Bool.true_or, eq_self])
section
variable {P : Program} {w : World} {K : PySem.W.Frag} {mg : Str → Option Value} {base : Heap}
def spBag : Sp := fun vs H Q _ => ∃ (n : Int) (k : Nat), vs = [.int n, .int k] ∧ k < 64 ∧ ∀ p H', H p = none → Ex H H' → BagAt H' p 0 → Q (.ref p) H'
theorem ok_law_bag (T : Txt K mg) : FnOk P w K mg base CX0 1 T.f_law_bag T.fd_law_bag ["_law_cell", "_law_turn"] spBag := by
  refine T.F_law_bag.ok sc_law_bag (fun vs H Q E h => ?_) (fun cdv A outer s H vs Q E hr h => ?_)
  · obtain ⟨n, k, rfl, _⟩ := h
    rfl
  · obtain ⟨n, k, rfl, hk, kk⟩ := h
    apply Exists.intro
    apply And.intro
    · apply pss_cons
      · exact (ps_set (i := 2) sc_law_bag.nd rfl (.inl rfl) (pe_callB (call_max2 rfl) (by rfl) T.n_max (by decide +kernel) (pa_cons (pv 0) (pa_cons (pe_op op_sub pe_int (pv 0)) pa_nil))))
      apply pss_one
      exact (ps_ret (pe_lst (pa_cons (pe_callB (call_max2 rfl) (by rfl) T.n_max (by decide +kernel) (pa_cons pe_int (pa_cons (pe_op op_sub (pv 2) (pe_op op_powX pe_int pe_int)) pa_nil))) (pa_cons (pe_op op_modX (pe_op op_add (pe_op op_mulX (pv 0) (pe_op op_powX pe_int pe_int)) (pe_op op_mulX (pe_op op_powX pe_int pe_int) (pe_op op_add (pv 1) pe_int))) (pe_op op_add (pe_op op_powX pe_int pe_int) pe_int)) (pa_cons pe_int pa_nil)))))
    refine seq_asg (fun v H' => ∃ z : Int, v = .int z ∧ H' = H) (fun R hR => ?_) (fun v H1 hC => ?_)
    · walk_at "sx"
      refine ⟨_, _, ⟨rfl, rfl⟩, ?_⟩
      exact hR _ _ ⟨_, rfl, rfl⟩
    obtain ⟨z, rfl, rfl⟩ := hC
    walk_at "sx"
    have t18 : Int.toNat 18 = 18 := rfl
    have t42 : Int.toNat 42 = 42 := rfl
    have t3 : Int.toNat 3 = 3 := rfl
    have t4 : Int.toNat 4 = 4 := rfl
    rw [t42, t3, t4]
    refine ⟨⟨by decide, by decide, by decide⟩, _, _, ⟨rfl, rfl⟩, ⟨by decide, by decide, by decide⟩, .inl (.inr ⟨by decide, by decide⟩), ⟨by decide, by decide, by decide⟩, .inl (.inr ⟨by omega, by omega⟩), ⟨by decide, by decide, by decide⟩, by decide, sz_ok (by omega), fun p np => ?_⟩
    have m0 : 0 ≤ (n * 1000003 ^ 3 + 161803409 ^ 4 * ((k : Int) + 1)) % (10 ^ 42 + 63) := Int.emod_nonneg _ (by decide)
    have m1 : (n * 1000003 ^ 3 + 161803409 ^ 4 * ((k : Int) + 1)) % (10 ^ 42 + 63) < 10 ^ 42 + 63 := Int.emod_lt_of_pos _ (by decide)
    exact kk p _ np (Ex.new np) ⟨_, _, _, upd_same, m0, by omega, by omega, by omega⟩
theorem ok_law_draw (T : Txt K mg) : FnOk P w K mg base CX0 1 T.f_law_draw T.fd_law_draw ["_law_bag_here", "_law_most"] spDraw := by
  refine T.F_law_draw.ok sc_law_draw (fun vs H Q E h => ?_) (fun cdv A outer s H vs Q E hr h => ?_)
  · obtain ⟨b, m, c, rfl, _⟩ := h
    rfl
  · obtain ⟨b, m, c, rfl, h1, h2, hB, hc, k⟩ := h
    obtain ⟨x0, x1, x2, hb, h3, h4, h5, h6⟩ := hB
    apply Exists.intro
    apply And.intro
    · apply pss_cons
      · apply ps_if
        · exact (pt_cmpR op_gt (pe_ix (k_ix_list (K := K) rfl) (pv 0) pe_int (fun _ _ => rfl)) pe_int (by rfl))
        · apply pss_cons
          · exact (ps_set (i := 3) sc_law_draw.nd rfl (.inl rfl) (pe_op op_modX (pe_ix (k_ix_list (K := K) rfl) (pv 0) pe_int (fun _ _ => rfl)) (pv 1)))
          apply pss_cons
          · exact (ps_asg (pe_op op_fdivX (pe_ix (k_ix_list (K := K) rfl) (pv 0) pe_int (fun _ _ => rfl)) (pv 1)) (pg_sub (pv 0) pe_int set_list))
          apply pss_one
          exact (ps_ret (pv 3))
        · exact pss_nil
      apply pss_cons
      · exact (ps_asg (pe_op op_add (pe_ix (k_ix_list (K := K) rfl) (pv 0) pe_int (fun _ _ => rfl)) pe_int) (pg_sub (pv 0) pe_int set_list))
      apply pss_cons
      · exact (ps_set (i := 2) sc_law_draw.nd rfl (.inl rfl) (pe_op op_modX (pe_op op_add (pe_ix (k_ix_list (K := K) rfl) (pv 0) pe_int (fun _ _ => rfl)) (pe_op op_mulX (pe_ix (k_ix_list (K := K) rfl) (pv 0) pe_int (fun _ _ => rfl)) (pe_op op_powX pe_int pe_int))) (pe_op op_add (pe_op op_powX pe_int pe_int) pe_int)))
      apply pss_cons
      · exact (ps_set (i := 2) sc_law_draw.nd rfl (.inl rfl) (pe_op op_add (pe_op op_modX (pe_op op_powX (pv 2) pe_int) (pe_op op_add (pe_op op_powX pe_int pe_int) pe_int)) (pe_op op_mulX (pe_ix (k_ix_list (K := K) rfl) (pv 0) pe_int (fun _ _ => rfl)) pe_int)))
      apply pss_one
      exact (ps_ret (pe_op op_modX (pe_op op_fdivX (pe_op op_modX (pe_op op_powX (pv 2) pe_int) (pe_op op_add (pe_op op_powX pe_int pe_int) pe_int)) pe_int) (pv 1)))
    walk_at "sx"
    refine ixL (.inl (.inl hb)) (atI_n (j := 0) rfl rfl) ?_
    walk_at "sx"
    have hdm : ∀ i, CDivW i m := fun i => wide_div (b := 2001) h1 (big_lt h1 h2) (by omega) (by omega)
    by_cases h0 : x0 > 1
    · simp only [h0, if_true]
      refine ixL (.inl (.inl hb)) (atI_n (j := 0) rfl rfl) ?_
      walk_at "sx"
      refine ⟨h1, ?_⟩
      refine ixL (.inl (.inl hb)) (atI_n (j := 0) rfl rfl) ?_
      walk_at "sx"
      refine ⟨hdm _, ?_⟩
      refine setL hb (ixN_n (j := 0) rfl (by simp)) ?_
      exact k _ _ (Int.emod_nonneg _ (by omega)) (Int.emod_lt_of_pos _ h1) Fx.put ⟨_, _, _, upd_same, h3, h4, h5, by omega⟩
    · simp only [h0, if_false]
      refine ixL (.inl (.inl hb)) (atI_n (j := 2) rfl rfl) ?_
      walk_at "sx"
      refine setL hb (ixN_n (j := 2) rfl (by simp)) ?_
      have hb2 : (upd H b (.lst [V.int x0, V.int x1, V.int (x2 + 1)])) b = some (.lst [V.int x0, V.int x1, V.int (x2 + 1)]) := upd_same
      refine ixL (.inl (.inl hb2)) (atI_n (j := 1) rfl rfl) ?_
      walk_at "sx"
      refine ixL (.inl (.inl hb2)) (atI_n (j := 2) rfl rfl) ?_
      walk_at "sx"
      have t42 : Int.toNat 42 = 42 := rfl
      have t39 : Int.toNat 39 = 39 := rfl
      have t37 : Int.toNat 37 = 37 := rfl
      have t3 : Int.toNat 3 = 3 := rfl
      have t5 : Int.toNat 5 = 5 := rfl
      rw [t42, t39, t3]
      generalize hz : (x1 + (x2 + 1) * 2971215073 ^ 3) % (10 ^ 42 + 63) = z
      have hz0 : 0 ≤ z := by rw [← hz]; exact Int.emod_nonneg _ (by decide)
      have hz1 : z < 10 ^ 42 + 63 := by rw [← hz]; exact Int.emod_lt_of_pos _ (by decide)
      refine ⟨⟨by decide, by decide, by decide⟩, .inl (.inl ⟨by omega, by omega⟩), ⟨by decide, by decide, by decide⟩, by decide, ⟨by decide, by decide, Nat.lt_of_lt_of_le (log2_small (k := 200) (by decide) (by omega)) (by decide)⟩, ⟨by decide, by decide, by decide⟩, by decide, ?_⟩
      refine ixL (.inl (.inl hb2)) (atI_n (j := 2) rfl rfl) ?_
      walk_at "sx"
      rw [t37, t5]
      generalize hy : z ^ 3 % (10 ^ 39 + 33) = y
      have hy0 : 0 ≤ y := by rw [← hy]; exact Int.emod_nonneg _ (by decide)
      have hy1 : y < 10 ^ 39 + 33 := by rw [← hy]; exact Int.emod_lt_of_pos _ (by decide)
      refine ⟨.inl (.inl ⟨by omega, by omega⟩), ⟨by decide, by decide, Nat.lt_of_lt_of_le (log2_small (k := 200) (by decide) (by omega)) (by decide)⟩, ⟨by decide, by decide, by decide⟩, by decide, ⟨by decide, by decide⟩, h1, ?_⟩
      exact k _ _ (Int.emod_nonneg _ (by omega)) (Int.emod_lt_of_pos _ h1) Fx.put ⟨_, _, _, hb2, h3, h4, by omega, by omega⟩
def spCells (K : PySem.W.Frag) : Sp := fun vs H Q _ => ∃ (a : Addr) (ns : List Int), vs = [.ref a] ∧ SqL K H a (ns.map V.int) ∧ ns.length ≤ 63 ∧ ∀ p ms H', H p = none → Ex H H' → H' p = some (.lst ((ms : List Int).map V.int)) → ms.length ≤ 64 → Q (.ref p) H'
theorem ok_law_cells (T : Txt K mg) : FnOk P w K mg base CX0 3 T.f_law_cells T.fd_law_cells ["_law_script"] (spCells K) := by
  refine T.F_law_cells.ok sc_law_cells (fun vs H Q E h => ?_) (fun cdv A outer s H vs Q E hr h => ?_)
  · obtain ⟨a, ns, rfl, _⟩ := h
    rfl
  · obtain ⟨a, ns, rfl, hA, hl, k⟩ := h
    apply Exists.intro
    apply And.intro
    · apply pss_one
      exact (ps_ret (pe_op op_cat (pe_lst (pa_cons (pe_callB (k_len (K := K) rfl) (by rfl) T.n_len PySem.boot_len (pa_cons (pv 0) pa_nil)) pa_nil)) (pe_slice (k_sl_list (K := K) rfl) (pv 0) po_none (po_some pe_int))))
    walk_at "sx"
    refine lenL hA ?_
    refine ⟨sz_ok (by simp), fun z nz1 => ?_⟩
    have ez := Ex.new nz1 (o := .lst [V.int (((ns.map V.int).length : Nat) : Int)])
    refine slL (ex_l ez hA) fun y ny => ?_
    have ey := Ex.new ny (o := .lst (cutV (ns.map V.int) none (some 7)))
    obtain ⟨ms, hms, hml⟩ : ∃ ms : List Int, cutV (ns.map V.int) none (some 7) = ms.map V.int ∧ ms.length ≤ 63 := by
      refine ⟨ns.take 7, ?_, by rw [List.length_take]; omega⟩
      rw [List.map_take]
      unfold cutV
      rw [show (7 : Int) = ((7 : Nat) : Int) from rfl, HT.sIx_nat, HT.sIx_none, List.drop_zero, Nat.sub_zero, List.length_map]
      by_cases c : 7 ≤ ns.length
      · rw [Nat.min_eq_left c]
      · rw [Nat.min_eq_right (by omega), List.take_of_length_le (by rw [List.length_map]; exact Nat.le_refl _), List.take_of_length_le (by rw [List.length_map]; omega)]
    rw [hms] at ey ⊢
    refine catL (ey _ _ upd_same) upd_same (sz_ok (by simp; omega)) fun p np => ?_
    have ep := Ex.new np (o := .lst ([V.int (((ns.map V.int).length : Nat) : Int)] ++ ms.map V.int))
    exact k p ((((ns.map V.int).length : Nat) : Int) :: ms) _ (fresh_back (ez.trans ey) np) ((ez.trans ey).trans ep) upd_same (by rw [List.length_cons]; omega)
def spNames : Sp := fun vs H Q _ => ∃ (b : Addr) (m c : Nat), vs = [.ref b, .int m] ∧ 1 ≤ m ∧ m ≤ 40 ∧ BagAt H b c ∧ c ≤ 100000 ∧ ∀ p ns H', H p = none → Fx b H H' → BagAt H' b (c + 4) → H' p = some (.lst ((ns : List Int).map V.int)) → 1 ≤ ns.length → ns.length ≤ 40 → Pg 40 ns → Q (.ref p) H'
/-- drawn visits -/
def spRow : Sp := fun vs H Q _ => ∃ (b a : Addr) (ns : List Int) (m c : Nat), vs = [.ref b, .ref a, .int m] ∧ H a = some (.lst (ns.map V.int)) ∧ a ≠ b ∧ 1 ≤ ns.length ∧ ns.length ≤ 40 ∧ Pg 40 ns ∧ m ≤ 300 ∧ BagAt H b c ∧ c ≤ 100000 ∧ ∀ p L H', H p = none → Fx b H H' → BagAt H' b (c + 400) → H' p = some (.lst ((L : List Int).map V.int)) → L.length ≤ m → Pg 40 L → Q (.ref p) H'
def JRw (H : Hp) (b a : Addr) (ns : List Int) (m st sz c : Nat) (i : Nat) (σ' : L2.St) (H' : Hp) : Prop := ∃ l3 f sp L, σ' = [some (.ref b), some (.ref a), some (.int m), l3, some (.int st), some (.int sz), some (.ref f), some (.int sp)] ∧ 0 ≤ sp ∧ sp < ns.length ∧ H f = none ∧ Fx b H H' ∧ BagAt H' b (c + 3 + i) ∧ H' f = some (.lst ((L : List Int).map V.int)) ∧ L.length = i ∧ Pg 40 L
end
section
variable {P : Program} {w : World} {K : PySem.W.Frag} {mg : Str → Option Value} {base : Heap}
open FO (Fo)
theorem ExAt.ex {H H' : Hp} {ex : Addr} {E : List (Nat × Nat)} (h : ExAt H ex E) (e : Ex H H') : ExAt H' ex E := by
  obtain ⟨ts, h1, h2, h3⟩ := h
  exact ⟨ts, e _ _ h1, h2, fun i t hi => e _ _ (h3 i t hi)⟩
theorem ExAt.off {H : Hp} {a r : Addr} {xs : List V} {o : HO} {E : List (Nat × Nat)} (h : ExAt H r E) (ne : r ≠ a) (ha : H a = some (.lst xs)) : ExAt (upd H a o) r E := by
  obtain ⟨ts, h1, h2, h3⟩ := h
  refine ⟨ts, by rw [upd_ne ne]; exact h1, h2, fun i t hi => ?_⟩
  have h := h3 i t hi
  have nt : t ≠ a := fun z => by
    subst z
    unfold PairAt at h
    rw [ha] at h
    cases h
  unfold PairAt at h ⊢
  rw [upd_ne nt]
  exact h
theorem ExAt.snoc {H : Hp} {r tp : Addr} {ts : List Addr} {E : List (Nat × Nat)} {p q : Nat} (hr : H r = some (.lst (ts.map V.ref ++ [V.ref tp]))) (hl : ts.length = E.length) (hp : ∀ (i : Nat) (t : Addr), ts[i]? = some t → PairAt H t ((FO.zs E).getD i (0, 0))) (ht : PairAt H tp ((p : Int), (q : Int))) : ExAt H r (E ++ [(p, q)]) := by
  refine ⟨ts ++ [tp], by rw [hr, List.map_append]; rfl, by rw [List.length_append, List.length_append, hl]; rfl, fun i t hi => ?_⟩
  rw [zs_app]
  by_cases c : i < ts.length
  · rw [List.getElem?_append_left c] at hi
    have h := hp i t hi
    rw [List.getD_eq_getElem?_getD, List.getElem?_append_left (by rw [zs_len]; omega), ← List.getD_eq_getElem?_getD]
    exact h
  · have hi2 : i = ts.length := by
      have := (List.getElem?_eq_some_iff.mp hi).1
      rw [List.length_append, List.length_singleton] at this
      omega
    subst hi2
    rw [List.getElem?_append_right (Nat.le_refl _), Nat.sub_self] at hi
    obtain rfl : tp = t := Option.some.inj hi
    rw [List.getD_eq_getElem?_getD, List.getElem?_append_right (by rw [zs_len]; omega), zs_len, hl, Nat.sub_self]
    exact ht
/-- rows of pairs, none of them the list x -/
def RowsAt (H : Hp) (a x : Addr) (Es : List (List (Nat × Nat))) : Prop := ∃ rs : List Addr, H a = some (.lst (rs.map V.ref)) ∧ rs.length = Es.length ∧ ∀ (i : Nat) (r : Addr), rs[i]? = some r → r ≠ a ∧ r ≠ x ∧ ExAt H r (Es.getD i [])
theorem RowsAt.ex {H H' : Hp} {a x : Addr} {Es : List (List (Nat × Nat))} (h : RowsAt H a x Es) (e : Ex H H') : RowsAt H' a x Es := by
  obtain ⟨rs, h1, h2, h3⟩ := h
  exact ⟨rs, e _ _ h1, h2, fun i r hi => ⟨(h3 i r hi).1, (h3 i r hi).2.1, (h3 i r hi).2.2.ex e⟩⟩
theorem getD_left {α : Type} {xs ys : List α} {i : Nat} {d : α} (h : i < xs.length) : (xs ++ ys).getD i d = xs.getD i d := by
  rw [List.getD_eq_getElem?_getD, List.getElem?_append_left h, ← List.getD_eq_getElem?_getD]
theorem getD_right {α : Type} {xs ys : List α} {i : Nat} {d : α} (h : xs.length ≤ i) : (xs ++ ys).getD i d = ys.getD (i - xs.length) d := by
  rw [List.getD_eq_getElem?_getD, List.getElem?_append_right h, ← List.getD_eq_getElem?_getD]
/-- the rows of b are added to a's -/
theorem RowsAt.cat {H : Hp} {a x : Addr} {rs ss : List Addr} {Es Fs : List (List (Nat × Nat))} (ha : H a = some (.lst (rs.map V.ref))) (hl : rs.length = Es.length) (hr : ∀ (i : Nat) (r : Addr), rs[i]? = some r → r ≠ a ∧ r ≠ x ∧ ExAt H r (Es.getD i []))
    (hl2 : ss.length = Fs.length) (hs : ∀ (i : Nat) (r : Addr), ss[i]? = some r → r ≠ a ∧ r ≠ x ∧ ExAt H r (Fs.getD i [])) : RowsAt (upd H a (.lst (rs.map V.ref ++ ss.map V.ref))) a x (Es ++ Fs) := by
  refine ⟨rs ++ ss, by rw [upd_same, List.map_append], by rw [List.length_append, List.length_append, hl, hl2], fun i r hi => ?_⟩
  by_cases c : i < rs.length
  · rw [List.getElem?_append_left c] at hi
    obtain ⟨a1, a2, a3⟩ := hr i r hi
    rw [getD_left (by omega)]
    exact ⟨a1, a2, a3.off a1 ha⟩
  · rw [List.getElem?_append_right (by omega)] at hi
    obtain ⟨a1, a2, a3⟩ := hs _ r hi
    rw [getD_right (by omega), ← hl]
    exact ⟨a1, a2, a3.off a1 ha⟩
def ext (m p : Nat) (r : List (Nat × Nat)) : List (List (Nat × Nat)) := (List.range m).map fun q => r ++ [(p, q)]
theorem ext_take (m p : Nat) (r : List (Nat × Nat)) (j : Nat) (h : j < m) : (ext m p r).take (j + 1) = (ext m p r).take j ++ [r ++ [(p, j)]] := by
  unfold ext
  rw [List.take_add_one, List.getElem?_map, List.getElem?_range h]
  rfl
theorem ext_len (m p : Nat) : ∀ l : List (List (Nat × Nat)), (l.flatMap (ext m p)).length = l.length * m
  | [] => by simp
  | r :: l => by
    rw [List.flatMap_cons, List.length_append, ext_len m p l]
    unfold ext
    rw [List.length_map, List.length_range, List.length_cons, Nat.succ_mul, Nat.add_comm]
theorem ExAt.keep {H H' : Hp} {lg r : Addr} {xs : List V} {E : List (Nat × Nat)} (h : ExAt H r E) (kk : ∀ b o, H b = some o → b ≠ lg → H' b = some o) (ne : r ≠ lg) (hlg : H lg = some (.lst xs)) : ExAt H' r E := by
  obtain ⟨ts, h1, h2, h3⟩ := h
  refine ⟨ts, kk _ _ h1 ne, h2, fun i t hi => ?_⟩
  have h := h3 i t hi
  refine kk _ _ h fun z => ?_
  subst z
  unfold PairAt at h
  rw [hlg] at h
  cases h
def J1 (H : Hp) (m p : Nat) (σ' : L2.St) (H' : Hp) : Prop := ∃ ra l2 l4 l5 l11, σ' = [some (.int m), some (.ref ra), l2, none, l4, l5, none, none, none, none, none, l11, none] ∧ Ex H H' ∧ RowsAt H' ra ra (FO.rows m p)
def J2 (H0 : Hp) (m p : Nat) (ra lg : Addr) (i : Nat) (σ' : L2.St) (H' : Hp) : Prop := ∃ l4 l11, σ' = [some (.int m), some (.ref ra), some (.int p), none, l4, some (.ref lg), none, none, none, none, none, l11, none] ∧ (∀ b o, H0 b = some o → b ≠ lg → H' b = some o) ∧ RowsAt H' lg lg (((FO.rows m p).take i).flatMap (ext m p))
theorem rows_ok (m : Nat) : ∀ p, p ≤ m → ∀ E ∈ FO.rows m p, E.length = p ∧ ∀ i, i < p → (E.getD i (0, 0)).1 = i ∧ (E.getD i (0, 0)).2 < m
  | 0, _, E, h => by
    have : E = [] := List.mem_singleton.mp h
    subst this
    exact ⟨rfl, fun i hi => absurd hi (by omega)⟩
  | p + 1, hp, E, h => by
    obtain ⟨r, hr, h2⟩ := List.mem_flatMap.mp h
    obtain ⟨q, hq, rfl⟩ := List.mem_map.mp h2
    rw [List.mem_range] at hq
    obtain ⟨l, g⟩ := rows_ok m p (by omega) r hr
    refine ⟨by rw [List.length_append, l]; rfl, fun i hi => ?_⟩
    rw [List.getD_eq_getElem?_getD]
    by_cases c : i < p
    · rw [List.getElem?_append_left (by omega), ← List.getD_eq_getElem?_getD]
      exact g i c
    · have hi2 : i = p := by omega
      subst hi2
      rw [List.getElem?_append_right (by omega), l, Nat.sub_self]
      exact ⟨rfl, hq⟩
theorem rows_len (m : Nat) : ∀ p, (FO.rows m p).length = m ^ p
  | 0 => rfl
  | p + 1 => by
    show ((FO.rows m p).flatMap _).length = _
    rw [List.length_flatMap]
    have : (List.map (fun a => (List.map (fun q => a ++ [(p, q)]) (List.range m)).length) (FO.rows m p)) = List.replicate (m ^ p) m := by
      rw [← rows_len m p]
      apply List.ext_getElem?
      intro i
      rw [List.getElem?_map, List.getElem?_replicate]
      by_cases c : i < (FO.rows m p).length
      · rw [List.getElem?_eq_getElem c, if_pos c]
        simp
      · rw [List.getElem?_eq_none (by omega), if_neg c]
        rfl
    rw [this, List.sum_replicate_nat, Nat.pow_succ]
theorem shape_eq {m : Nat} {E : List (Nat × Nat)} (hl : E.length = m) (hf : ∀ i, i < m → (E.getD i (0, 0)).1 = i) : E = (List.range m).map fun i => (i, FO.to E i) := by
  apply List.ext_getElem?
  intro i
  rw [List.getElem?_map]
  by_cases c : i < m
  · rw [List.getElem?_range c]
    have e : E[i]? = some (E.getD i (0, 0)) := by
      rw [List.getD_eq_getElem?_getD, List.getElem?_eq_getElem (by omega)]
      rfl
    rw [e]
    show some _ = some (i, FO.to E i)
    congr 1
    exact Prod.ext (hf i c) rfl
  · rw [List.getElem?_eq_none (by omega), List.getElem?_eq_none (by rw [List.length_range]; omega)]
    rfl
theorem roots_eq {m : Nat} {E : List (Nat × Nat)} (hl : E.length = m) (hf : ∀ i, i < m → (E.getD i (0, 0)).1 = i) : kept m (fun i => decide (i = FO.to E i)) (fun i => V.int ((i : Nat) : Int)) = (nz (FO.roots E)).map V.int := by
  have e : FO.roots E = (List.range m).filter fun i => decide (i = FO.to E i) := by
    unfold FO.roots
    conv => lhs; rw [shape_eq hl hf]
    rw [List.filter_map, List.map_map]
    show List.map (fun i => i) _ = _
    rw [List.map_id']
    rfl
  unfold kept nz
  rw [e, List.map_map]
  rfl
theorem zs_nodup {m : Nat} {E : List (Nat × Nat)} (hl : E.length = m) (hf : ∀ i, i < m → (E.getD i (0, 0)).1 = i) : ((FO.zs E).map (·.1)).Nodup := by
  unfold FO.zs
  rw [shape_eq hl hf, List.map_map, List.map_map]
  show (List.map (fun i : Nat => (i : Int)) (List.range m)).Nodup
  unfold List.Nodup
  rw [List.pairwise_map]
  exact List.Pairwise.imp (fun {a b} (h : a ≠ b) e => h (Int.ofNat.inj e)) List.nodup_range
theorem zs_mem {m : Nat} {E : List (Nat × Nat)} (hl : E.length = m) (hf : ∀ i, i < m → (E.getD i (0, 0)).1 = i) {i : Nat} (hi : i < m) : ((i : Int), (FO.to E i : Int)) ∈ FO.zs E := by
  unfold FO.zs
  refine List.mem_map.mpr ⟨E.getD i (0, 0), ?_, ?_⟩
  · rw [List.getD_eq_getElem?_getD, List.getElem?_eq_getElem (by omega)]
    exact List.getElem_mem _
  · rw [hf i hi]
    rfl
theorem end_lt {m : Nat} {E : List (Nat × Nat)} (hs : ∀ i, i < m → (E.getD i (0, 0)).2 < m) {p : Nat} (hp : p < m) : ∀ n, FO.endOf E n p < m
  | 0 => hp
  | n + 1 => hs _ (end_lt hs hp n)
def J4 (H5 : Hp) (m : Nat) (ra fd : Addr) (i : Nat) (σ' : L2.St) (H' : Hp) : Prop := ∃ l2 l4 l5 l6 l7 l8 l9 l10 l11 l12, σ' = [some (.int m), some (.ref ra), l2, some (.ref fd), l4, l5, l6, l7, l8, l9, l10, l11, l12] ∧ (∀ b o, H5 b = some o → b ≠ fd → H' b = some o) ∧ RowsAt H' fd fd (((FO.rows m m).take i).filter (FO.good m))
def JE (H6 : Hp) (m : Nat) (ra fd r d D en : Addr) (l5 l11 l12 : Option V) (E : List (Nat × Nat)) (i : Nat) (σ' : L2.St) (H' : Hp) : Prop := ∃ l2 l9 l10, σ' = [some (.int m), some (.ref ra), l2, some (.ref fd), some (.ref r), l5, some (.ref en), some (.ref d), some (.ref D), l9, l10, l11, l12] ∧ (∀ b o, H6 b = some o → b ≠ en → H' b = some o) ∧ H' en = some (.lst ((nz ((List.range i).map (FO.endOf E m))).map V.int))
def JSt (H7 : Hp) (m : Nat) (ra fd r d D en : Addr) (l5 l11 l12 : Option V) (E : List (Nat × Nat)) (p : Nat) (j : Nat) (σ' : L2.St) (H' : Hp) : Prop := ∃ l10, σ' = [some (.int m), some (.ref ra), some (.int p), some (.ref fd), some (.ref r), l5, some (.ref en), some (.ref d), some (.ref D), some (.int (FO.endOf E j p : Nat)), l10, l11, l12] ∧ H' = H7
def spTrees : Sp := fun vs H Q _ => ∃ m : Nat, vs = [.int m] ∧ 1 ≤ m ∧ m ≤ 4 ∧ ∀ a H', H a = none → Ex H H' → RowsAt H' a a (FO.trees m) → Q (.ref a) H'
theorem ok_law_trees (T : Txt K mg) : FnOk P w K mg base CX0 3 T.f_law_trees T.fd_law_trees ["_law_size"] spTrees := by
  refine T.F_law_trees.ok sc_law_trees (fun vs H Q E h => ?_) (fun cdv A outer s H vs Q E hr h => ?_)
  · obtain ⟨m, rfl, _⟩ := h
    rfl
  · obtain ⟨m, rfl, h1, h2, k⟩ := h
    apply Exists.intro
    apply And.intro
    · apply pss_cons
      · exact (ps_set (i := 1) sc_law_trees.nd rfl (.inl rfl) (pe_lst (pa_cons (pe_lst pa_nil) pa_nil)))
      apply pss_cons
      · apply ps_for PassesOwn.never rfl
        · exact (pi_range1 (by rfl) T.n_range (pa_cons (pv 0) pa_nil))
        · exact (pg_name (i := 2) sc_law_trees.nd rfl (.inr rfl))
        · apply pss_cons
          · exact (ps_set (i := 5) sc_law_trees.nd rfl (.inl rfl) (pe_lst pa_nil))
          apply pss_cons
          · apply ps_for PassesOwn.never rfl
            · exact (k_pi_list (K := K) rfl (pv 1))
            · exact (pg_name (i := 4) sc_law_trees.nd rfl (.inr rfl))
            · apply pss_one
              exact (ps_expr (k_bm (K := K) rfl (pe_bm PySem.F.plainAttrs_list PySem.F.slot_list_extend PySem.F.type_list_extend mt_extend (pv 5) (pa_cons (pe_lc (own := [("_law_out", 11)]) rfl sc_law_trees.nd (pi_range1 (by rfl) T.n_range (pa_cons (pv 0) pa_nil)) (blkOk_by (own := [("_law_out", 11)]) (N := ["_law_size", "_law_rows", "_law_page_here", "_law_found", "_law_row", "_law_longer", "_law_ends", "_law_way", "_law_roots", "_law_spot", "_law_step", "_law_out", "_law_end"]) (sc := defScope s_law_trees) (by decide +kernel)) (fun _ _ _ _ _ => by exact (pg_name (i := 11) sc_law_trees.nd rfl (.inl rfl))) (fun _ _ _ _ _ => by exact pts_nil) (fun _ _ _ _ _ => by exact (pe_op op_cat (pv 4) (pe_lst (pa_cons (pe_tup (pa_cons (pv 2) (pa_cons (pv 11) pa_nil))) pa_nil))))) pa_nil))))
          apply pss_one
          exact (ps_set (i := 1) sc_law_trees.nd rfl (.inl rfl) (pv 5))
      apply pss_cons
      · exact (ps_set (i := 3) sc_law_trees.nd rfl (.inl rfl) (pe_lst pa_nil))
      apply pss_cons
      · apply ps_for PassesOwn.never rfl
        · exact (k_pi_list (K := K) rfl (pv 1))
        · exact (pg_name (i := 4) sc_law_trees.nd rfl (.inr rfl))
        · apply pss_cons
          · exact (ps_asg (pe_tup (pa_cons (pe_callTy (k_dictP (K := K) rfl rfl) (by rfl) T.n_dict (by decide +kernel) (pa_cons (pv 4) pa_nil)) (pa_cons (pe_lc (own := [("_law_page_here", 2), ("_law_out", 11)]) rfl sc_law_trees.nd (k_pi_list (K := K) rfl (pv 4)) (blkOk_by (own := [("_law_page_here", 2), ("_law_out", 11)]) (N := ["_law_size", "_law_rows", "_law_page_here", "_law_found", "_law_row", "_law_longer", "_law_ends", "_law_way", "_law_roots", "_law_spot", "_law_step", "_law_out", "_law_end"]) (sc := defScope s_law_trees) (by decide +kernel)) (fun _ _ _ _ _ => by exact (k_tup (K := K) (n := 2) rfl rfl (pgs_cons (pg_name (i := 2) sc_law_trees.nd rfl (.inl rfl)) (pgs_cons (pg_name (i := 11) sc_law_trees.nd rfl (.inl rfl)) pgs_nil)))) (fun _ _ _ _ _ => by exact (pts_one (pt_cmpR op_eq (pv 2) (pv 11) (by rfl)))) (fun _ _ _ _ _ => by exact (pv 2))) pa_nil))) (k_tup (K := K) (n := 2) rfl rfl (pgs_cons (pg_name (i := 7) sc_law_trees.nd rfl (.inl rfl)) (pgs_cons (pg_name (i := 8) sc_law_trees.nd rfl (.inr rfl)) pgs_nil))))
          apply pss_cons
          · exact (ps_set (i := 6) sc_law_trees.nd rfl (.inl rfl) (pe_lst pa_nil))
          apply pss_cons
          · apply ps_for PassesOwn.never rfl
            · exact (pi_range1 (by rfl) T.n_range (pa_cons (pv 0) pa_nil))
            · exact (pg_name (i := 2) sc_law_trees.nd rfl (.inr rfl))
            · apply pss_cons
              · exact (ps_set (i := 9) sc_law_trees.nd rfl (.inl rfl) (pv 2))
              apply pss_cons
              · apply ps_for PassesOwn.never rfl
                · exact (pi_range1 (by rfl) T.n_range (pa_cons (pv 0) pa_nil))
                · exact (pg_name (i := 10) sc_law_trees.nd rfl (.inl rfl))
                · apply pss_one
                  exact (ps_set (i := 9) sc_law_trees.nd rfl (.inl rfl) (pe_dget (hu_of hr) (pv 7) (pv 9) (fun _ _ => rfl)))
              apply pss_one
              exact (ps_expr (k_bm (K := K) rfl (pe_bm PySem.F.plainAttrs_list PySem.F.slot_list_append PySem.F.type_list_append mt_append (pv 6) (pa_cons (pv 9) pa_nil))))
          apply pss_one
          apply ps_if
          · exact (PW.pt (pw_and (pt_cmpR op_eq (pe_callB (k_len (K := K) rfl) (by rfl) T.n_len PySem.boot_len (pa_cons (pv 8) pa_nil)) pe_int (by rfl)) (pw_and1 (pt_cmpR (k_eqD (K := K) rfl hr.units) (pe_lc (own := [("_law_end", 12)]) rfl sc_law_trees.nd (k_pi_list (K := K) rfl (pv 6)) (blkOk_by (own := [("_law_end", 12)]) (N := ["_law_size", "_law_rows", "_law_page_here", "_law_found", "_law_row", "_law_longer", "_law_ends", "_law_way", "_law_roots", "_law_spot", "_law_step", "_law_out", "_law_end"]) (sc := defScope s_law_trees) (by decide +kernel)) (fun _ _ _ _ _ => by exact (pg_name (i := 12) sc_law_trees.nd rfl (.inl rfl))) (fun _ _ _ _ _ => by exact (pts_one (pt_cmpR op_ne (pv 12) (pe_ix (k_ix_list (K := K) rfl) (pv 8) pe_int (fun _ _ => rfl)) (by rfl)))) (fun _ _ _ _ _ => by exact pe_int)) (pe_lst pa_nil) (by rfl)))))
          · apply pss_one
            exact (ps_expr (k_bm (K := K) rfl (pe_bm PySem.F.plainAttrs_list PySem.F.slot_list_append PySem.F.type_list_append mt_append (pv 3) (pa_cons (pv 4) pa_nil))))
          · exact pss_nil
      apply pss_one
      exact (ps_ret (pv 3))
    walk_at "sx"
    refine ⟨sz_ok (by omega), fun r0 nr0 => ⟨sz_ok (by omega), fun ra nra => ⟨by omega, by omega, ?_⟩⟩⟩
    rw [Int.toNat_natCast]
    have e1 := (Ex.new nr0 (o := .lst [])).trans (Ex.new nra (o := .lst [V.ref r0]))
    have n0a : r0 ≠ ra := ne_of_none upd_same nra
    refine lg_rng (J1 H m) ⟨ra, none, none, none, none, rfl, e1, [r0], upd_same, rfl, fun i r hi => ?_⟩ (fun p σ' H' hp hP => ?_) (fun σ' H' hP => ?_)
    · have hi0 : i = 0 := by
        have := (List.getElem?_eq_some_iff.mp hi).1
        simp at this
        omega
      subst hi0
      obtain rfl : r0 = r := Option.some.inj hi
      exact ⟨n0a, n0a, [], by rw [upd_ne n0a, upd_same]; rfl, rfl, fun i t h => by simp at h⟩
    · obtain ⟨ra, l2, l4, l5, l11, rfl, e, hR⟩ := hP
      rw [Int.zero_add]
      walk_at "sx"
      refine ⟨sz_ok (by omega), fun lg nlg => ?_⟩
      have el := Ex.new nlg (o := .lst [])
      obtain ⟨rs, g1, g2, g3⟩ := hR
      have hlg : (upd H' lg (.lst [])) lg = some (.lst []) := upd_same
      have e2 := e.trans el
      have nlgH : H lg = none := fresh_back e nlg
      have nral : ra ≠ lg := ne_of_none g1 nlg
      have g3 : ∀ (i : Nat) (r : Addr), rs[i]? = some r → r ≠ lg ∧ ExAt (upd H' lg (.lst [])) r ((FO.rows m p).getD i []) := fun i r hi => by
        obtain ⟨_, _, ⟨ts, q1, q2, q3⟩⟩ := g3 i r hi
        exact ⟨ne_of_none q1 nlg, ExAt.ex ⟨ts, q1, q2, q3⟩ el⟩
      have g1 := el _ _ g1
      generalize upd H' lg (.lst []) = H1 at el g1 g3 hlg e2 ⊢
      have hrl := rows_len m p
      refine ⟨⟨_, .inl (.inl g1)⟩, ?_⟩
      refine lg_list (xs := rs.map V.ref) (J2 H1 m p ra lg) ⟨_, _, rfl, fun b o hb _ => hb, [], hlg, rfl, fun i r hi => by simp at hi⟩ (fun i σ2 H2 _ hP => by
        obtain ⟨_, _, _, kk, _⟩ := hP
        exact .inl (.inl (kk _ _ g1 nral))) (fun i v σ2 H2 hv hP => ?_) (fun σ2 H2 hP => ?_)
      · obtain ⟨l4, l11, rfl, kk, hL⟩ := hP
        rw [List.getElem?_map] at hv
        obtain ⟨r, hr, rfl⟩ := Option.map_eq_some_iff.mp hv
        have hi := (List.getElem?_eq_some_iff.mp hr).1
        obtain ⟨b1, b3⟩ := g3 i r hr
        have hE := b3.keep kk b1 hlg
        have hri : (FO.rows m p)[i]? = some ((FO.rows m p).getD i []) := by
          rw [List.getD_eq_getElem?_getD, List.getElem?_eq_getElem (by omega)]
          rfl
        have hfl : ((FO.rows m p).take (i + 1)).flatMap (ext m p) = ((FO.rows m p).take i).flatMap (ext m p) ++ ext m p ((FO.rows m p).getD i []) := by
          rw [List.take_add_one, hri, List.flatMap_append]
          simp
        have hfn := ext_len m p ((FO.rows m p).take i)
        have hm4 : m ^ p ≤ 256 := pow_256 h2 (by omega)
        have hil : ((FO.rows m p).take i).length ≤ 256 := by
          rw [List.length_take]
          omega
        obtain ⟨rs3, q1, q2, q3⟩ := hL
        have hEl := (rows_ok m p (by omega) _ (List.mem_of_getElem? hri)).1
        generalize (FO.rows m p).getD i [] = E at hE hfl hEl
        walk_at "sx"
        refine ⟨tyL q1, by omega, by omega, fun D nD => ?_⟩
        rw [Int.toNat_natCast]
        have nlD : lg ≠ D := ne_of_none q1 nD
        refine lc_rngE (lo := 0) (n := m) (fun j H3 => Ex H2 H3 ∧ RowsAt H3 D lg ((ext m p E).take j)) ⟨Ex.new nD, [], upd_same, rfl, fun i r hi => by simp at hi⟩ (fun j H3 hj h => ?_) (fun H3 h => ?_)
        · obtain ⟨e3, ss, d1, d2, d3⟩ := h
          refine ⟨rfl, ?_⟩
          simp only [wipe, List.set_cons_zero, List.set_cons_succ]
          rw [Int.zero_add]
          walk_at "sx"
          refine ⟨sz_ok (by omega), fun tp ntp => ⟨sz_ok (by omega), fun lp nlp => ?_⟩⟩
          obtain ⟨ts, t1, t2, t3⟩ := hE.ex e3
          have x1 := Ex.new ntp (o := .tup [V.int p, V.int j])
          have x2 := x1.trans (Ex.new nlp (o := .lst [V.ref tp]))
          refine catL (x2 _ _ t1) upd_same (sz_ok (by rw [List.length_map, t2, List.length_singleton]; omega)) fun r2 nr2 => ?_
          have x3 := x2.trans (Ex.new nr2 (o := .lst (ts.map V.ref ++ [V.ref tp])))
          have ht := ((Ex.new nlp (o := .lst [V.ref tp])).trans (Ex.new nr2 (o := .lst (ts.map V.ref ++ [V.ref tp])))) tp _ (show (upd H3 tp (.tup [V.int p, V.int j])) tp = some (.tup [V.int p, V.int j]) from upd_same)
          have hr2 : (upd (upd (upd H3 tp (.tup [V.int p, V.int j])) lp (.lst [V.ref tp])) r2 (.lst (ts.map V.ref ++ [V.ref tp]))) r2 = some (.lst (ts.map V.ref ++ [V.ref tp])) := upd_same
          have nDr : D ≠ r2 := ne_of_none (x2 _ _ d1) nr2
          have nlr : lg ≠ r2 := ne_of_none (x2 _ _ (e3 _ _ q1)) nr2
          generalize upd (upd (upd H3 tp (.tup [V.int p, V.int j])) lp (.lst [V.ref tp])) r2 (.lst (ts.map V.ref ++ [V.ref tp])) = G at x3 ht hr2 ⊢
          have hssl : ss.length ≤ 4 := by
            rw [d2, List.length_take]
            unfold ext
            rw [List.length_map, List.length_range]
            omega
          refine ⟨_, x3 _ _ d1, BC.sz_lt (by rw [List.length_map]; omega), (e3.trans x3).mut nD, ?_⟩
          rw [ext_take m p E j hj]
          exact RowsAt.cat (ss := [r2]) (Fs := [E ++ [(p, j)]]) (x3 _ _ d1) d2 (fun i r hi => ⟨(d3 i r hi).1, (d3 i r hi).2.1, (d3 i r hi).2.2.ex x3⟩) rfl (fun i r hi => by
            have hi0 : i = 0 := by
              have := (List.getElem?_eq_some_iff.mp hi).1
              simp at this
              omega
            subst hi0
            obtain rfl : r2 = r := Option.some.inj hi
            exact ⟨Ne.symm nDr, Ne.symm nlr, ExAt.snoc hr2 t2 (fun i t hi => x3 _ _ (t3 i t hi)) ht⟩)
        · obtain ⟨e3, ss, d1, d2, d3⟩ := h
          have hel : (ext m p E).length = m := by
            unfold ext
            rw [List.length_map, List.length_range]
          rw [List.take_of_length_le (by omega)] at d2 d3
          refine ⟨lg, D, _, _, rfl, rfl, e3 _ _ q1, d1, ?_, ?_⟩
          · rw [List.length_map, List.length_map, q2, d2, hfn, hel]
            have : ((FO.rows m p).take i).length * m ≤ 256 * 4 := Nat.mul_le_mul hil h2
            exact sz_ok (by omega)
          · refine ⟨_, _, rfl, fun b o hb nb => ?_, ?_⟩
            · rw [upd_ne nb]
              exact e3 _ _ (kk b o hb nb)
            · rw [hfl]
              exact RowsAt.cat (e3 _ _ q1) q2 (fun i r hi => ⟨(q3 i r hi).1, (q3 i r hi).2.1, (q3 i r hi).2.2.ex e3⟩) d2 (fun i r hi => ⟨(d3 i r hi).2.1, (d3 i r hi).2.1, (d3 i r hi).2.2⟩)
      · obtain ⟨l4, l11, rfl, kk, hL⟩ := hP
        rw [List.length_map, g2, List.take_length] at hL
        walk_at "sx"
        exact ⟨lg, _, _, _, _, rfl, fun b o hb => kk b o (e2 _ _ hb) (ne_of_none hb nlgH), hL⟩
    · obtain ⟨ra, l2, l4, l5, l11, rfl, e, hR⟩ := hP
      obtain ⟨rs, g1, g2, g3⟩ := hR
      walk_at "sx"
      refine ⟨sz_ok (by omega), fun fd nfd => ?_⟩
      have el := Ex.new nfd (o := .lst [])
      have e2 := e.trans el
      have nfdH : H fd = none := fresh_back e nfd
      have nraf : ra ≠ fd := ne_of_none g1 nfd
      have g3 : ∀ (i : Nat) (r : Addr), rs[i]? = some r → r ≠ fd ∧ ExAt (upd H' fd (.lst [])) r ((FO.rows m m).getD i []) := fun i r hi => by
        obtain ⟨_, _, ⟨ts, q1, q2, q3⟩⟩ := g3 i r hi
        exact ⟨ne_of_none q1 nfd, ExAt.ex ⟨ts, q1, q2, q3⟩ el⟩
      have g1 := el _ _ g1
      have hfd : (upd H' fd (.lst [])) fd = some (.lst []) := upd_same
      have hrl := rows_len m m
      have hm4 : m ^ m ≤ 256 := pow_256 h2 h2
      generalize upd H' fd (.lst []) = H5 at el e2 g1 g3 hfd ⊢
      refine ⟨⟨_, .inl (.inl g1)⟩, ?_⟩
      refine lg_list (xs := rs.map V.ref) (J4 H5 m ra fd) ⟨_, _, _, _, _, _, _, _, _, _, rfl, fun b o hb _ => hb, [], hfd, rfl, fun i r hi => by simp at hi⟩ (fun i σ2 H2 _ hP => by
        obtain ⟨_, _, _, _, _, _, _, _, _, _, _, kk, _⟩ := hP
        exact .inl (.inl (kk _ _ g1 nraf))) (fun i v σ2 H2 hv hP => ?_) (fun σ2 H2 hP => ?_)
      · obtain ⟨l2, l4, l5, l6, l7, l8, l9, l10, l11, l12, rfl, kk, hL⟩ := hP
        rw [List.getElem?_map] at hv
        obtain ⟨r, hr, rfl⟩ := Option.map_eq_some_iff.mp hv
        have hi := (List.getElem?_eq_some_iff.mp hr).1
        obtain ⟨b1, b3⟩ := g3 i r hr
        have hE := b3.keep kk b1 hfd
        have hri : (FO.rows m m)[i]? = some ((FO.rows m m).getD i []) := by
          rw [List.getD_eq_getElem?_getD, List.getElem?_eq_getElem (by omega)]
          rfl
        have hfl : ((FO.rows m m).take (i + 1)).filter (FO.good m) = ((FO.rows m m).take i).filter (FO.good m) ++ (if FO.good m ((FO.rows m m).getD i []) = true then [(FO.rows m m).getD i []] else []) := by
          rw [List.take_add_one, hri, List.filter_append]
          congr 1
          show List.filter _ [_] = _
          rw [List.filter_cons]
          rfl
        obtain ⟨hEl, hEs⟩ := rows_ok m m (by omega) _ (List.mem_of_getElem? hri)
        have hfl2 : (((FO.rows m m).take i).filter (FO.good m)).length ≤ 256 := by
          have := List.length_filter_le (FO.good m) ((FO.rows m m).take i)
          rw [List.length_take] at this
          omega
        generalize (FO.rows m m).getD i [] = E at hE hfl hEl hEs
        have hfst : ∀ i, i < m → (E.getD i (0, 0)).1 = i := fun i hi => (hEs i hi).1
        have hsnd : ∀ i, i < m → (E.getD i (0, 0)).2 < m := fun i hi => (hEs i hi).2
        obtain ⟨fs, q1, q2, q3⟩ := hL
        obtain ⟨ts, t1, t2, t3⟩ := hE
        walk_at "sx"
        refine ⟨r, ts, FO.zs E, rfl, ⟨.inl (.inl t1), by rw [t2, zs_len], t3⟩, zs_nodup hEl hfst, fun d nd => ?_⟩
        have x1 := Ex.new nd (o := .dK ((FO.zs E).map itK))
        have t3' : ∀ (i : Nat) (t : Addr), ts[i]? = some t → H2 t = some (.tup [.int (i : Int), .int (FO.to E i : Nat)]) := fun i t hi => by
          have hi2 := (List.getElem?_eq_some_iff.mp hi).1
          have h := t3 i t hi
          unfold PairAt at h
          rw [zs_getD, hfst i (by omega)] at h
          exact h
        refine ⟨⟨_, .inl (.inl (x1 _ _ t1))⟩, fun D nD => ?_⟩
        refine lc_pairs (ts := ts) (u := fun i => .int (i : Int)) (v := fun i => .int (FO.to E i : Nat)) (.inl ⟨rfl, .inl (.inl (x1 _ _ t1))⟩) (fun i t hi => x1 _ _ (t3' i t hi)) (fun i => decide (i = FO.to E i)) (fun i => V.int ((i : Nat) : Int)) nD (by omega) (fun u v => rfl) (fun i _ => ?_) (fun i hi _ => ev_var rfl) (fun H3 e3 hD => ?_)
        · intro Hz ez R hR
          walk_at "sx"
          refine ⟨_, rfl, _, rfl, rfl, _, rfl, ?_⟩
          have ed : decide (V.int (i : Int) = V.int (FO.to E i : Nat)) = decide (i = FO.to E i) := decide_eq_decide.mpr ⟨fun h => Int.ofNat.inj (V.int.inj h), fun h => by rw [← h]⟩
          rw [ed]
          exact hR _ (Ex.refl _)
        rw [t2, hEl, roots_eq hEl hfst] at hD
        refine ⟨sz_ok (by omega), fun tp ntp => g_two upd_same ?_⟩
        have x3 := (x1.trans e3).trans (Ex.new ntp (o := .tup [V.ref d, V.ref D]))
        have hd4 := (Ex.new ntp (o := .tup [V.ref d, V.ref D])) _ _ (e3 _ _ (show (upd H2 d (.dK ((FO.zs E).map itK))) d = some (.dK ((FO.zs E).map itK)) from upd_same))
        have hD4 := (Ex.new ntp (o := .tup [V.ref d, V.ref D])) _ _ hD
        generalize upd H3 tp (.tup [V.ref d, V.ref D]) = H4 at x3 hd4 hD4 ⊢
        walk_at "sx"
        refine ⟨sz_ok (by omega), fun en nen => ⟨by omega, by omega, ?_⟩⟩
        rw [Int.toNat_natCast]
        have x4 := x3.trans (Ex.new nen (o := .lst []))
        have nenH2 : H2 en = none := fresh_back x3 nen
        have hd6 := (Ex.new nen (o := .lst [])) _ _ hd4
        have hD6 := (Ex.new nen (o := .lst [])) _ _ hD4
        have hen6 : (upd H4 en (.lst [])) en = some (.lst []) := upd_same
        have nden : d ≠ en := ne_of_none hd4 nen
        have nDen : D ≠ en := ne_of_none hD4 nen
        generalize upd H4 en (.lst []) = H6 at x4 hd6 hD6 hen6 ⊢
        refine lg_rng (JE H6 m ra fd r d D en l5 l11 l12 E) ⟨_, _, _, rfl, fun b o hb _ => hb, hen6⟩ (fun p σ7 H7 hp hP => ?_) (fun σ7 H7 hP => ?_)
        · obtain ⟨l2, l9, l10, rfl, k6, hen⟩ := hP
          rw [Int.zero_add]
          walk_at "sx"
          refine ⟨by omega, by omega, ?_⟩
          rw [Int.toNat_natCast]
          have hd7 := k6 _ _ hd6 nden
          refine lg_rng (JSt H7 m ra fd r d D en l5 l11 l12 E p) ⟨_, rfl, rfl⟩ (fun j σ8 H8 hj hP => ?_) (fun σ8 H8 hP => ?_)
          · obtain ⟨l10, rfl, rfl⟩ := hP
            walk_at "sx"
            have hlt := end_lt hsnd hp j
            exact ⟨_, .inl ⟨_, Sum.inl ((FO.endOf E j p : Nat) : Int), .inl hd7, rfl, (valV_itK (zs_nodup hEl hfst) (zs_mem hEl hfst hlt)).symm⟩, _, rfl, rfl⟩
          · obtain ⟨l10, rfl, rfl⟩ := hP
            walk_at "sx"
            refine ⟨tyL hen, ?_⟩
            refine appL hen (BC.sz_lt (by rw [List.length_map, nz_len, List.length_map, List.length_range]; omega)) ?_
            refine ⟨_, _, _, rfl, fun b o hb nb => by rw [upd_ne nb]; exact k6 b o hb nb, ?_⟩
            rw [upd_same, List.range_succ, List.map_append]
            unfold nz
            rw [List.map_append, List.map_append]
            rfl
        · obtain ⟨l2, l9, l10, rfl, k6, hen⟩ := hP
          have hD7 := k6 _ _ hD6 nDen
          have k27 : ∀ b o, H2 b = some o → H7 b = some o := fun b o hb => k6 b o (x4 _ _ hb) (ne_of_none hb nenH2)
          walk_at "sx"
          refine lenL (.inl (.inl hD7)) ?_
          rw [List.length_map, nz_len]
          have fin : ∀ (H9 : Hp), Ex H7 H9 → J4 H5 m ra fd (i + 1) [some (.int m), some (.ref ra), l2, some (.ref fd), some (.ref r), l5, some (.ref en), some (.ref d), some (.ref D), l9, l10, l11, l12] (if FO.good m E = true then upd H9 fd (.lst (fs.map V.ref ++ [V.ref r])) else H9) := fun H9 e9 => by
            have k9 : ∀ b o, H2 b = some o → H9 b = some o := fun b o hb => e9 _ _ (k27 b o hb)
            refine ⟨_, _, _, _, _, _, _, _, _, _, rfl, fun b o hb nb => ?_, ?_⟩
            · split
              · rw [upd_ne nb]; exact k9 _ _ (kk b o hb nb)
              · exact k9 _ _ (kk b o hb nb)
            · rw [hfl]
              by_cases g : FO.good m E = true
              · rw [if_pos g, if_pos g]
                exact RowsAt.cat (ss := [r]) (Fs := [E]) (k9 _ _ q1) q2 (fun i r hi => ⟨(q3 i r hi).1, (q3 i r hi).2.1, (q3 i r hi).2.2.ex k9⟩) rfl (fun i r' hi => by
                  have hi0 : i = 0 := by
                    have := (List.getElem?_eq_some_iff.mp hi).1
                    simp at this
                    omega
                  subst hi0
                  obtain rfl : r = r' := Option.some.inj hi
                  exact ⟨b1, b1, ts, k9 _ _ t1, t2, fun i t hi => k9 _ _ (t3 i t hi)⟩)
              · rw [if_neg g, if_neg g, List.append_nil]
                exact ⟨fs, k9 _ _ q1, q2, fun i r hi => ⟨(q3 i r hi).1, (q3 i r hi).2.1, (q3 i r hi).2.2.ex k9⟩⟩
          refine ⟨rfl, _, rfl, ?_⟩
          by_cases hone : (FO.roots E).length = 1
          · rw [if_pos (decide_eq_true (by rw [hone]; rfl))]
            refine ⟨⟨_, .inl (.inl hen)⟩, fun W nW => ?_⟩
            refine lc_list (xs := (nz ((List.range m).map (FO.endOf E m))).map V.int) (fun p => !decide (FO.endOf E m p = (FO.roots E).getD 0 0)) (fun _ => V.int 1) (.inl (.inl hen)) nW (by rw [List.length_map, nz_len, List.length_map, List.length_range]; omega) (fun u => rfl) (fun p v hv => ?_) (fun p v hv _ => ev_c) (fun H8 e8 hW => ?_)
            · obtain ⟨y, hy, rfl⟩ := at_nz hv
              have hp := (List.getElem?_eq_some_iff.mp hy).1
              rw [List.length_map, List.length_range] at hp
              rw [List.getElem?_map, List.getElem?_range hp] at hy
              obtain rfl : FO.endOf E m p = y := Option.some.inj hy
              intro Hz ez R hR
              walk_at "sx"
              refine ⟨_, rfl, _, rfl, ixL (.inl (.inl (ez _ _ hD7))) (atI_n (j := 0) rfl (nz_at (gd_at (by omega)))) ?_⟩
              refine ⟨rfl, _, rfl, ?_⟩
              have ed : decide (V.int ((FO.endOf E m p : Nat) : Int) = V.int (((FO.roots E).getD 0 0 : Nat) : Int)) = decide (FO.endOf E m p = (FO.roots E).getD 0 0) := decide_eq_decide.mpr ⟨fun h => Int.ofNat.inj (V.int.inj h), fun h => by rw [← h]⟩
              rw [ed]
              exact hR _ (Ex.refl _)
            · refine ⟨by omega, fun z nz0 => ?_⟩
              rw [List.length_map, nz_len, List.length_map, List.length_range] at hW
              have ek : kept m (fun p => !decide (FO.endOf E m p = (FO.roots E).getD 0 0)) (fun _ => V.int 1) = (((List.range m).filter fun p => !decide (FO.endOf E m p = (FO.roots E).getD 0 0)).map fun _ => (1 : Int)).map V.int := by
                unfold kept
                rw [List.map_map]
                rfl
              rw [ek] at hW
              have ez := Ex.new nz0 (o := .lst [])
              refine eqInts (ms := []) (.inl (.inl (ez _ _ hW))) (.inl (.inl upd_same)) ?_
              have hb : decide ((((List.range m).filter fun p => !decide (FO.endOf E m p = (FO.roots E).getD 0 0)).map fun _ => (1 : Int)) = []) = FO.good m E := by
                unfold FO.good
                rw [decide_eq_true hone, Bool.true_and]
                by_cases c : ((List.range m).all fun p => decide (FO.endOf E m p = (FO.roots E).getD 0 0)) = true
                · rw [c]
                  refine decide_eq_true ?_
                  rw [List.map_eq_nil_iff, List.filter_eq_nil_iff]
                  intro p hp
                  have := List.all_eq_true.mp c p hp
                  rw [this]
                  decide
                · rw [Bool.not_eq_true] at c
                  rw [c]
                  refine decide_eq_false fun h => ?_
                  rw [List.map_eq_nil_iff, List.filter_eq_nil_iff] at h
                  have : ((List.range m).all fun p => decide (FO.endOf E m p = (FO.roots E).getD 0 0)) = true := List.all_eq_true.mpr fun p hp => by
                    have := h p hp
                    simpa using this
                  rw [this] at c
                  cases c
              rw [hb]
              refine ⟨_, rfl, ?_⟩
              have f9 := fin _ (e8.trans ez)
              by_cases g : FO.good m E = true
              · rw [if_pos g] at f9 ⊢
                have hq1 := (e8.trans ez) _ _ (k27 _ _ q1)
                exact ⟨tyL hq1, appL hq1 (BC.sz_lt (by rw [List.length_map]; omega)) f9⟩
              · rw [if_neg g] at f9 ⊢
                exact f9
          · rw [if_neg (by rw [decide_eq_true_eq]; intro z; have := V.int.inj z; omega)]
            have f9 := fin H7 (Ex.refl _)
            have g : ¬ FO.good m E = true := by
              unfold FO.good
              rw [decide_eq_false hone]
              simp
            rw [if_neg g] at f9
            exact f9
      · obtain ⟨l2, l4, l5, l6, l7, l8, l9, l10, l11, l12, rfl, kk, hL⟩ := hP
        rw [List.length_map, g2, List.take_length] at hL
        walk_at "sx"
        exact k fd _ nfdH (fun b o hb => kk b o (e2 _ _ hb) (ne_of_none hb nfdH)) hL
end
end LW

set_option Elab.async false
set_option linter.all false
set_option maxRecDepth 100000
set_option maxHeartbeats 4000000
namespace LW
open PySem PySem.Spec PyProof.Rows L2 BC Evl TR EF L2.DX
local macro_rules | `(tactic| walk_at "sx") => `(tactic| try simp only [x_seq, x_next, x_brk, x_cnt, x_nev, x_ret, x_retN, x_drop, x_ifS, x_asg, x_gn, x_gsub, x_par, x_par3, x_aug, x_for, x_lc, x_rng1, x_rng2, x_rng3, x_ilist, x_itup, x_ienum, x_izip, x_izipA, x_istr, x_var, x_c, x_op, x_un, x_test, x_b, x_chain, x_and, x_or, x_not, x_andV, x_orV, x_notV, x_ife, x_nil, x_cons, x_lst, x_tup, x_cb, x_call, x_callK, x_bm, x_bm0, x_tru, x_sl, x_nopart, x_part, x_revL, x_I0, x_I, x_U, x_ip, x_ipC, x_eqI, x_neI, x_eqB, x_neB, x_eqS, x_neS, x_isB, x_isNB, x_lrg, x_gall, x_lenSet, x_lenSetC, x_augS, x_sortSet, x_rg1, x_rg2, x_dnewK, x_dnewT, x_dget, x_dget1, x_dget2, x_din, x_dnotin, x_dput, x_ikeys, x_ghead, x_fld, x_sfld, x_prop, x_meth, x_make, x_dc,
  L2.start, List.map_cons, List.map_nil, List.length_cons, List.length_nil, Nat.reduceAdd, Nat.reduceSub, Nat.sub_self, Nat.zero_add, List.replicate, List.replicate_succ, List.replicate_zero, List.append_nil, List.cons_append, List.nil_append, List.set_cons_zero, List.set_cons_succ, List.getElem?_cons_zero, List.getElem?_cons_succ, Option.some.injEq, V.int.injEq, V.bl.injEq, V.ref.injEq, V.str.injEq, List.cons.injEq, and_true, true_and, exists_eq_left', exists_eq_left, exists_and_left, exists_eq, if_true, if_false, ite_true, ite_false, Bool.true_eq_false, Bool.false_eq_true, reduceIte, reduceCtorEq, Bool.not_true, Bool.not_false, decide_true, decide_false, decide_eq_true_eq, Bool.and_true, Bool.true_and, Bool.and_self, Bool.and_false, Bool.false_and, Bool.or_self, Bool.or_false, Bool.false_or, Bool.or_true, Bool.true_or, eq_self])
section
variable {P : Program} {w : World} {K : PySem.W.Frag} {mg : Str → Option Value} {base : Heap}
open FO (Fo)
theorem eqEff {T : Txt K mg} {H : Hp} {Q : VK} {x z : Addr} {u u2 : V} {row row2 : List Int} (hx : EffAt T.C_Effect H x u (exs row)) (hp : Pg 40 row) (bg : Begin row u) (hz : EffAt T.C_Effect H z u2 (exs row2)) (hp2 : Pg 40 row2) (bg2 : Begin row2 u2) (q : Q (.bl (decide (u = u2 ∧ exs row = exs row2))) H) : rEqO K T.C_Effect (spEqE T.C_Effect K) E0 (.ref x) (.ref z) H Q := by
  obtain ⟨dx, t, d, ts0, x1, y1⟩ := id hx
  obtain ⟨dx2, t2, d2, ts2, z1, w1⟩ := id hz
  exact ⟨x, dx, _, .ref T.C_Effect, rfl, x1, T.x_Effect.ty z1, ClsO.self, x, .ref z, u, row, rfl, hx, hp, bg, .inr ⟨z, u2, row2, rfl, hz, hp2, bg2, _, rfl, q⟩⟩
/-- the list of pairs as data -/
def dPrs (qs : List (Int × Int)) : PyData := .list (qs.map fun q => .tuple [.int q.1, .int q.2])
theorem de_rows {H : Hp} : ∀ {ts : List Addr} {qs : List (Int × Int)}, ts.length = qs.length → (∀ (i : Nat) t, ts[i]? = some t → PairAt H t (qs.getD i (0, 0))) → DeAll K H (ts.map V.ref) (qs.map fun q => PyData.tuple [.int q.1, .int q.2])
  | [], [], _, _ => .nil
  | [], _ :: _, h, _ => by simp at h
  | _ :: _, [], h, _ => by simp at h
  | t :: ts, q :: qs, h, hp => .cons (.tup (.inl (.inl (hp 0 t rfl))) (.cons (.int _) (.cons (.int _) .nil))) (de_rows (by simpa using h) fun i u hi => by
    have := hp (i + 1) u (by simpa using hi)
    simpa using this)
theorem de_pairs {H : Hp} {a : Addr} {ts : List Addr} {qs : List (Int × Int)} (ha : H a = some (.lst (ts.map V.ref))) (hl : ts.length = qs.length) (hp : ∀ (i : Nat) t, ts[i]? = some t → PairAt H t (qs.getD i (0, 0))) : De K H (.ref a) (dPrs qs) := .lst (.inl (.inl ha)) (de_rows hl hp)
theorem gd_small {i : Int} (h0 : 0 ≤ i) (h : i ≤ 100000) : Gd 0 130 (.int i) := Gd.int (by omega)
theorem gd_pairs {qs : List (Int × Int)} (hl : qs.length ≤ 4) (h : ∀ q ∈ qs, (0 ≤ q.1 ∧ q.1 ≤ 100000) ∧ 0 ≤ q.2 ∧ q.2 ≤ 100000) : Gd 2 1052 (dPrs qs) := by
  have g : ∀ d ∈ (qs.map fun q => PyData.tuple [.int q.1, .int q.2]), Gd 1 262 d := fun d hd => by
    obtain ⟨q, hq, rfl⟩ := List.mem_map.mp hd
    obtain ⟨⟨a, b⟩, c, e⟩ := h q hq
    refine (Gd.tuple (n := 0) (W := 130) fun d hd => ?_).mono (by omega) (by simp)
    rcases List.mem_cons.mp hd with rfl | hd
    · exact gd_small a b
    · obtain rfl := List.mem_singleton.mp hd
      exact gd_small c e
  exact (Gd.list g).mono (by omega) (by rw [List.length_map]; omega)
theorem gd_two {d e : PyData} (h : Gd 2 1052 d) (g : Gd 2 1052 e) : Gd 3 2106 (.list [d, e]) := (Gd.list (n := 2) (W := 1052) fun x hx => by
  rcases List.mem_cons.mp hx with rfl | hx
  · exact h
  · obtain rfl := List.mem_singleton.mp hx
    exact g).mono (by omega) (by simp)
theorem zs_small {m n : Nat} (h2 : m ≤ 4) (A : FO.At m n) : ∀ q ∈ FO.zs (FO.exitsN m n), (0 ≤ q.1 ∧ q.1 ≤ 100000) ∧ 0 ≤ q.2 ∧ q.2 ≤ 100000 := fun q hq => by
  obtain ⟨i, hi, e⟩ := List.getElem_of_mem hq
  rw [zs_len, A.len] at hi
  have e2 := zs_getD (FO.exitsN m n) i
  rw [List.getD_eq_getElem?_getD, List.getElem?_eq_getElem (by rw [zs_len, A.len]; exact hi)] at e2
  have e3 : q = _ := e.symm.trans e2
  have a := A.fst i hi
  have b := A.snd i hi
  rw [e3]
  show (0 ≤ ((((FO.exitsN m n).getD i (0, 0)).1 : Nat) : Int) ∧ _) ∧ _
  rw [a]
  refine ⟨⟨by omega, by show (i : Int) ≤ 100000; omega⟩, by show 0 ≤ ((((FO.exitsN m n).getD i (0, 0)).2 : Nat) : Int); omega, by show ((((FO.exitsN m n).getD i (0, 0)).2 : Nat) : Int) ≤ 100000; omega⟩
def JZ (H1 : Hp) (m : Nat) (a : Addr) (i : Nat) (σ' : L2.St) (H' : Hp) : Prop := ∃ l3 l4 l5 l6, σ' = [some (.int m), some (.ref a), some (.int ((m * m ^ (m - 1) : Nat) : Int)), l3, l4, l5, l6] ∧ Ex H1 H'
def spSize : Sp := fun vs H Q _ => ∃ m : Nat, vs = [.int m] ∧ 1 ≤ m ∧ m ≤ 4 ∧ ∀ H', Ex H H' → Q (.bl true) H'
theorem ok_law_size_right (T : Txt K mg) : FnG P w K mg base CX0 8 T.f_law_size_right T.fd_law_size_right ["_law_size"] spSize := by
  refine fun_okN T.F_law_size_right sc_law_size_right (fun vs H Q E h => ?_) (fun cdv A outer s H vs Q E hG hr h => ?_)
  · obtain ⟨m, rfl, _⟩ := h
    rfl
  · obtain ⟨m, rfl, h1, h2, k⟩ := h
    apply Exists.intro
    apply And.intro
    · apply pss_cons
      · exact (ps_set (i := 1) sc_law_size_right.nd rfl (.inl rfl) (pe_call (ok_law_trees T) (hr.mono (by decide)) (by rfl) T.m_law_trees T.F_law_trees.kp T.b_law_trees .nil pass0 (pa_cons (pv 0) pa_nil)))
      apply pss_cons
      · exact (ps_set (i := 2) sc_law_size_right.nd rfl (.inl rfl) (pe_op op_mulX (pv 0) (pe_callB (k_len (K := K) rfl) (by rfl) T.n_len PySem.boot_len (pa_cons (pv 1) pa_nil))))
      apply pss_cons
      · apply ps_if
        · exact (pt_cmpR op_ne (pe_callB (k_reprA (K := K) rfl hG hr.units) (by rfl) T.n_repr (by decide +kernel) (pa_cons (pe_lst (pa_cons (pe_call (ok_count_effects T) (hr.mono (by decide)) (by rfl) T.m_count_effects T.F_count_effects.kp T.b_count_effects .nil pass0 (pa_cons (pv 0) pa_nil)) (pa_cons (pe_callK0 (ok_count_effects T) (hr.mono (by decide)) (by rfl) T.m_count_effects T.F_count_effects.kp T.k_count_effects_0_0 pass0 (pk_cons (pv 0) pk_nil)) pa_nil))) pa_nil)) (pe_callB (k_reprA (K := K) rfl hG hr.units) (by rfl) T.n_repr (by decide +kernel) (pa_cons (pe_lst (pa_cons (pv 2) (pa_cons (pv 2) pa_nil))) pa_nil)) (by rfl))
        · apply pss_one
          exact (ps_ret pe_bl)
        · exact pss_nil
      apply pss_cons
      · apply ps_for PassesOwn.never rfl
        · exact (pi_range1 (by rfl) T.n_range (pa_cons (pv 2) pa_nil))
        · exact (pg_name (i := 3) sc_law_size_right.nd rfl (.inl rfl))
        · apply pss_cons
          · exact (ps_set (i := 4) sc_law_size_right.nd rfl (.inl rfl) (pe_call (ok_nth_effect T) (hr.mono (by decide)) (by rfl) T.m_nth_effect T.F_nth_effect.kp T.b_nth_effect .nil pass0 (pa_cons (pv 0) (pa_cons (pv 3) pa_nil))))
          apply pss_cons
          · exact (ps_set (i := 5) sc_law_size_right.nd rfl (.inl rfl) (pe_lst (pa_cons (pe_op op_fdivX (pv 3) (pe_callB (k_len (K := K) rfl) (by rfl) T.n_len PySem.boot_len (pa_cons (pv 1) pa_nil))) (pa_cons (pe_ix (k_ix_list (K := K) rfl) (pv 1) (pe_op op_modX (pv 3) (pe_callB (k_len (K := K) rfl) (by rfl) T.n_len PySem.boot_len (pa_cons (pv 1) pa_nil))) (fun _ _ => rfl)) pa_nil))))
          apply pss_cons
          · apply ps_if
            · exact (PW.pt (pw_or (pt_cmpR op_ne (pe_callB (k_reprA (K := K) rfl hG hr.units) (by rfl) T.n_repr (by decide +kernel) (pa_cons (pe_lst (pa_cons (pe_prop (pv 4) T.cl_Effect T.p_Effect_first (ok_Effect_first T) (hr.mono (by decide)) T.b_Effect_first .nil pass0 rfl) (pa_cons (pe_prop (pv 4) T.cl_Effect T.p_Effect_exits (ok_Effect_exits T) (hr.mono (by decide)) T.b_Effect_exits .nil pass0 rfl) pa_nil))) pa_nil)) (pe_callB (k_reprA (K := K) rfl hG hr.units) (by rfl) T.n_repr (by decide +kernel) (pa_cons (pv 5) pa_nil)) (by rfl)) (pw_or1 (pt_cmpR op_ne (pe_callB (k_reprA (K := K) rfl hG hr.units) (by rfl) T.n_repr (by decide +kernel) (pa_cons (pe_call (ok_effect_rank T) (hr.mono (by decide)) (by rfl) T.m_effect_rank T.F_effect_rank.kp T.b_effect_rank .nil pass0 (pa_cons (pv 4) pa_nil)) pa_nil)) (pe_callB (k_reprA (K := K) rfl hG hr.units) (by rfl) T.n_repr (by decide +kernel) (pa_cons (pv 3) pa_nil)) (by rfl)))))
            · apply pss_one
              exact (ps_ret pe_bl)
            · exact pss_nil
          apply pss_one
          apply ps_if
          · exact (pt_cmpR op_eq (pe_op op_modX (pv 3) pe_int) pe_int (by rfl))
          · apply pss_cons
            · exact (ps_set (i := 6) sc_law_size_right.nd rfl (.inl rfl) (pe_callK0 (ok_nth_effect T) (hr.mono (by decide)) (by rfl) T.m_nth_effect T.F_nth_effect.kp T.k_nth_effect_0_1_0 pass0 (pk_cons (pv 3) (pk_cons (pv 0) pk_nil))))
            apply pss_one
            apply ps_if
            · exact (PW.pt (pw_or (pt_not (pt_cmpR (k_eqO (K := K) rfl T.h_Effect___eq T.i_Effect___eq (ok_Effect___eq T) (hr.mono (by decide)) hr.units T.b_Effect___eq pass0) (pv 6) (pv 4) (by rfl))) (pw_or1 (pt_cmpR op_ne (pe_callK0 (ok_effect_rank T) (hr.mono (by decide)) (by rfl) T.m_effect_rank T.F_effect_rank.kp T.k_effect_rank_0_0 pass0 (pk_cons (pe_make T.M_Effect (ok_Effect___init T) (hr.mono (by decide)) (by rfl) T.g_Effect T.b_Effect___init .nil pass0 (pa_cons (pe_ix (k_ix_list (K := K) rfl) (pv 5) pe_int (fun _ _ => rfl)) (pa_cons (pe_ix (k_ix_list (K := K) rfl) (pv 5) pe_int (fun _ _ => rfl)) pa_nil))) pk_nil)) (pv 3) (by rfl)))))
            · apply pss_one
              exact (ps_ret pe_bl)
            · exact pss_nil
          · exact pss_nil
      apply pss_one
      exact (ps_ret pe_bl)
    walk_at "sx"
    refine ⟨m, rfl, h1, h2, fun a H1 na e1 hR => ?_⟩
    obtain ⟨rs, r1, r2, r3⟩ := hR
    walk_at "sx"
    refine lenL (.inl (.inl r1)) ?_
    walk_at "sx"
    have hrl : rs.length = m ^ (m - 1) := by
      have pp : 0 < m ^ (m - 1) := Nat.pow_pos (by omega)
      have A := FO.at_ok (a := 0) h1 h2 (Nat.mul_pos (by omega) pp)
      rw [r2, A.many]
    have hp256 := pow_256 (n := m) (i := m - 1) h2 (by omega)
    have hw : (m : Int) * (((rs.map V.ref).length : Nat) : Int) = ((m * m ^ (m - 1) : Nat) : Int) := by rw [List.length_map, hrl, Int.natCast_mul]
    have hwl : m * m ^ (m - 1) ≤ 4 * 256 := Nat.mul_le_mul h2 hp256
    rw [hw]
    refine ⟨.inl (.inl ⟨by omega, by omega⟩), ?_⟩
    refine ⟨m, rfl, h1, h2, ?_⟩
    refine ⟨m, rfl, h1, h2, ?_⟩
    rw [← pow_top h1]
    refine ⟨sz_ok (by omega), fun z1 nz1 => ?_⟩
    have gw : Gd 0 130 (.int ((m * m ^ (m - 1) : Nat) : Int)) := gd_small (by omega) (by omega)
    have g2 : Gd 3 2106 (.list [.int ((m * m ^ (m - 1) : Nat) : Int), .int ((m * m ^ (m - 1) : Nat) : Int)]) := gd_two (gw.mono (by omega) (by omega)) (gw.mono (by omega) (by omega))
    refine reprA (.lst (.inl (.inl upd_same)) (.cons (.int _) (.cons (.int _) .nil))) g2 (by omega) (by omega) ?_
    refine ⟨sz_ok (by omega), fun z2 nz2 => ?_⟩
    refine reprA (.lst (.inl (.inl upd_same)) (.cons (.int _) (.cons (.int _) .nil))) g2 (by omega) (by omega) ?_
    refine ⟨rfl, _, rfl, ?_⟩
    rw [decide_eq_true rfl]
    have e12 := (Ex.new nz1 (o := .lst [V.int ((m * m ^ (m - 1) : Nat) : Int), V.int ((m * m ^ (m - 1) : Nat) : Int)])).trans (Ex.new nz2 (o := .lst [V.int ((m * m ^ (m - 1) : Nat) : Int), V.int ((m * m ^ (m - 1) : Nat) : Int)]))
    walk_at "sx"
    refine ⟨by omega, by omega, ?_⟩
    rw [Int.toNat_natCast]
    refine lg_rng (JZ H1 m a) ⟨none, none, none, none, rfl, e12⟩ (fun n σ' H' hn hP => ?_) (fun σ' H' hP => ?_)
    · obtain ⟨l3, l4, l5, l6, rfl, e⟩ := hP
      have A := FO.at_ok h1 h2 hn
      rw [Int.zero_add]
      have zsm := zs_small h2 A
      have zl : (FO.zs (FO.exitsN m n)).length ≤ 4 := by rw [zs_len, A.len]; exact h2
      have pp : 0 < m ^ (m - 1) := Nat.pow_pos (by omega)
      have hdl : n / m ^ (m - 1) < m := Nat.div_lt_of_lt_mul (by rw [Nat.mul_comm]; exact hn)
      have hml : n % m ^ (m - 1) < m ^ (m - 1) := Nat.mod_lt _ pp
      have hPg : Pg 40 (FO.visitsOf m (FO.exitsN m n)) := fun y hy => by
        have := A.page y hy
        omega
      have hBg : Begin (FO.visitsOf m (FO.exitsN m n)) (.int ((n / m ^ (m - 1) : Nat) : Int)) := .inr ⟨_, A.begin, rfl⟩
      walk_at "sx"
      refine ⟨m, n, rfl, h1, h2, hn, fun x H2 nx e2 hx => ?_⟩
      walk_at "sx"
      refine lenL (.inl (.inl (e2 _ _ (e _ _ r1)))) ?_
      rw [List.length_map, hrl]
      walk_at "sx"
      have e1H := e2 _ _ (e _ _ r1)
      refine ⟨wide_div (b := 10) (by omega) (by omega) (by omega) (by omega), ?_⟩
      refine lenL (.inl (.inl e1H)) ?_
      rw [List.length_map, hrl]
      walk_at "sx"
      refine ⟨by omega, ?_⟩
      have eq1 : (n : Int) / ((m ^ (m - 1) : Nat) : Int) = ((n / m ^ (m - 1) : Nat) : Int) := (Int.natCast_ediv _ _).symm
      have eq2 : (n : Int) % ((m ^ (m - 1) : Nat) : Int) = ((n % m ^ (m - 1) : Nat) : Int) := (Int.natCast_emod _ _).symm
      rw [eq1, eq2]
      have hri : rs[n % m ^ (m - 1)]? = some (rs[n % m ^ (m - 1)]'(by omega)) := List.getElem?_eq_getElem (by omega)
      obtain ⟨_, _, hr⟩ := r3 _ _ hri
      generalize rs[n % m ^ (m - 1)]'(by omega) = r at hri hr
      have hEt : (FO.trees m).getD (n % m ^ (m - 1)) [] = FO.exitsN m n := by
        have t := A.tree
        rw [A.many] at t
        rw [List.getD_eq_getElem?_getD, t]
        rfl
      rw [hEt] at hr
      refine ixL (.inl (.inl e1H)) (atI_n rfl (by rw [List.getElem?_map, hri]; rfl)) ?_
      refine ⟨sz_ok (by omega), fun z nz0 => ?_⟩
      have ez := Ex.new nz0 (o := .lst [V.int ((n / m ^ (m - 1) : Nat) : Int), V.ref r])
      have hz : (upd H2 z (.lst [V.int ((n / m ^ (m - 1) : Nat) : Int), V.ref r])) z = some (.lst [V.int ((n / m ^ (m - 1) : Nat) : Int), V.ref r]) := upd_same
      have hx3 := hx.ex ez
      have hr3 := ((hr.ex e).ex e2).ex ez
      generalize upd H2 z (.lst [V.int ((n / m ^ (m - 1) : Nat) : Int), V.ref r]) = H3 at ez hz hx3 hr3 ⊢
      obtain ⟨dx, tt, dd, tts, y1, y2, y3, y4, y5⟩ := id hx3
      refine ⟨_, _, y1, x, _, _, rfl, hx3, ?_⟩
      refine ⟨_, _, y1, x, _, _, rfl, hx3, fun el ts H4 nel e4 hel hlts hpt => ?_⟩
      refine ⟨sz_ok (by omega), fun z3 nz3 => ?_⟩
      have e5 := Ex.new nz3 (o := .lst [V.int ((n / m ^ (m - 1) : Nat) : Int), V.ref el])
      have gP := gd_pairs zl zsm
      have gF : Gd 0 130 (.int ((n / m ^ (m - 1) : Nat) : Int)) := gd_small (Int.natCast_nonneg _) (by have := Int.ofNat_lt.mpr hdl; omega)
      have g3 : Gd 3 2106 (.list [.int ((n / m ^ (m - 1) : Nat) : Int), dPrs (FO.zs (FO.exitsN m n))]) := gd_two (gF.mono (by omega) (by omega)) gP
      have dEl : De K H4 (.ref el) (dPrs (FO.zs (FO.exitsN m n))) := de_pairs hel hlts hpt
      refine reprA (.lst (.inl (.inl upd_same)) (.cons (.int _) (.cons (De.ex e5 _ _ dEl) .nil))) g3 (by omega) (by omega) ?_
      have e35 := e4.trans e5
      have dR : De K H3 (.ref r) (dPrs (FO.zs (FO.exitsN m n))) := by
        obtain ⟨ts2, w1, w2, w3⟩ := hr3
        exact de_pairs w1 (by rw [w2, zs_len]) w3
      refine reprA (.lst (.inl (.inl (e35 _ _ hz))) (.cons (.int _) (.cons (De.ex e35 _ _ dR) .nil))) g3 (by omega) (by omega) ?_
      refine ⟨rfl, _, rfl, ?_⟩
      rw [decide_eq_true rfl]
      have gN : Gd 0 130 (.int (n : Int)) := gd_small (by omega) (by omega)
      have hx5 := hx3.ex e35
      have hr5 := hr3.ex e35
      have hz5 := e35 _ _ hz
      generalize upd H4 z3 (.lst [V.int ((n / m ^ (m - 1) : Nat) : Int), V.ref el]) = H5 at e5 e35 hx5 hr5 hz5 ⊢
      walk_at "sx"
      refine ⟨x, m, n, rfl, h1, h2, hn, hx5, fun H6 e6 => ?_⟩
      refine reprA (.int _) gN (by omega) (by omega) ?_
      refine reprA (.int _) gN (by omega) (by omega) ?_
      refine ⟨rfl, _, rfl, ?_⟩
      rw [decide_eq_true rfl]
      walk_at "sx"
      have e06 := (((e.trans e2).trans ez).trans e35).trans e6
      refine ⟨by omega, ?_⟩
      by_cases q9 : (n : Int) % 9 = 0
      · rw [if_pos q9]
        refine ⟨m, n, rfl, h1, h2, hn, fun y H7 ny e7 hy => ?_⟩
        have e67 := e6.trans e7
        have hx7 := hx5.ex e67
        have hr7 := hr5.ex e67
        have hz7 := e67 _ _ hz5
        refine eqEff (row := FO.visitsOf m (FO.exitsN m n)) (row2 := FO.visitsOf m (FO.exitsN m n)) (by rw [A.exs]; exact hy) hPg hBg (by rw [A.exs]; exact hx7) hPg hBg ?_
        rw [decide_eq_true ⟨rfl, rfl⟩]
        refine ⟨_, rfl, ?_⟩
        walk_at "sx"
        refine ixL (.inl (.inl hz7)) (atI_n (j := 0) rfl rfl) ?_
        refine ixL (.inl (.inl hz7)) (atI_n (j := 1) rfl rfl) ?_
        intro w dw nw ndw hne
        have up : ∀ b o, H7 b = some o → upd (upd H7 dw (.own w)) w (.ins T.C_Effect dw []) b = some o := fun b o hb => by
          rw [upd_ne (ne_of_none hb nw), upd_ne (ne_of_none hb ndw)]
          exact hb
        obtain ⟨ts3, w1, w2, w3⟩ := hr7
        refine ⟨w, dw, r, ts3, FO.visitsOf m (FO.exitsN m n), .int ((n / m ^ (m - 1) : Nat) : Int), rfl, hBg, upd_same, ⟨.inl (.inl (up _ _ w1)), by rw [A.exs, w2, zs_len], fun i t hi => by rw [A.exs]; exact up _ _ (w3 i t hi)⟩, hPg, fun H8 hk hE => ⟨rfl, ?_⟩⟩
        rw [A.exs] at hE
        refine ⟨w, m, n, rfl, h1, h2, hn, hE, fun H9 e9 => ?_⟩
        refine ⟨rfl, _, rfl, ?_⟩
        rw [decide_eq_true rfl]
        walk_at "sx"
        exact ⟨_, _, _, _, rfl, (e06.trans e7).trans ((show Ex H7 H8 from fun b o hb => hk b o (up _ _ hb) (ne_of_none hb nw)).trans e9)⟩
      · rw [if_neg q9]
        exact ⟨_, _, _, _, rfl, e06⟩
    · obtain ⟨l3, l4, l5, l6, rfl, e⟩ := hP
      walk_at "sx"
      exact k _ (e1.trans e)
end
end LW

set_option Elab.async false
set_option linter.all false
set_option maxRecDepth 100000
set_option maxHeartbeats 4000000
namespace LW
open PySem PySem.Spec PyProof.Rows L2 BC Evl TR EF L2.DX
local macro_rules | `(tactic| walk_at "sx") => `(tactic| try simp only [x_seq, x_next, x_brk, x_cnt, x_nev, x_ret, x_retN, x_drop, x_ifS, x_asg, x_gn, x_gsub, x_par, x_par3, x_aug, x_for, x_lc, x_rng1, x_rng2, x_rng3, x_ilist, x_itup, x_ienum, x_izip, x_izipA, x_istr, x_var, x_c, x_op, x_un, x_test, x_b, x_chain, x_and, x_or, x_not, x_andV, x_orV, x_notV, x_ife, x_nil, x_cons, x_lst, x_tup, x_cb, x_call, x_callK, x_bm, x_bm0, x_tru, x_sl, x_nopart, x_part, x_revL, x_I0, x_I, x_U, x_ip, x_ipC, x_eqI, x_neI, x_eqB, x_neB, x_eqS, x_neS, x_isB, x_isNB, x_lrg, x_gall, x_lenSet, x_lenSetC, x_augS, x_sortSet, x_rg1, x_rg2, x_dnewK, x_dnewT, x_dget, x_dget1, x_dget2, x_din, x_dnotin, x_dput, x_ikeys, x_ghead, x_fld, x_sfld, x_prop, x_meth, x_make, x_dc,
  L2.start, List.map_cons, List.map_nil, List.length_cons, List.length_nil, Nat.reduceAdd, Nat.reduceSub, Nat.sub_self, Nat.zero_add, List.replicate, List.replicate_succ, List.replicate_zero, List.append_nil, List.cons_append, List.nil_append, List.set_cons_zero, List.set_cons_succ, List.getElem?_cons_zero, List.getElem?_cons_succ, Option.some.injEq, V.int.injEq, V.bl.injEq, V.ref.injEq, V.str.injEq, List.cons.injEq, and_true, true_and, exists_eq_left', exists_eq_left, exists_and_left, exists_eq, if_true, if_false, ite_true, ite_false, Bool.true_eq_false, Bool.false_eq_true, reduceIte, reduceCtorEq, Bool.not_true, Bool.not_false, decide_true, decide_false, decide_eq_true_eq, Bool.and_true, Bool.true_and, Bool.and_self, Bool.and_false, Bool.false_and, Bool.or_self, Bool.or_false, Bool.false_or, Bool.or_true, Bool.true_or, eq_self])
section
variable {P : Program} {w : World} {K : PySem.W.Frag} {mg : Str → Option Value} {base : Heap}
def spRight : Sp := fun vs H Q _ => ∃ (s : V) (b : Addr), vs = [s, .ref b] ∧ BagAt H b 0 ∧ ∀ H', Fx b H H' → Q (.bl true) H'
theorem ok_law_right (T : Txt K mg) : FnG P w K mg base CX0 9 T.f_law_right T.fd_law_right ["_law_script", "_law_bag_here"] spRight := by
  refine fun_okN T.F_law_right sc_law_right (fun vs H Q E h => ?_) (fun cdv A outer s H vs Q E hG hr h => ?_)
  · obtain ⟨s, b, rfl, _⟩ := h
    rfl
  · obtain ⟨s, b, rfl, hB, k⟩ := h
    apply Exists.intro
    apply And.intro
    · apply pss_cons
      · exact (ps_set (i := 2) sc_law_right.nd rfl (.inl rfl) (pe_op op_add pe_int (pe_call (ok_law_draw T) (hr.mono (by decide)) (by rfl) T.m_law_draw T.F_law_draw.kp T.b_law_draw .nil pass0 (pa_cons (pv 1) (pa_cons pe_int pa_nil)))))
      apply pss_cons
      · apply ps_if
        · exact (pt_not (pt_val (pe_callG (ok_law_size_right T) hG (hr.mono (by decide)) (by rfl) T.m_law_size_right T.F_law_size_right.kp T.b_law_size_right .nil pass0 (pa_cons (pv 2) pa_nil))))
        · apply pss_one
          exact (ps_ret pe_bl)
        · exact pss_nil
      apply pss_cons
      · exact (ps_set (i := 3) sc_law_right.nd rfl (.inl rfl) (pe_call (ok_law_draw T) (hr.mono (by decide)) (by rfl) T.m_law_draw T.F_law_draw.kp T.b_law_draw .nil pass0 (pa_cons (pv 1) (pa_cons pe_int pa_nil))))
      apply pss_one
      exact (ps_ret (pe_and (pe_cmpR op_eq (pe_call (ok_effect_rank T) (hr.mono (by decide)) (by rfl) T.m_effect_rank T.F_effect_rank.kp T.b_effect_rank .nil pass0 (pa_cons (pe_call (ok_nth_effect T) (hr.mono (by decide)) (by rfl) T.m_nth_effect T.F_nth_effect.kp T.b_nth_effect .nil pass0 (pa_cons pe_int (pa_cons (pv 3) pa_nil))) pa_nil)) (pv 3) (by rfl)) (pe_one (pe_callG (ok_law_size_right T) hG (hr.mono (by decide)) (by rfl) T.m_law_size_right T.F_law_size_right.kp T.b_law_size_right .nil pass0 (pa_cons (pe_op op_add pe_int (pe_call (ok_law_draw T) (hr.mono (by decide)) (by rfl) T.m_law_draw T.F_law_draw.kp T.b_law_draw .nil pass0 (pa_cons (pv 1) (pa_cons pe_int pa_nil)))) pa_nil)))))
    walk_at "sx"
    refine ⟨b, 3, 0, rfl, by omega, big_of (by omega), hB, by omega, fun r H1 r0 r1 f1 b1 => ?_⟩
    walk_at "sx"
    refine ⟨(1 + r).toNat, by rw [Int.toNat_of_nonneg (by omega)], by omega, by omega, fun H2 e2 => ?_⟩
    walk_at "sx"
    refine ⟨b, 256, 1, rfl, by omega, big_of (by omega), b1.ex e2, by omega, fun a H3 a0 a1 f3 b3 => ?_⟩
    walk_at "sx"
    obtain ⟨n, rfl⟩ : ∃ n : Nat, a = n := ⟨a.toNat, by omega⟩
    have hn : n < 4 * 4 ^ (4 - 1) := by
      have : 4 * 4 ^ (4 - 1) = 256 := by decide
      omega
    refine ⟨4, n, rfl, by omega, by omega, hn, fun x H4 nx e4 hx => ?_⟩
    refine ⟨x, 4, n, rfl, by omega, by omega, hn, hx, fun H5 e5 => ?_⟩
    refine ⟨rfl, ?_⟩
    rw [decide_eq_true rfl]
    refine ⟨_, rfl, ?_⟩
    walk_at "sx"
    have e35 := e4.trans e5
    refine ⟨b, 3, 2, rfl, by omega, big_of (by omega), b3.ex e35, by omega, fun q H6 q0 q1 f6 b6 => ?_⟩
    walk_at "sx"
    refine ⟨(1 + q).toNat, by rw [Int.toNat_of_nonneg (by omega)], by omega, by omega, fun H7 e7 => ?_⟩
    exact k _ (((((f1.trans (Fx.of e2)).trans f3).trans (Fx.of e35)).trans f6).trans (Fx.of e7))
def spLaw (K : PySem.W.Frag) : Sp := fun vs H Q _ => ∃ (s : Addr) (ns : List Int), vs = [.ref s] ∧ SqL K H s (ns.map V.int) ∧ ns.length ≤ 63 ∧ ∀ H', Q (.bl true) H'
def JLw (H2 : Hp) (s : Addr) (i : Nat) (σ' : L2.St) (H' : Hp) : Prop := ∃ j1 j2, σ' = [some (.ref s), j1, j2] ∧ Ex H2 H'
theorem ok_law (T : Txt K mg) : FnG P w K mg base CX0 10 T.f_law T.fd_law ["_law_script"] (spLaw K) := by
  refine fun_okN T.F_law sc_law (fun vs H Q E h => ?_) (fun cdv A outer s H vs Q E hG hr h => ?_)
  · obtain ⟨s, ns, rfl, _⟩ := h
    rfl
  · obtain ⟨s, ns, rfl, hA, hl, k⟩ := h
    apply Exists.intro
    apply And.intro
    · apply pss_cons
      · apply ps_for PassesOwn.never rfl
        · exact (k_pi_enum (K := K) rfl (by rfl) T.n_enumerate (pa_cons (pe_slice (k_sl_list (K := K) rfl) (pe_call (ok_law_cells T) (hr.mono (by decide)) (by rfl) T.m_law_cells T.F_law_cells.kp T.b_law_cells .nil pass0 (pa_cons (pv 0) pa_nil)) po_none (po_some pe_int)) pa_nil))
        · exact (k_tup (K := K) (n := 2) rfl rfl (pgs_cons (pg_name (i := 1) sc_law.nd rfl (.inl rfl)) (pgs_cons (pg_name (i := 2) sc_law.nd rfl (.inl rfl)) pgs_nil)))
        · apply pss_one
          apply ps_if
          · exact (pt_not (pt_val (pe_callG (ok_law_right T) hG (hr.mono (by decide)) (by rfl) T.m_law_right T.F_law_right.kp T.b_law_right .nil pass0 (pa_cons (pv 0) (pa_cons (pe_call (ok_law_bag T) (hr.mono (by decide)) (by rfl) T.m_law_bag T.F_law_bag.kp T.b_law_bag .nil pass0 (pa_cons (pv 2) (pa_cons (pv 1) pa_nil))) pa_nil)))))
          · apply pss_one
            exact (ps_ret pe_bl)
          · exact pss_nil
      apply pss_one
      exact (ps_ret (pe_callG (ok_law_size_right T) hG (hr.mono (by decide)) (by rfl) T.m_law_size_right T.F_law_size_right.kp T.b_law_size_right .nil pass0 (pa_cons pe_int pa_nil)))
    walk_at "sx"
    refine ⟨s, ns, rfl, hA, hl, fun p ms H1 np e1 hp lm => ?_⟩
    refine slL (.inl (.inl hp)) fun y ny => ?_
    rw [show (3 : Int) = ((3 : Nat) : Int) from rfl, cut_take, ← List.map_take]
    have ey := Ex.new ny (o := .lst ((ms.take 3).map V.int))
    have hl8 : (ms.take 3).length ≤ 3 := by rw [List.length_take]; omega
    refine ⟨_, rfl, _, .inl (.inl upd_same), ?_⟩
    have hy : (upd H1 y (.lst ((ms.take 3).map V.int))) y = some (.lst ((ms.take 3).map V.int)) := upd_same
    have E := e1.trans ey
    generalize (upd H1 y (.lst ((ms.take 3).map V.int))) = H2 at E hy ⊢
    refine lg_enum (xs := (ms.take 3).map V.int) (JLw H2 s) ⟨none, none, rfl, Ex.refl H2⟩ (fun i σ' H' hi hP => by obtain ⟨_, _, _, e⟩ := hP; exact .inl (.inl (e _ _ hy))) (fun i x σ' H' T' hx hP nT => ?_) (fun σ' H' hP => ?_)
    · obtain ⟨j1, j2, rfl, e⟩ := hP
      obtain ⟨n, hn, rfl⟩ := ints_at hx
      have hi := (List.getElem?_eq_some_iff.mp hn).1
      have eT := Ex.new nT (o := .tup [V.int (i : Nat), V.int n])
      refine g_two upd_same ?_
      walk_at "sx"
      refine ⟨n, i, rfl, by omega, fun q H3 nq e3 hb => ?_⟩
      refine ⟨_, q, rfl, hb, fun H4 f4 => ?_⟩
      walk_at "sx"
      exact ⟨_, _, rfl, (e.trans eT).trans (((Fx.of e3).trans f4).ex nq)⟩
    · obtain ⟨j1, j2, rfl, e⟩ := hP
      walk_at "sx"
      exact ⟨4, rfl, by omega, by omega, fun H9 _ => k _⟩
end
end LW

set_option Elab.async false
set_option linter.all false
set_option maxRecDepth 100000
set_option maxHeartbeats 4000000
namespace LW
open PySem PySem.Spec PyProof.Rows L2 BC Evl TR EF L2.DX
theorem all_mk {l : PySem.W.OpenLaw} {w : World} {K : PySem.W.Frag} {h : Heap} {mg : Str → Option Value} {fa : Addr} (X : K.In h) (G : h.Ns mainGlobals mg) (hfa : mg "law" = some (.ref fa))
    {C0 : Addr}
    {C1 : Addr}
    {f0 : Addr} {od0 an0 : Option Addr} {sl0 : Array (Option Value)} {oc0 kV0 dc0 pm0 cd0 ct0 : Value}
    {f1 : Addr} {od1 an1 : Option Addr} {sl1 : Array (Option Value)} {oc1 kV1 dc1 pm1 cd1 ct1 : Value}
    {f2 : Addr} {od2 an2 : Option Addr} {sl2 : Array (Option Value)} {oc2 kV2 dc2 pm2 cd2 ct2 : Value}
    {f3 : Addr} {od3 an3 : Option Addr} {sl3 : Array (Option Value)} {oc3 kV3 dc3 pm3 cd3 ct3 : Value}
    {f4 : Addr} {od4 an4 : Option Addr} {sl4 : Array (Option Value)} {oc4 kV4 dc4 pm4 cd4 ct4 : Value}
    {f5 : Addr} {od5 an5 : Option Addr} {sl5 : Array (Option Value)} {oc5 kV5 dc5 pm5 cd5 ct5 : Value}
    {f6 : Addr} {od6 an6 : Option Addr} {sl6 : Array (Option Value)} {oc6 kV6 dc6 pm6 cd6 ct6 : Value}
    {f7 : Addr} {od7 an7 : Option Addr} {sl7 : Array (Option Value)} {oc7 kV7 dc7 pm7 cd7 ct7 : Value}
    {f8 : Addr} {od8 an8 : Option Addr} {sl8 : Array (Option Value)} {oc8 kV8 dc8 pm8 cd8 ct8 : Value}
    {f9 : Addr} {od9 an9 : Option Addr} {sl9 : Array (Option Value)} {oc9 kV9 dc9 pm9 cd9 ct9 : Value}
    {f10 : Addr} {od10 an10 : Option Addr} {sl10 : Array (Option Value)} {oc10 kV10 dc10 pm10 cd10 ct10 : Value}
    {f11 : Addr} {od11 an11 : Option Addr} {sl11 : Array (Option Value)} {oc11 kV11 dc11 pm11 cd11 ct11 : Value}
    {f12 : Addr} {od12 an12 : Option Addr} {sl12 : Array (Option Value)} {oc12 kV12 dc12 pm12 cd12 ct12 : Value}
    {f13 : Addr} {od13 an13 : Option Addr} {sl13 : Array (Option Value)} {oc13 kV13 dc13 pm13 cd13 ct13 : Value}
    {f14 : Addr} {od14 an14 : Option Addr} {sl14 : Array (Option Value)} {oc14 kV14 dc14 pm14 cd14 ct14 : Value}
    {f15 : Addr} {od15 an15 : Option Addr} {sl15 : Array (Option Value)} {oc15 kV15 dc15 pm15 cd15 ct15 : Value}
    {f16 : Addr} {od16 an16 : Option Addr} {sl16 : Array (Option Value)} {oc16 kV16 dc16 pm16 cd16 ct16 : Value}
    {f17 : Addr} {od17 an17 : Option Addr} {sl17 : Array (Option Value)} {oc17 kV17 dc17 pm17 cd17 ct17 : Value}
    {f18 : Addr} {od18 an18 : Option Addr} {sl18 : Array (Option Value)} {oc18 kV18 dc18 pm18 cd18 ct18 : Value}
    {f19 : Addr} {od19 an19 : Option Addr} {sl19 : Array (Option Value)} {oc19 kV19 dc19 pm19 cd19 ct19 : Value}
    {f20 : Addr} {od20 an20 : Option Addr} {sl20 : Array (Option Value)} {oc20 kV20 dc20 pm20 cd20 ct20 : Value}
    {p20 : Addr} {rest20 : List Value}
    {f21 : Addr} {od21 an21 : Option Addr} {sl21 : Array (Option Value)} {oc21 kV21 dc21 pm21 cd21 ct21 : Value}
    {p21 : Addr} {rest21 : List Value}
    {f22 : Addr} {od22 an22 : Option Addr} {sl22 : Array (Option Value)} {oc22 kV22 dc22 pm22 cd22 ct22 : Value}
    {f23 : Addr} {od23 an23 : Option Addr} {sl23 : Array (Option Value)} {oc23 kV23 dc23 pm23 cd23 ct23 : Value}
    {f24 : Addr} {od24 an24 : Option Addr} {sl24 : Array (Option Value)} {oc24 kV24 dc24 pm24 cd24 ct24 : Value}
    {f25 : Addr} {od25 an25 : Option Addr} {sl25 : Array (Option Value)} {oc25 kV25 dc25 pm25 cd25 ct25 : Value}
    {f26 : Addr} {od26 an26 : Option Addr} {sl26 : Array (Option Value)} {oc26 kV26 dc26 pm26 cd26 ct26 : Value}
    {f27 : Addr} {od27 an27 : Option Addr} {sl27 : Array (Option Value)} {oc27 kV27 dc27 pm27 cd27 ct27 : Value}
    {f28 : Addr} {od28 an28 : Option Addr} {sl28 : Array (Option Value)} {oc28 kV28 dc28 pm28 cd28 ct28 : Value}
    {tt_MOST_PAGE : Tok}
    {tt_MOST_PAGES : Tok}
    (aC0 : PySem.W.nsIn K mainGlobals "Effect" = some (some (.ref C0))) (pg0 : PySem.W.plainGet K C0 Str.empty = true) (hd0 : PySem.W.hasDictIn K C0 = true) (po0 : PySem.W.plainOver K C0 = true) (sa0 : PySem.W.findIn K (.ref C0) "__setattr__" = some (some (.builtin "object.__setattr__")))
    (ka0 : PySem.W.findIn K (.ref C0) "__class__" = some (some (.builtin "object.__class__")))
    (kn0 : PySem.W.specialIn K (.builtin "object.__class__") "__get__" = some (some (.builtin "getset_descriptor.__get__")))
    (kt0 : PySem.W.takesIn K (.builtin "object.__class__") = some true)
    (km0 : PySem.W.mroIn K C0 (.type "object") = some true)
    (ke0 : PySem.W.isClsIn K C0 = true)
    (kf0 : PySem.W.typeIn K (.ref C0) = some (.type "type"))
    (nf0_list : PySem.W.notFirst K C0 (.type "list") = true)
    (nf0_tuple : PySem.W.notFirst K C0 (.type "tuple") = true)
    (nf0_dict : PySem.W.notFirst K C0 (.type "dict") = true)
    (nf0_int : PySem.W.notFirst K C0 (.type "int") = true)
    (nf0_str : PySem.W.notFirst K C0 (.type "str") = true)
    (nf0_bool : PySem.W.notFirst K C0 (.type "bool") = true)
    (nf0_NoneType : PySem.W.notFirst K C0 (.type "NoneType") = true)
    (sf0 : PySem.W.selfFirst K C0 = true)
    (ob0 : PySem.W.subIn K (.ref C0) (.type "object") = some true)
    (on0 : PySem.W.findIn K (.ref C0) "__ne__" = some (some (.builtin "object.__ne__")))
    (na0_begin_page : PySem.W.findIn K (.ref C0) "begin_page" = some none)
    (na0_pairs : PySem.W.findIn K (.ref C0) "pairs" = some none)
    (na0_exit_of : PySem.W.findIn K (.ref C0) "exit_of" = some none)
    (aC1 : PySem.W.nsIn K mainGlobals "Forest" = some (some (.ref C1))) (pg1 : PySem.W.plainGet K C1 Str.empty = true) (hd1 : PySem.W.hasDictIn K C1 = true) (po1 : PySem.W.plainOver K C1 = true) (sa1 : PySem.W.findIn K (.ref C1) "__setattr__" = some (some (.builtin "object.__setattr__")))
    (ka1 : PySem.W.findIn K (.ref C1) "__class__" = some (some (.builtin "object.__class__")))
    (kn1 : PySem.W.specialIn K (.builtin "object.__class__") "__get__" = some (some (.builtin "getset_descriptor.__get__")))
    (kt1 : PySem.W.takesIn K (.builtin "object.__class__") = some true)
    (km1 : PySem.W.mroIn K C1 (.type "object") = some true)
    (ke1 : PySem.W.isClsIn K C1 = true)
    (kf1 : PySem.W.typeIn K (.ref C1) = some (.type "type"))
    (nf1_list : PySem.W.notFirst K C1 (.type "list") = true)
    (nf1_tuple : PySem.W.notFirst K C1 (.type "tuple") = true)
    (nf1_dict : PySem.W.notFirst K C1 (.type "dict") = true)
    (nf1_int : PySem.W.notFirst K C1 (.type "int") = true)
    (nf1_str : PySem.W.notFirst K C1 (.type "str") = true)
    (nf1_bool : PySem.W.notFirst K C1 (.type "bool") = true)
    (nf1_NoneType : PySem.W.notFirst K C1 (.type "NoneType") = true)
    (sf1 : PySem.W.selfFirst K C1 = true)
    (ob1 : PySem.W.subIn K (.ref C1) (.type "object") = some true)
    (on1 : PySem.W.findIn K (.ref C1) "__ne__" = some (some (.builtin "object.__ne__")))
    (na1_many : PySem.W.findIn K (.ref C1) "many" = some none)
    (na1_marks : PySem.W.findIn K (.ref C1) "marks" = some none)
    (na1_root_mark : PySem.W.findIn K (.ref C1) "root_mark" = some none)
    (a0 : PySem.W.nsIn K mainGlobals "is_integer" = some (some (.ref f0))) (l0 : K.lookup f0 = some ⟨oc0, od0, .func (PySem.W.fnOf "is_integer" "is_integer" (defArgs s_is_integer) (defBody s_is_integer) (defScope s_is_integer) .none kV0 dc0 pm0 an0 cd0 ct0), sl0⟩) (c0 : PySem.W.codeIn K cd0 "is_integer" = true) (k0 : PySem.W.keepIn K (.ref f0) = true)
    (a1 : PySem.W.nsIn K mainGlobals "check_number" = some (some (.ref f1))) (l1 : K.lookup f1 = some ⟨oc1, od1, .func (PySem.W.fnOf "check_number" "check_number" (defArgs s_check_number) (defBody s_check_number) (defScope s_check_number) .none kV1 dc1 pm1 an1 cd1 ct1), sl1⟩) (c1 : PySem.W.codeIn K cd1 "check_number" = true) (k1 : PySem.W.keepIn K (.ref f1) = true)
    (a2 : PySem.W.nsIn K mainGlobals "is_page" = some (some (.ref f2))) (l2 : K.lookup f2 = some ⟨oc2, od2, .func (PySem.W.fnOf "is_page" "is_page" (defArgs s_is_page) (defBody s_is_page) (defScope s_is_page) .none kV2 dc2 pm2 an2 cd2 ct2), sl2⟩) (c2 : PySem.W.codeIn K cd2 "is_page" = true) (k2 : PySem.W.keepIn K (.ref f2) = true)
    (a3 : PySem.W.nsIn K mainGlobals "is_pair" = some (some (.ref f3))) (l3 : K.lookup f3 = some ⟨oc3, od3, .func (PySem.W.fnOf "is_pair" "is_pair" (defArgs s_is_pair) (defBody s_is_pair) (defScope s_is_pair) .none kV3 dc3 pm3 an3 cd3 ct3), sl3⟩) (c3 : PySem.W.codeIn K cd3 "is_pair" = true) (k3 : PySem.W.keepIn K (.ref f3) = true)
    (a4 : PySem.W.nsIn K mainGlobals "leads_to_root" = some (some (.ref f4))) (l4 : K.lookup f4 = some ⟨oc4, od4, .func (PySem.W.fnOf "leads_to_root" "leads_to_root" (defArgs s_leads_to_root) (defBody s_leads_to_root) (defScope s_leads_to_root) .none kV4 dc4 pm4 an4 cd4 ct4), sl4⟩) (c4 : PySem.W.codeIn K cd4 "leads_to_root" = true) (k4 : PySem.W.keepIn K (.ref f4) = true)
    (a5 : PySem.W.nsIn K mainGlobals "are_exits" = some (some (.ref f5))) (l5 : K.lookup f5 = some ⟨oc5, od5, .func (PySem.W.fnOf "are_exits" "are_exits" (defArgs s_are_exits) (defBody s_are_exits) (defScope s_are_exits) .none kV5 dc5 pm5 an5 cd5 ct5), sl5⟩) (c5 : PySem.W.codeIn K cd5 "are_exits" = true) (k5 : PySem.W.keepIn K (.ref f5) = true)
    (a6 : PySem.W.nsIn K mainGlobals "check_effect" = some (some (.ref f6))) (l6 : K.lookup f6 = some ⟨oc6, od6, .func (PySem.W.fnOf "check_effect" "check_effect" (defArgs s_check_effect) (defBody s_check_effect) (defScope s_check_effect) .none kV6 dc6 pm6 an6 cd6 ct6), sl6⟩) (c6 : PySem.W.codeIn K cd6 "check_effect" = true) (k6 : PySem.W.keepIn K (.ref f6) = true)
    (a7 : PySem.W.nsIn K mainGlobals "power" = some (some (.ref f7))) (l7 : K.lookup f7 = some ⟨oc7, od7, .func (PySem.W.fnOf "power" "power" (defArgs s_power) (defBody s_power) (defScope s_power) .none kV7 dc7 pm7 an7 cd7 ct7), sl7⟩) (c7 : PySem.W.codeIn K cd7 "power" = true) (k7 : PySem.W.keepIn K (.ref f7) = true)
    (a8 : PySem.W.nsIn K mainGlobals "number_of_effects" = some (some (.ref f8))) (l8 : K.lookup f8 = some ⟨oc8, od8, .func (PySem.W.fnOf "number_of_effects" "number_of_effects" (defArgs s_number_of_effects) (defBody s_number_of_effects) (defScope s_number_of_effects) .none kV8 dc8 pm8 an8 cd8 ct8), sl8⟩) (c8 : PySem.W.codeIn K cd8 "number_of_effects" = true) (k8 : PySem.W.keepIn K (.ref f8) = true)
    (a9 : PySem.W.nsIn K mainGlobals "count_effects" = some (some (.ref f9))) (l9 : K.lookup f9 = some ⟨oc9, od9, .func (PySem.W.fnOf "count_effects" "count_effects" (defArgs s_count_effects) (defBody s_count_effects) (defScope s_count_effects) .none kV9 dc9 pm9 an9 cd9 ct9), sl9⟩) (c9 : PySem.W.codeIn K cd9 "count_effects" = true) (k9 : PySem.W.keepIn K (.ref f9) = true)
    (a10 : PySem.W.nsIn K mainGlobals "nth_effect" = some (some (.ref f10))) (l10 : K.lookup f10 = some ⟨oc10, od10, .func (PySem.W.fnOf "nth_effect" "nth_effect" (defArgs s_nth_effect) (defBody s_nth_effect) (defScope s_nth_effect) .none kV10 dc10 pm10 an10 cd10 ct10), sl10⟩) (c10 : PySem.W.codeIn K cd10 "nth_effect" = true) (k10 : PySem.W.keepIn K (.ref f10) = true)
    (a11 : PySem.W.nsIn K mainGlobals "effect_rank" = some (some (.ref f11))) (l11 : K.lookup f11 = some ⟨oc11, od11, .func (PySem.W.fnOf "effect_rank" "effect_rank" (defArgs s_effect_rank) (defBody s_effect_rank) (defScope s_effect_rank) .none kV11 dc11 pm11 an11 cd11 ct11), sl11⟩) (c11 : PySem.W.codeIn K cd11 "effect_rank" = true) (k11 : PySem.W.keepIn K (.ref f11) = true)
    (a12 : PySem.W.nsIn K mainGlobals "_law_bag" = some (some (.ref f12))) (l12 : K.lookup f12 = some ⟨oc12, od12, .func (PySem.W.fnOf "_law_bag" "_law_bag" (defArgs s_law_bag) (defBody s_law_bag) (defScope s_law_bag) .none kV12 dc12 pm12 an12 cd12 ct12), sl12⟩) (c12 : PySem.W.codeIn K cd12 "_law_bag" = true) (k12 : PySem.W.keepIn K (.ref f12) = true)
    (a13 : PySem.W.nsIn K mainGlobals "_law_draw" = some (some (.ref f13))) (l13 : K.lookup f13 = some ⟨oc13, od13, .func (PySem.W.fnOf "_law_draw" "_law_draw" (defArgs s_law_draw) (defBody s_law_draw) (defScope s_law_draw) .none kV13 dc13 pm13 an13 cd13 ct13), sl13⟩) (c13 : PySem.W.codeIn K cd13 "_law_draw" = true) (k13 : PySem.W.keepIn K (.ref f13) = true)
    (a14 : PySem.W.nsIn K mainGlobals "_law_cells" = some (some (.ref f14))) (l14 : K.lookup f14 = some ⟨oc14, od14, .func (PySem.W.fnOf "_law_cells" "_law_cells" (defArgs s_law_cells) (defBody s_law_cells) (defScope s_law_cells) .none kV14 dc14 pm14 an14 cd14 ct14), sl14⟩) (c14 : PySem.W.codeIn K cd14 "_law_cells" = true) (k14 : PySem.W.keepIn K (.ref f14) = true)
    (a15 : PySem.W.nsIn K mainGlobals "_law_trees" = some (some (.ref f15))) (l15 : K.lookup f15 = some ⟨oc15, od15, .func (PySem.W.fnOf "_law_trees" "_law_trees" (defArgs s_law_trees) (defBody s_law_trees) (defScope s_law_trees) .none kV15 dc15 pm15 an15 cd15 ct15), sl15⟩) (c15 : PySem.W.codeIn K cd15 "_law_trees" = true) (k15 : PySem.W.keepIn K (.ref f15) = true)
    (a16 : PySem.W.nsIn K mainGlobals "_law_size_right" = some (some (.ref f16))) (l16 : K.lookup f16 = some ⟨oc16, od16, .func (PySem.W.fnOf "_law_size_right" "_law_size_right" (defArgs s_law_size_right) (defBody s_law_size_right) (defScope s_law_size_right) .none kV16 dc16 pm16 an16 cd16 ct16), sl16⟩) (c16 : PySem.W.codeIn K cd16 "_law_size_right" = true) (k16 : PySem.W.keepIn K (.ref f16) = true)
    (a17 : PySem.W.nsIn K mainGlobals "_law_right" = some (some (.ref f17))) (l17 : K.lookup f17 = some ⟨oc17, od17, .func (PySem.W.fnOf "_law_right" "_law_right" (defArgs s_law_right) (defBody s_law_right) (defScope s_law_right) .none kV17 dc17 pm17 an17 cd17 ct17), sl17⟩) (c17 : PySem.W.codeIn K cd17 "_law_right" = true) (k17 : PySem.W.keepIn K (.ref f17) = true)
    (a18 : PySem.W.nsIn K mainGlobals "law" = some (some (.ref f18))) (l18 : K.lookup f18 = some ⟨oc18, od18, .func (PySem.W.fnOf "law" "law" (defArgs s_law) (defBody s_law) (defScope s_law) .none kV18 dc18 pm18 an18 cd18 ct18), sl18⟩) (c18 : PySem.W.codeIn K cd18 "law" = true) (k18 : PySem.W.keepIn K (.ref f18) = true)
    (a19 : PySem.W.findIn K (.ref C0) "__init__" = some (some (.ref f19))) (i19 : PySem.W.isFn K (.ref f19) = true) (l19 : K.lookup f19 = some ⟨oc19, od19, .func (PySem.W.fnOf "__init__" "Effect.__init__" (defArgs s_Effect___init) (defBody s_Effect___init) (defScope s_Effect___init) .none kV19 dc19 pm19 an19 cd19 ct19), sl19⟩) (c19 : PySem.W.codeIn K cd19 "Effect.__init__" = true) (k19 : PySem.W.keepIn K (.ref f19) = true)
    (mk0 : PySem.W.makesIn K C0 = true) (kc0 : PySem.W.keepIn K (.ref C0) = true)
    (a20 : PySem.W.findIn K (.ref C0) "first" = some (some (.ref p20))) (g20 : PySem.W.specialIn K (.ref p20) "__get__" = some (some (.builtin "property.__get__"))) (t20 : PySem.W.takesIn K (.ref p20) = some true) (r20 : PySem.W.recIn K p20 "property" = some (.ref f20 :: rest20)) (l20 : K.lookup f20 = some ⟨oc20, od20, .func (PySem.W.fnOf "first" "Effect.first" (defArgs s_Effect_first) (defBody s_Effect_first) (defScope s_Effect_first) .none kV20 dc20 pm20 an20 cd20 ct20), sl20⟩) (c20 : PySem.W.codeIn K cd20 "Effect.first" = true) (k20 : PySem.W.keepIn K (.ref f20) = true)
    (a21 : PySem.W.findIn K (.ref C0) "exits" = some (some (.ref p21))) (g21 : PySem.W.specialIn K (.ref p21) "__get__" = some (some (.builtin "property.__get__"))) (t21 : PySem.W.takesIn K (.ref p21) = some true) (r21 : PySem.W.recIn K p21 "property" = some (.ref f21 :: rest21)) (l21 : K.lookup f21 = some ⟨oc21, od21, .func (PySem.W.fnOf "exits" "Effect.exits" (defArgs s_Effect_exits) (defBody s_Effect_exits) (defScope s_Effect_exits) .none kV21 dc21 pm21 an21 cd21 ct21), sl21⟩) (c21 : PySem.W.codeIn K cd21 "Effect.exits" = true) (k21 : PySem.W.keepIn K (.ref f21) = true)
    (a22 : PySem.W.findIn K (.ref C0) "__len__" = some (some (.ref f22))) (i22 : PySem.W.isFn K (.ref f22) = true) (l22 : K.lookup f22 = some ⟨oc22, od22, .func (PySem.W.fnOf "__len__" "Effect.__len__" (defArgs s_Effect___len) (defBody s_Effect___len) (defScope s_Effect___len) .none kV22 dc22 pm22 an22 cd22 ct22), sl22⟩) (c22 : PySem.W.codeIn K cd22 "Effect.__len__" = true) (k22 : PySem.W.keepIn K (.ref f22) = true)
    (a23 : PySem.W.findIn K (.ref C0) "__eq__" = some (some (.ref f23))) (i23 : PySem.W.isFn K (.ref f23) = true) (l23 : K.lookup f23 = some ⟨oc23, od23, .func (PySem.W.fnOf "__eq__" "Effect.__eq__" (defArgs s_Effect___eq) (defBody s_Effect___eq) (defScope s_Effect___eq) .none kV23 dc23 pm23 an23 cd23 ct23), sl23⟩) (c23 : PySem.W.codeIn K cd23 "Effect.__eq__" = true) (k23 : PySem.W.keepIn K (.ref f23) = true)
    (a24 : PySem.W.findIn K (.ref C1) "__init__" = some (some (.ref f24))) (i24 : PySem.W.isFn K (.ref f24) = true) (l24 : K.lookup f24 = some ⟨oc24, od24, .func (PySem.W.fnOf "__init__" "Forest.__init__" (defArgs s_Forest___init) (defBody s_Forest___init) (defScope s_Forest___init) .none kV24 dc24 pm24 an24 cd24 ct24), sl24⟩) (c24 : PySem.W.codeIn K cd24 "Forest.__init__" = true) (k24 : PySem.W.keepIn K (.ref f24) = true)
    (mk1 : PySem.W.makesIn K C1 = true) (kc1 : PySem.W.keepIn K (.ref C1) = true)
    (a25 : PySem.W.findIn K (.ref C1) "allows" = some (some (.ref f25))) (i25 : PySem.W.isFn K (.ref f25) = true) (l25 : K.lookup f25 = some ⟨oc25, od25, .func (PySem.W.fnOf "allows" "Forest.allows" (defArgs s_Forest_allows) (defBody s_Forest_allows) (defScope s_Forest_allows) .none kV25 dc25 pm25 an25 cd25 ct25), sl25⟩) (c25 : PySem.W.codeIn K cd25 "Forest.allows" = true) (k25 : PySem.W.keepIn K (.ref f25) = true)
    (a26 : PySem.W.findIn K (.ref C1) "choose" = some (some (.ref f26))) (i26 : PySem.W.isFn K (.ref f26) = true) (l26 : K.lookup f26 = some ⟨oc26, od26, .func (PySem.W.fnOf "choose" "Forest.choose" (defArgs s_Forest_choose) (defBody s_Forest_choose) (defScope s_Forest_choose) .none kV26 dc26 pm26 an26 cd26 ct26), sl26⟩) (c26 : PySem.W.codeIn K cd26 "Forest.choose" = true) (k26 : PySem.W.keepIn K (.ref f26) = true)
    (a27 : PySem.W.findIn K (.ref C1) "ways" = some (some (.ref f27))) (i27 : PySem.W.isFn K (.ref f27) = true) (l27 : K.lookup f27 = some ⟨oc27, od27, .func (PySem.W.fnOf "ways" "Forest.ways" (defArgs s_Forest_ways) (defBody s_Forest_ways) (defScope s_Forest_ways) .none kV27 dc27 pm27 an27 cd27 ct27), sl27⟩) (c27 : PySem.W.codeIn K cd27 "Forest.ways" = true) (k27 : PySem.W.keepIn K (.ref f27) = true)
    (a28 : PySem.W.findIn K (.ref C1) "ways_with" = some (some (.ref f28))) (i28 : PySem.W.isFn K (.ref f28) = true) (l28 : K.lookup f28 = some ⟨oc28, od28, .func (PySem.W.fnOf "ways_with" "Forest.ways_with" (defArgs s_Forest_ways_with) (defBody s_Forest_ways_with) (defScope s_Forest_ways_with) .none kV28 dc28 pm28 an28 cd28 ct28), sl28⟩) (c28 : PySem.W.codeIn K cd28 "Forest.ways_with" = true) (k28 : PySem.W.keepIn K (.ref f28) = true)
    (q_MOST_PAGE : PySem.W.nsIn K mainGlobals "MOST_PAGE" = some (some (.int 39 tt_MOST_PAGE)))
    (q_MOST_PAGES : PySem.W.nsIn K mainGlobals "MOST_PAGES" = some (some (.int 40 tt_MOST_PAGES)))
    (z_all : PySem.W.nsIn K mainGlobals "all" = some none)
    (z_any : PySem.W.nsIn K mainGlobals "any" = some none)
    (z_bool : PySem.W.nsIn K mainGlobals "bool" = some none)
    (z_dict : PySem.W.nsIn K mainGlobals "dict" = some none)
    (z_divmod : PySem.W.nsIn K mainGlobals "divmod" = some none)
    (z_enumerate : PySem.W.nsIn K mainGlobals "enumerate" = some none)
    (z_int : PySem.W.nsIn K mainGlobals "int" = some none)
    (z_isinstance : PySem.W.nsIn K mainGlobals "isinstance" = some none)
    (z_len : PySem.W.nsIn K mainGlobals "len" = some none)
    (z_list : PySem.W.nsIn K mainGlobals "list" = some none)
    (z_max : PySem.W.nsIn K mainGlobals "max" = some none)
    (z_range : PySem.W.nsIn K mainGlobals "range" = some none)
    (z_repr : PySem.W.nsIn K mainGlobals "repr" = some none)
    (z_set : PySem.W.nsIn K mainGlobals "set" = some none)
    (z_tuple : PySem.W.nsIn K mainGlobals "tuple" = some none)
    (z_zip : PySem.W.nsIn K mainGlobals "zip" = some none) :
    ∃ fd : FuncData, (∀ (s : Shared) (v : Value), BindsTo s fd ⟨[v], []⟩ [("_law_script", v)]) ∧ ∀ base : Heap, K.In base → base.Ns mainGlobals mg → FnG l.prog w K mg base CX0 10 fa fd ["_law_script"] (spLaw K) := by
  have e := hfa.symm.trans (PySem.W.mg_of X G a18)
  cases e
  let T : Txt K mg := ⟨C0, ⟨pg0, hd0, po0, sa0⟩, PySem.W.mg_of X G aC0,
    ⟨⟨pg0, hd0, po0, sa0⟩, ka0, kn0, kt0, km0, ke0, kf0, nf0_list, nf0_tuple, nf0_dict, nf0_int, nf0_str, nf0_bool, nf0_NoneType, sf0, ob0, on0⟩,
    na0_begin_page,
    na0_pairs,
    na0_exit_of,
    C1, ⟨pg1, hd1, po1, sa1⟩, PySem.W.mg_of X G aC1,
    ⟨⟨pg1, hd1, po1, sa1⟩, ka1, kn1, kt1, km1, ke1, kf1, nf1_list, nf1_tuple, nf1_dict, nf1_int, nf1_str, nf1_bool, nf1_NoneType, sf1, ob1, on1⟩,
    na1_many,
    na1_marks,
    na1_root_mark,
    f0, _, fun_mk (st := s_is_integer) l0 c0 k0, PySem.W.mg_of X G a0, (fun_mk (st := s_is_integer) l0 c0 k0).binds fun _ _ _ _ _ _ us hl => match us, hl with | [_, _, _], _ => rfl,
    f1, _, fun_mk (st := s_check_number) l1 c1 k1, PySem.W.mg_of X G a1, (fun_mk (st := s_check_number) l1 c1 k1).binds fun _ _ _ _ _ _ us hl => match us, hl with | [_, _, _], _ => rfl,
    f2, _, fun_mk (st := s_is_page) l2 c2 k2, PySem.W.mg_of X G a2, (fun_mk (st := s_is_page) l2 c2 k2).binds fun _ _ _ _ _ _ us hl => match us, hl with | [_], _ => rfl,
    f3, _, fun_mk (st := s_is_pair) l3 c3 k3, PySem.W.mg_of X G a3, (fun_mk (st := s_is_pair) l3 c3 k3).binds fun _ _ _ _ _ _ us hl => match us, hl with | [_], _ => rfl,
    f4, _, fun_mk (st := s_leads_to_root) l4 c4 k4, PySem.W.mg_of X G a4, (fun_mk (st := s_leads_to_root) l4 c4 k4).binds fun _ _ _ _ _ _ us hl => match us, hl with | [_, _, _], _ => rfl,
    f5, _, fun_mk (st := s_are_exits) l5 c5 k5, PySem.W.mg_of X G a5, (fun_mk (st := s_are_exits) l5 c5 k5).binds fun _ _ _ _ _ _ us hl => match us, hl with | [_], _ => rfl,
    f6, _, fun_mk (st := s_check_effect) l6 c6 k6, PySem.W.mg_of X G a6, (fun_mk (st := s_check_effect) l6 c6 k6).binds fun _ _ _ _ _ _ us hl => match us, hl with | [_], _ => rfl,
    f7, _, fun_mk (st := s_power) l7 c7 k7, PySem.W.mg_of X G a7, (fun_mk (st := s_power) l7 c7 k7).binds fun _ _ _ _ _ _ us hl => match us, hl with | [_, _], _ => rfl,
    f8, _, fun_mk (st := s_number_of_effects) l8 c8 k8, PySem.W.mg_of X G a8, (fun_mk (st := s_number_of_effects) l8 c8 k8).binds fun _ _ _ _ _ _ us hl => match us, hl with | [_], _ => rfl,
    f9, _, fun_mk (st := s_count_effects) l9 c9 k9, PySem.W.mg_of X G a9, (fun_mk (st := s_count_effects) l9 c9 k9).binds fun _ _ _ _ _ _ us hl => match us, hl with | [_], _ => rfl,
    f10, _, fun_mk (st := s_nth_effect) l10 c10 k10, PySem.W.mg_of X G a10, (fun_mk (st := s_nth_effect) l10 c10 k10).binds fun _ _ _ _ _ _ us hl => match us, hl with | [_, _], _ => rfl,
    f11, _, fun_mk (st := s_effect_rank) l11 c11 k11, PySem.W.mg_of X G a11, (fun_mk (st := s_effect_rank) l11 c11 k11).binds fun _ _ _ _ _ _ us hl => match us, hl with | [_], _ => rfl,
    f12, _, fun_mk (st := s_law_bag) l12 c12 k12, PySem.W.mg_of X G a12, (fun_mk (st := s_law_bag) l12 c12 k12).binds fun _ _ _ _ _ _ us hl => match us, hl with | [_, _], _ => rfl,
    f13, _, fun_mk (st := s_law_draw) l13 c13 k13, PySem.W.mg_of X G a13, (fun_mk (st := s_law_draw) l13 c13 k13).binds fun _ _ _ _ _ _ us hl => match us, hl with | [_, _], _ => rfl,
    f14, _, fun_mk (st := s_law_cells) l14 c14 k14, PySem.W.mg_of X G a14, (fun_mk (st := s_law_cells) l14 c14 k14).binds fun _ _ _ _ _ _ us hl => match us, hl with | [_], _ => rfl,
    f15, _, fun_mk (st := s_law_trees) l15 c15 k15, PySem.W.mg_of X G a15, (fun_mk (st := s_law_trees) l15 c15 k15).binds fun _ _ _ _ _ _ us hl => match us, hl with | [_], _ => rfl,
    f16, _, fun_mk (st := s_law_size_right) l16 c16 k16, PySem.W.mg_of X G a16, (fun_mk (st := s_law_size_right) l16 c16 k16).binds fun _ _ _ _ _ _ us hl => match us, hl with | [_], _ => rfl,
    f17, _, fun_mk (st := s_law_right) l17 c17 k17, PySem.W.mg_of X G a17, (fun_mk (st := s_law_right) l17 c17 k17).binds fun _ _ _ _ _ _ us hl => match us, hl with | [_, _], _ => rfl,
    fa, _, fun_mk (st := s_law) l18 c18 k18, PySem.W.mg_of X G a18, (fun_mk (st := s_law) l18 c18 k18).binds fun _ _ _ _ _ _ us hl => match us, hl with | [_], _ => rfl,
    f19, _, fun_mk (st := s_Effect___init) l19 c19 k19, (fun_mk (st := s_Effect___init) l19 c19 k19).binds fun _ _ _ _ _ _ us hl => match us, hl with | [_, _, _], _ => rfl, ⟨mk0, a19, i19, kc0⟩,
    f20, _, fun_mk (st := s_Effect_first) l20 c20 k20, (fun_mk (st := s_Effect_first) l20 c20 k20).binds fun _ _ _ _ _ _ us hl => match us, hl with | [_], _ => rfl, p20, ⟨a20, g20, t20, ⟨rest20, r20⟩⟩,
    f21, _, fun_mk (st := s_Effect_exits) l21 c21 k21, (fun_mk (st := s_Effect_exits) l21 c21 k21).binds fun _ _ _ _ _ _ us hl => match us, hl with | [_], _ => rfl, p21, ⟨a21, g21, t21, ⟨rest21, r21⟩⟩,
    f22, _, fun_mk (st := s_Effect___len) l22 c22 k22, (fun_mk (st := s_Effect___len) l22 c22 k22).binds fun _ _ _ _ _ _ us hl => match us, hl with | [_], _ => rfl, a22, i22,
    f23, _, fun_mk (st := s_Effect___eq) l23 c23 k23, (fun_mk (st := s_Effect___eq) l23 c23 k23).binds fun _ _ _ _ _ _ us hl => match us, hl with | [_, _], _ => rfl, a23, i23,
    f24, _, fun_mk (st := s_Forest___init) l24 c24 k24, (fun_mk (st := s_Forest___init) l24 c24 k24).binds fun _ _ _ _ _ _ us hl => match us, hl with | [_, _], _ => rfl, ⟨mk1, a24, i24, kc1⟩,
    f25, _, fun_mk (st := s_Forest_allows) l25 c25 k25, (fun_mk (st := s_Forest_allows) l25 c25 k25).binds fun _ _ _ _ _ _ us hl => match us, hl with | [_, _, _], _ => rfl, ⟨a25, i25, k25⟩,
    f26, _, fun_mk (st := s_Forest_choose) l26 c26 k26, (fun_mk (st := s_Forest_choose) l26 c26 k26).binds fun _ _ _ _ _ _ us hl => match us, hl with | [_, _, _], _ => rfl, ⟨a26, i26, k26⟩,
    f27, _, fun_mk (st := s_Forest_ways) l27 c27 k27, (fun_mk (st := s_Forest_ways) l27 c27 k27).binds fun _ _ _ _ _ _ us hl => match us, hl with | [_], _ => rfl, ⟨a27, i27, k27⟩,
    f28, _, fun_mk (st := s_Forest_ways_with) l28 c28 k28, (fun_mk (st := s_Forest_ways_with) l28 c28 k28).binds fun _ _ _ _ _ _ us hl => match us, hl with | [_, _, _], _ => rfl, ⟨a28, i28, k28⟩,
    BC.Fun.kb (fun_mk (st := s_count_effects) l9 c9 k9) fun _ _ _ _ _ _ us ws h1 h2 => match us, h1, ws, h2 with | [], _, [_], _ => rfl,
    BC.Fun.kb (fun_mk (st := s_effect_rank) l11 c11 k11) fun _ _ _ _ _ _ us ws h1 h2 => match us, h1, ws, h2 with | [], _, [_], _ => rfl,
    BC.Fun.kb (fun_mk (st := s_nth_effect) l10 c10 k10) fun _ _ _ _ _ _ us ws h1 h2 => match us, h1, ws, h2 with | [], _, [_, _], _ => rfl,
    tt_MOST_PAGE, PySem.W.mg_of X G q_MOST_PAGE,
    tt_MOST_PAGES, PySem.W.mg_of X G q_MOST_PAGES,
    PySem.W.mg_none_of X G z_all,
    PySem.W.mg_none_of X G z_any,
    PySem.W.mg_none_of X G z_bool,
    PySem.W.mg_none_of X G z_dict,
    PySem.W.mg_none_of X G z_divmod,
    PySem.W.mg_none_of X G z_enumerate,
    PySem.W.mg_none_of X G z_int,
    PySem.W.mg_none_of X G z_isinstance,
    PySem.W.mg_none_of X G z_len,
    PySem.W.mg_none_of X G z_list,
    PySem.W.mg_none_of X G z_max,
    PySem.W.mg_none_of X G z_range,
    PySem.W.mg_none_of X G z_repr,
    PySem.W.mg_none_of X G z_set,
    PySem.W.mg_none_of X G z_tuple,
    PySem.W.mg_none_of X G z_zip⟩
  exact ⟨T.fd_law, fun s v => .of_eq rfl, fun base _ _ => ok_law T⟩

end LW
open PySem PySem.W PyProof.Rows
set_option maxHeartbeats 0 in
theorem PySem.Challenge.cw_breadcrumbs_k36_effects_of_few_pages_lis_holds : PySem.Challenge.rw_breadcrumbs_k36_effects_of_few_pages_lis.Holds := by
  w_on; o_law; k_head; (case hw => w_witness2)
  k_fill
  refine BC.walk_G (l := PySem.Challenge.rw_breadcrumbs_k36_effects_of_few_pages_lis) (n := 63) (k := 10) (x := "_law_script") (sp := fun w => LW.spLaw _) rfl (by decide) rfl ⟨rfl, by decide, by decide⟩ (fun w h Y => PySem.W.kIn_of Y) ?F (fun w H a ns hl hS => ⟨a, ns, rfl, hS, hl, fun _ => rfl⟩)
  case F =>
    intro w mg fa h KX G hmg
    refine' LW.all_mk KX G hmg ?aC0 ?pg0 ?hd0 ?po0 ?sa0 ?ka0 ?kn0 ?kt0 ?km0 ?ke0 ?kf0 ?nf0_list ?nf0_tuple ?nf0_dict ?nf0_int ?nf0_str ?nf0_bool ?nf0_NoneType ?sf0 ?ob0 ?on0 ?na0_begin_page ?na0_pairs ?na0_exit_of ?aC1 ?pg1 ?hd1 ?po1 ?sa1 ?ka1 ?kn1 ?kt1 ?km1 ?ke1 ?kf1 ?nf1_list ?nf1_tuple ?nf1_dict ?nf1_int ?nf1_str ?nf1_bool ?nf1_NoneType ?sf1 ?ob1 ?on1 ?na1_many ?na1_marks ?na1_root_mark ?a0 ?l0 ?c0 ?k0 ?a1 ?l1 ?c1 ?k1 ?a2 ?l2 ?c2 ?k2 ?a3 ?l3 ?c3 ?k3 ?a4 ?l4 ?c4 ?k4 ?a5 ?l5 ?c5 ?k5 ?a6 ?l6 ?c6 ?k6 ?a7 ?l7 ?c7 ?k7 ?a8 ?l8 ?c8 ?k8 ?a9 ?l9 ?c9 ?k9 ?a10 ?l10 ?c10 ?k10 ?a11 ?l11 ?c11 ?k11 ?a12 ?l12 ?c12 ?k12 ?a13 ?l13 ?c13 ?k13 ?a14 ?l14 ?c14 ?k14 ?a15 ?l15 ?c15 ?k15 ?a16 ?l16 ?c16 ?k16 ?a17 ?l17 ?c17 ?k17 ?a18 ?l18 ?c18 ?k18 ?a19 ?i19 ?l19 ?c19 ?k19 ?mk0 ?kc0 ?a20 ?g20 ?t20 ?r20 ?l20 ?c20 ?k20 ?a21 ?g21 ?t21 ?r21 ?l21 ?c21 ?k21 ?a22 ?i22 ?l22 ?c22 ?k22 ?a23 ?i23 ?l23 ?c23 ?k23 ?a24 ?i24 ?l24 ?c24 ?k24 ?mk1 ?kc1 ?a25 ?i25 ?l25 ?c25 ?k25 ?a26 ?i26 ?l26 ?c26 ?k26 ?a27 ?i27 ?l27 ?c27 ?k27 ?a28 ?i28 ?l28 ?c28 ?k28 ?q_MOST_PAGE ?q_MOST_PAGES ?z_all ?z_any ?z_bool ?z_dict ?z_divmod ?z_enumerate ?z_int ?z_isinstance ?z_len ?z_list ?z_max ?z_range ?z_repr ?z_set ?z_tuple ?z_zip
    (case aC0 => k_is); (case pg0 => k_is); (case hd0 => k_is); (case po0 => k_is); (case sa0 => k_is); (case ka0 => k_is); (case kn0 => k_is); (case kt0 => k_is); (case km0 => k_is); (case ke0 => k_is); (case kf0 => k_is); (case nf0_list => k_is); (case nf0_tuple => k_is); (case nf0_dict => k_is); (case nf0_int => k_is); (case nf0_str => k_is); (case nf0_bool => k_is); (case nf0_NoneType => k_is); (case sf0 => k_is); (case ob0 => k_is); (case on0 => k_is); (case na0_begin_page => k_is); (case na0_pairs => k_is); (case na0_exit_of => k_is); (case aC1 => k_is); (case pg1 => k_is); (case hd1 => k_is); (case po1 => k_is); (case sa1 => k_is); (case ka1 => k_is); (case kn1 => k_is); (case kt1 => k_is); (case km1 => k_is); (case ke1 => k_is); (case kf1 => k_is); (case nf1_list => k_is); (case nf1_tuple => k_is); (case nf1_dict => k_is); (case nf1_int => k_is); (case nf1_str => k_is); (case nf1_bool => k_is); (case nf1_NoneType => k_is); (case sf1 => k_is); (case ob1 => k_is); (case on1 => k_is); (case na1_many => k_is); (case na1_marks => k_is); (case na1_root_mark => k_is); (case a0 => k_is); (case l0 => k_is); (case c0 => k_is); (case k0 => k_is); (case a1 => k_is); (case l1 => k_is); (case c1 => k_is); (case k1 => k_is); (case a2 => k_is); (case l2 => k_is); (case c2 => k_is); (case k2 => k_is); (case a3 => k_is); (case l3 => k_is); (case c3 => k_is); (case k3 => k_is); (case a4 => k_is); (case l4 => k_is); (case c4 => k_is); (case k4 => k_is); (case a5 => k_is); (case l5 => k_is); (case c5 => k_is); (case k5 => k_is); (case a6 => k_is); (case l6 => k_is); (case c6 => k_is); (case k6 => k_is); (case a7 => k_is); (case l7 => k_is); (case c7 => k_is); (case k7 => k_is); (case a8 => k_is); (case l8 => k_is); (case c8 => k_is); (case k8 => k_is); (case a9 => k_is); (case l9 => k_is); (case c9 => k_is); (case k9 => k_is); (case a10 => k_is); (case l10 => k_is); (case c10 => k_is); (case k10 => k_is); (case a11 => k_is); (case l11 => k_is); (case c11 => k_is); (case k11 => k_is); (case a12 => k_is); (case l12 => k_is); (case c12 => k_is); (case k12 => k_is); (case a13 => k_is); (case l13 => k_is); (case c13 => k_is); (case k13 => k_is); (case a14 => k_is); (case l14 => k_is); (case c14 => k_is); (case k14 => k_is); (case a15 => k_is); (case l15 => k_is); (case c15 => k_is); (case k15 => k_is); (case a16 => k_is); (case l16 => k_is); (case c16 => k_is); (case k16 => k_is); (case a17 => k_is); (case l17 => k_is); (case c17 => k_is); (case k17 => k_is); (case a18 => k_is); (case l18 => k_is); (case c18 => k_is); (case k18 => k_is); (case a19 => k_is); (case i19 => k_is); (case l19 => k_is); (case c19 => k_is); (case k19 => k_is); (case mk0 => k_is); (case kc0 => k_is); (case a20 => k_is); (case g20 => k_is); (case t20 => k_is); (case r20 => k_is); (case l20 => k_is); (case c20 => k_is); (case k20 => k_is); (case a21 => k_is); (case g21 => k_is); (case t21 => k_is); (case r21 => k_is); (case l21 => k_is); (case c21 => k_is); (case k21 => k_is); (case a22 => k_is); (case i22 => k_is); (case l22 => k_is); (case c22 => k_is); (case k22 => k_is); (case a23 => k_is); (case i23 => k_is); (case l23 => k_is); (case c23 => k_is); (case k23 => k_is); (case a24 => k_is); (case i24 => k_is); (case l24 => k_is); (case c24 => k_is); (case k24 => k_is); (case mk1 => k_is); (case kc1 => k_is); (case a25 => k_is); (case i25 => k_is); (case l25 => k_is); (case c25 => k_is); (case k25 => k_is); (case a26 => k_is); (case i26 => k_is); (case l26 => k_is); (case c26 => k_is); (case k26 => k_is); (case a27 => k_is); (case i27 => k_is); (case l27 => k_is); (case c27 => k_is); (case k27 => k_is); (case a28 => k_is); (case i28 => k_is); (case l28 => k_is); (case c28 => k_is); (case k28 => k_is); (case q_MOST_PAGE => k_is); (case q_MOST_PAGES => k_is); (case z_all => k_is); (case z_any => k_is); (case z_bool => k_is); (case z_dict => k_is); (case z_divmod => k_is); (case z_enumerate => k_is); (case z_int => k_is); (case z_isinstance => k_is); (case z_len => k_is); (case z_list => k_is); (case z_max => k_is); (case z_range => k_is); (case z_repr => k_is); (case z_set => k_is); (case z_tuple => k_is); (case z_zip => k_is)

