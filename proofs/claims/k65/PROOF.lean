import PyProof.Rows.All
import Wide.All
import OpenK.AllK
import Wide.FinOn
import HandS.ForMost
import HandS.IsInst
import HandS.Style
import HandS.Wide
import HandS.Evl
import HandS.Zip
import HandS.SortKw
import HandS.Conv
import HandS.TupLe
import HandS.RaiseMore
import KE.DataCmp
import PySem.Challenge.RW_breadcrumbs_k65_many_lengths_numbered
set_option Elab.async false
set_option linter.all false
set_option maxRecDepth 100000
set_option maxHeartbeats 4000000
namespace BC
open PySem PySem.Spec PyProof.Rows L2
section
variable {X : Cx}
/-- a power of a number of any size that matters here -/
def CPowX (i j : Int) : Prop := 0 ≤ j ∧ j ≤ 1000 ∧ i.natAbs.log2 < 100000
theorem op_powX : OpR X (binaryOp .Pow) (rI CPowX fun i j => .int (i ^ j.toNat)) := opI fun i j _ _ _ _ _ hc q => by
  obtain ⟨h0, h1, h2⟩ := hc
  refine pow_int h0 ?_ q
  have hb : Builtin.Int.intBits i ≤ 100000 := by
    unfold Builtin.Int.intBits
    split <;> omega
  have h3 : (Builtin.Int.intBits i : Int) * j ≤ 100000 * j := Int.mul_le_mul_of_nonneg_right (by omega) h0
  omega
/-- a product: one factor small, or both of bounded size -/
def CMulX (i j : Int) : Prop := CMul i j ∨ CMulW i j
theorem op_mulX : OpR X (binaryOp .Mult) (rI CMulX fun i j => .int (i * j)) := opI fun _ _ _ _ _ _ _ hc q => by
  rcases hc with hc | hc
  · exact mul_int q hc.ok
  · exact mul_int q hc.ok
theorem op_fdivX : OpR X (binaryOp .FloorDiv) (rI CDivW fun i j => .int (i / j)) := op_fdivW
theorem op_modX : OpR X (binaryOp .Mod) (rI (fun _ j => 0 < j) fun i j => .int (i % j)) := opI fun i j _ _ _ _ _ hc q => by
  refine mod_int' (show j ≠ 0 by omega) ?_
  rw [Int.fmod_eq_emod_of_nonneg i (by omega)]
  exact q
def ipC (C : Int → Int → Prop) (f : Int → Int → Int) : TIp := fun x y H Q => ∃ i j, x = .int i ∧ y = .int j ∧ C i j ∧ Q (.int (f i j)) H
theorem ip_mulX : PIp X .Mult (ipC CMulX fun i j => i * j) := by
  intro pins s σ H x y v u Q I r1 r2 h
  obtain ⟨i, j, rfl, rfl, hc, q⟩ := h
  obtain ⟨t, rfl⟩ := r1
  obtain ⟨t', rfl⟩ := r2
  have ok : IntMulOk i j := by
    rcases hc with hc | hc
    · exact hc.ok
    · exact hc.ok
  exact imul_int ⟨.int (i * j), H, I.tok _, ⟨_, rfl⟩, q⟩ ok
end
end BC

/-! ### readings opened one construct at a time: full applications alone, so that what stands in a loop is left closed -/
namespace BC
open PySem PySem.Spec PyProof.Rows L2
section
variable {K : PySem.W.Frag} {σ : L2.St} {H : Hp} {Q : VK} {QT : Bool → Hp → Prop} {QA : List V → Hp → Prop} {D : Ends} {ta tb tc : TE} {t u : TT} {a : TA} {r r' : R2} {i j : Nat} {v x y : V} {s1 s2 : TS} {g : TG} {QG : L2.St → Hp → Prop}
def LoopG (J : It) (g : TG) (tb : TS) : TS := fun D σ H => ∃ W : Nat → Nat → L2.St → Hp → Prop, (∃ m, W 0 m σ H) ∧ ∀ i m σ H, W i m σ H →
  (J.stop i H ∧ D.nx σ H) ∨ (J.go i H ∧ ∃ N : L2.St → Hp → Prop, (∀ σ' H', N σ' H' → ∃ m', m' < m ∧ W (i + 1) m' σ' H') ∧ ∀ x H', J.yld i H x H' → g x σ H' fun σ2 H2 => tb { D with nx := N, ct := N, bk := D.nx } σ2 H2)
def LcG (J : It) (g : TG) (tt : TT) (te : TE) (vs : List Nat) (σ : L2.St) (Dl : Addr) (H1 : Hp) (Q : VK) : Prop := ∃ W : Nat → Nat → Hp → Prop, (∃ m, W 0 m (upd H1 Dl (.lst []))) ∧ ∀ i m H, W i m H →
  (J.stop i H ∧ Q (.ref Dl) H) ∨ (J.go i H ∧ ∃ Nx : Hp → Prop, (∀ H', Nx H' → ∃ m', m' < m ∧ W (i + 1) m' H') ∧ ∀ x H', J.yld i H x H' → g x (wipe σ vs) H' fun σ2 H2 => wipe σ2 vs = wipe σ vs ∧ tt σ2 H2 fun b H3 =>
    if b = true then te σ2 H3 fun y H4 => ∃ acc, H4 Dl = some (.lst acc) ∧ acc.length < sizeLine ∧ Nx (upd H4 Dl (.lst (acc ++ [y]))) else Nx H3)
theorem x_seq : tSeq s1 s2 D σ H = s1 { D with nx := s2 D } σ H := rfl
theorem x_next : tNext D σ H = D.nx σ H := rfl
theorem x_brk : tBreak D σ H = D.bk σ H := rfl
theorem x_cnt : tCont D σ H = D.ct σ H := rfl
theorem x_nev : tNever D σ H = False := rfl
theorem x_ret : tRet ta D σ H = ta σ H D.rt := rfl
theorem x_retN : tRetN D σ H = D.rt .non H := rfl
theorem x_drop : tDrop ta D σ H = ta σ H (fun _ H1 => D.nx σ H1) := rfl
theorem x_ifS : tIfS t s1 s2 D σ H = t σ H (fun b H1 => if b = true then s1 D σ H1 else s2 D σ H1) := rfl
theorem x_asg : tAsg ta g D σ H = ta σ H (fun x H1 => g x σ H1 D.nx) := rfl
theorem x_gn : gName i v σ H QG = QG (σ.set i (some v)) H := rfl
theorem x_gsub {o ix : TE} {st : TSet} : gSub o ix st v σ H QG = o σ H (fun o H1 => ix σ H1 fun i H2 => st o i v H2 fun H3 => QG σ H3) := rfl
theorem x_par : tPar i j a D σ H = a σ H (fun vs H1 => ∃ v w, vs = [v, w] ∧ D.nx ((σ.set i (some v)).set j (some w)) H1) := rfl
theorem x_par3 {l : Nat} : tPar3 i j l a D σ H = a σ H (fun vs H1 => ∃ u v w, vs = [u, v, w] ∧ D.nx (((σ.set i (some u)).set j (some v)).set l (some w)) H1) := rfl
theorem x_aug {ti : TIp} : tAug i ta ti D σ H = ∃ x, σ[i]? = some (some x) ∧ ta σ H fun y H1 => ti x y H1 fun z H2 => D.nx (σ.set i (some z)) H2 := rfl
theorem x_for {wi : TI} : tFor wi g s1 D σ H = wi σ H (fun J H1 => LoopG J g s1 D σ H1) := rfl
theorem x_lc {wi : TI} {vs : List Nat} : tLc wi g t ta vs σ H Q = wi σ H (fun J H1 => ∀ Dl, H1 Dl = none → LcG J g t ta vs σ Dl H1 Q) := rfl
theorem x_rng1 {R : It → Hp → Prop} : iRng1 a σ H R = a σ H (fun vs H1 => ∃ j : Int, vs = [.int j] ∧ -(2 ^ 62) ≤ j ∧ j < 2 ^ 62 ∧ R (Itr 0 j.toNat) H1) := rfl
theorem x_rng2 {R : It → Hp → Prop} : iRng2 a σ H R = a σ H (fun vs H1 => ∃ i j : Int, vs = [.int i, .int j] ∧ (-(2 ^ 62) ≤ i ∧ i < 2 ^ 62 ∧ -(2 ^ 62) ≤ j ∧ j < 2 ^ 62) ∧ R (Itr i (j - i).toNat) H1) := rfl
theorem x_rng3 {R : It → Hp → Prop} : iRng3 a σ H R = a σ H (fun vs H1 => ∃ (i j c : Int) (n : Nat), vs = [.int i, .int j, .int c] ∧ RgC i j c n ∧ R (Itc i c n) H1) := rfl
theorem x_ilist {R : It → Hp → Prop} : iList K ta σ H R = ta σ H (fun x H1 => ∃ a, x = .ref a ∧ (∃ xs, SqL K H1 a xs) ∧ R (Itl K a) H1) := rfl
theorem x_itup {R : It → Hp → Prop} : iTup K ta σ H R = ta σ H (fun x H1 => ∃ a, x = .ref a ∧ (∃ xs, SqT K H1 a xs) ∧ R (Itt K a) H1) := rfl
theorem x_ienum {R : It → Hp → Prop} : iEnum K a σ H R = a σ H (fun vs H1 => ∃ a xs, vs = [.ref a] ∧ SqL K H1 a xs ∧ R (Ite K a) H1) := rfl
theorem x_izip {R : It → Hp → Prop} : iZip K a σ H R = a σ H (fun vs H1 => ∃ a b xs ys, vs = [.ref a, .ref b] ∧ SqL K H1 a xs ∧ SqL K H1 b ys ∧ R (Itz K a b) H1) := rfl
theorem x_istr {R : It → Hp → Prop} : iStr ta σ H R = ta σ H (fun v H1 => ∃ x, v = .str x ∧ R (Its x) H1) := rfl
theorem x_var : tVar i σ H Q = ∃ v, σ[i]? = some (some v) ∧ Q v H := rfl
theorem x_c : tC v σ H Q = Q v H := rfl
theorem x_op : tOp r ta tb σ H Q = ta σ H (fun x H1 => tb σ H1 fun y H2 => r x y H2 Q) := rfl
theorem x_un {ru : V → Hp → VK → Prop} : tUn ru ta σ H Q = ta σ H (fun x H1 => ru x H1 Q) := rfl
theorem x_test : tTest ta σ H QT = ta σ H (fun x H' => ∃ k, x = .bl k ∧ QT k H') := rfl
theorem x_b : tB ta σ H QT = ta σ H (fun x H' => ∃ k, x = .bl k ∧ QT k H') := rfl
theorem x_chain : tChain r r' ta tb tc σ H Q = ta σ H (fun x H1 => tb σ H1 fun y H2 => r x y H2 fun z H3 => ∃ k, z = .bl k ∧ (if k = true then tc σ H3 fun w' H4 => r' y w' H4 Q else Q (.bl false) H3)) := rfl
theorem x_and : tAnd t u σ H QT = t σ H (fun c H1 => if c = true then u σ H1 QT else QT false H1) := rfl
theorem x_or : tOr t u σ H QT = t σ H (fun c H1 => if c = true then QT true H1 else u σ H1 QT) := rfl
theorem x_not : tNot t σ H QT = t σ H (fun c H1 => QT (!c) H1) := rfl
theorem x_andV : tAndV ta tb σ H Q = ta σ H (fun x H1 => ∃ c, x = .bl c ∧ if c = true then tb σ H1 Q else Q (.bl false) H1) := rfl
theorem x_orV : tOrV ta tb σ H Q = ta σ H (fun x H1 => ∃ c, x = .bl c ∧ if c = true then Q (.bl true) H1 else tb σ H1 Q) := rfl
theorem x_notV : tNotV ta σ H Q = ta σ H (fun x H1 => ∃ c, x = .bl c ∧ Q (.bl (!c)) H1) := rfl
theorem x_ife : tIf t ta tb σ H Q = t σ H (fun c H1 => if c = true then ta σ H1 Q else tb σ H1 Q) := rfl
theorem x_nil : tNil σ H QA = QA [] H := rfl
theorem x_cons {rest : TA} : tCons ta rest σ H QA = ta σ H (fun x H1 => rest σ H1 fun xs H2 => QA (x :: xs) H2) := rfl
theorem x_lst : tLst a σ H Q = a σ H (fun xs H1 => xs.length ≤ sizeLine ∧ ∀ p, H1 p = none → Q (.ref p) (upd H1 p (.lst xs))) := rfl
theorem x_tup : tTup a σ H Q = a σ H (fun xs H1 => xs.length ≤ sizeLine ∧ ∀ p, H1 p = none → Q (.ref p) (upd H1 p (.tup xs))) := rfl
theorem x_cb {rc : List V → Hp → VK → Prop} : tCB rc a σ H Q = a σ H (fun vs H1 => rc vs H1 Q) := rfl
theorem x_call {sp : Sp} {dvs : List V} {E : XK} : tCall sp dvs E a σ H Q = a σ H (fun vs H1 => sp (vs ++ dvs) H1 Q E) := rfl
theorem x_callK {sp : Sp} {gV : List V → List V → List V} {E : XK} {b : TA} : tCallK sp gV E a b σ H Q = a σ H (fun vs H1 => b σ H1 fun zs H2 => sp (gV vs zs) H2 Q E) := rfl
theorem x_bm {T : String} {rm : V → List V → Hp → VK → Prop} : tBM K T rm ta a σ H Q = ta σ H (fun x H1 => tyV K T x H1 ∧ a σ H1 fun xs H2 => rm x xs H2 Q) := rfl
theorem x_bm0 {T : String} {rm : V → List V → Hp → VK → Prop} : tBM0 K T rm ta σ H Q = ta σ H (fun x H1 => tyV K T x H1 ∧ rm x [] H1 Q) := rfl
theorem x_sl {rs : V → Option Int → Option Int → Hp → VK → Prop} {tl th : TO} : tSl rs ta tl th σ H Q = ta σ H (fun x H1 => tl σ H1 fun l H2 => th σ H2 fun u H3 => rs x l u H3 Q) := rfl
theorem x_nopart {QO : Option Int → Hp → Prop} : tNoPart σ H QO = QO none H := rfl
theorem x_part {QO : Option Int → Hp → Prop} : tPart ta σ H QO = ta σ H (fun x H1 => ∃ i, x = .int i ∧ QO (some i) H1) := rfl
theorem x_revL : tRevL K ta σ H Q = ta σ H (fun x H1 => ∃ a xs, x = .ref a ∧ SqL K H1 a xs ∧ ∀ p, H1 p = none → Q (.ref p) (upd H1 p (.lst xs.reverse))) := rfl
theorem x_I0 {f : Int → Int → V} {m n : Int} : rI0 f (.int m) (.int n) H Q ↔ Q (f m n) H := ⟨fun ⟨i, j, e1, e2, q⟩ => by cases e1; cases e2; exact q, fun q => ⟨m, n, rfl, rfl, q⟩⟩
theorem x_I {C : Int → Int → Prop} {f : Int → Int → V} {m n : Int} : rI C f (.int m) (.int n) H Q ↔ C m n ∧ Q (f m n) H := ⟨fun ⟨i, j, e1, e2, q⟩ => by cases e1; cases e2; exact q, fun q => ⟨m, n, rfl, rfl, q⟩⟩
theorem x_U {f : Int → V} {m : Int} : rU f (.int m) H Q ↔ Q (f m) H := ⟨fun ⟨i, e1, q⟩ => by cases e1; exact q, fun q => ⟨m, rfl, q⟩⟩
theorem x_ip {f : Int → Int → Int} {m n : Int} : ipI f (.int m) (.int n) H Q ↔ Q (.int (f m n)) H := ⟨fun ⟨i, j, e1, e2, q⟩ => by cases e1; cases e2; exact q, fun q => ⟨m, n, rfl, rfl, q⟩⟩
theorem x_ipC {C : Int → Int → Prop} {f : Int → Int → Int} {m n : Int} : ipC C f (.int m) (.int n) H Q ↔ C m n ∧ Q (.int (f m n)) H := ⟨fun ⟨i, j, e1, e2, q⟩ => by cases e1; cases e2; exact q, fun q => ⟨m, n, rfl, rfl, q⟩⟩
theorem x_eqI {m n : Int} : rEq (.int m) (.int n) H Q ↔ Q (.bl (decide (m = n))) H := by
  unfold rEq
  rw [show scal (V.int m) (V.int n) = true from rfl]
  by_cases e : m = n
  · subst e; simp
  · simp [e]
theorem x_neI {m n : Int} : rNe (.int m) (.int n) H Q ↔ Q (.bl (!decide (m = n))) H := by
  unfold rNe
  rw [show scal (V.int m) (V.int n) = true from rfl]
  by_cases e : m = n
  · subst e; simp
  · simp [e]
end
/-! ### the rules that speak of the written part, by its own name -/
section
variable {X : Cx} {K : PySem.W.Frag}
theorem k_pi_list {tg l : Expr} {tl : TE} (hK : X.K = K) (hl : PE X l tl) : PI X tg l (iList K tl) := by subst hK; exact pi_list hl
theorem k_pi_tup {tg l : Expr} {tl : TE} (hK : X.K = K) (hl : PE X l tl) : PI X tg l (iTup K tl) := by subst hK; exact pi_tup hl
theorem k_pi_enum {e : Expr} {ta : TA} {p pos tpos : Pos} {elts : List Expr} {kk : Nat} (hK : X.K = K) (hg : Gl X "enumerate") (hm : X.mg "enumerate" = none) (ha : PA X [e] ta) (hs : starEach [e] X.env = [(false, eval e X.env)] := by rfl) : PI X (.Tuple elts kk tpos) (.Call (.Name "enumerate" p) [e] [] pos) (iEnum K ta) := by subst hK; exact pi_enum hg hm ha hs
theorem k_pi_zip {e e2 : Expr} {ta : TA} {p pos tpos : Pos} {elts : List Expr} {kk : Nat} (hK : X.K = K) (hg : Gl X "zip") (hm : X.mg "zip" = none) (ha : PA X [e, e2] ta)
    (hs : starEach [e, e2] X.env = (false, eval e X.env) :: starEach [e2] X.env := by rfl) (hpl : (backTo pos (starEach [e2] X.env)).any (·.1) = false := by rfl) : PI X (.Tuple elts kk tpos) (.Call (.Name "zip" p) [e, e2] [] pos) (iZip K ta) := by subst hK; exact pi_zip hg hm ha hs hpl
theorem k_ix_list (hK : X.K = K) : IxR X (rIxL K) := by subst hK; exact ix_list
theorem k_ix_tup (hK : X.K = K) : IxR X (rIxT K) := by subst hK; exact ix_tup
theorem k_sl_list (hK : X.K = K) : SlR X (rSlL K) := by subst hK; exact sl_list
theorem k_in (hK : X.K = K) : OpR X (compareOp .In) (rIn K false) := by subst hK; exact op_in_seq
theorem k_notIn (hK : X.K = K) : OpR X (compareOp .NotIn) (rIn K true) := by subst hK; exact op_notIn_seq
theorem k_eqD (hK : X.K = K) (hu : X.A.units + 64 < cLine) : OpR X (compareOp .Eq) (rEqD K) := by subst hK; exact op_eqD hu
theorem k_neD (hK : X.K = K) (hu : X.A.units + 64 < cLine) : OpR X (compareOp .NotEq) (rNeD K) := by subst hK; exact op_neD hu
def rLen (K : PySem.W.Frag) : List V → Hp → VK → Prop := fun xs H Q => ∃ p ys, xs = [.ref p] ∧ (SqL K H p ys ∨ SqT K H p ys) ∧ Q (.int ys.length) H
def rListOf (K : PySem.W.Frag) : List V → Hp → VK → Prop := fun xs H Q => ∃ p ys, xs = [.ref p] ∧ (SqL K H p ys ∨ SqT K H p ys) ∧ ∀ l, H l = none → Q (.ref l) (upd H l (.lst ys))
def rTupOf (K : PySem.W.Frag) : List V → Hp → VK → Prop := fun xs H Q => ∃ p ys, xs = [.ref p] ∧ ((SqL K H p ys ∧ ∀ l, H l = none → Q (.ref l) (upd H l (.tup ys))) ∨ (SqT K H p ys ∧ Q (.ref p) H))
theorem k_len (hK : X.K = K) : CallR X (.builtin "len") (rLen K) := by subst hK; exact call_len_seq
theorem k_listOf (hK : X.K = K) : CallR X (.type "list") (rListOf K) := by subst hK; exact call_list_of
theorem k_tupOf (hK : X.K = K) : CallR X (.type "tuple") (rTupOf K) := by subst hK; exact call_tuple_of
theorem k_isi (hK : X.K = K) : CallR X (.builtin "isinstance") (rIsi K) := by subst hK; exact call_isi
theorem k_sum (hK : X.K = K) (hc : X.calm = true) : CallR X (.builtin "sum") (rSum K) := by subst hK; exact cr_sum hc
theorem k_all (hK : X.K = K) (hc : X.calm = true) : CallR X (.builtin "all") (rAll K) := by subst hK; exact cr_all hc
theorem k_any (hK : X.K = K) (hc : X.calm = true) : CallR X (.builtin "any") (rAny K) := by subst hK; exact cr_any hc
theorem k_sorted (hK : X.K = K) : CallR X (.builtin "sorted") (rSorted K) := by subst hK; exact cr_sorted
def tTruK (K : PySem.W.Frag) (ta : TE) : TT := fun σ H Q => ta σ H fun x H' => ∃ k, TruV K x H' k ∧ Q k H'
theorem k_truth {a : Expr} {ta : TE} (hK : X.K = K) (ha : PE X a ta) (he : ∀ whole, isTrue a X.env whole = (do let v ← whole; standAt a.pos; holding [v] (truthy v))) : PT X a (tTruK K ta) := by subst hK; exact pt_truth ha he
theorem k_tup {es : List Expr} {k n : Nat} {pos : Pos} {t : TGs} (hK : X.K = K) (hc : X.calm = true) (h : PGs X es t)
    (hn : (assignEach es X.env).length = n := by rfl) (hst : (assignEach es X.env).findIdx? (·.1) = none := by rfl) : PG X (.Tuple es k pos) (gTup K n t) := by subst hK; exact pg_tup hc h hn hst
theorem k_bm0 {T : String} {to : TE} {r : V → List V → Hp → VK → Prop} {e : Expr} (hK : X.K = K) (h : PE X e (tBM0 X.K T r to)) : PE X e (tBM0 K T r to) := by subst hK; exact h
theorem k_bm {T : String} {to : TE} {ta : TA} {r : V → List V → Hp → VK → Prop} {e : Expr} (hK : X.K = K) (h : PE X e (tBM X.K T r to ta)) : PE X e (tBM K T r to ta) := by subst hK; exact h
theorem k_rev {e : Expr} {te : TE} {k : Nat} {p1 p2 p3 pos : Pos} (hK : X.K = K) (he : PE X e te) : PE X (.Subscript e (.Slice none none (some (.UnaryOp .USub (.Constant (.int 1) k p1) p2)) p3) pos) (tRevL K te) := by subst hK; exact pe_revL he
theorem k_index (hK : X.K = K) : MtR X "list.index" (rIndex K) := by subst hK; exact mt_index
end
section
variable {K : PySem.W.Frag} {σ : L2.St} {H : Hp} {ta : TE} {QT : Bool → Hp → Prop}
theorem x_tru : tTruK K ta σ H QT = ta σ H (fun x H' => ∃ k, TruV K x H' k ∧ QT k H') := rfl
end
/-! ### loops -/
section
variable {K : PySem.W.Frag} {σ : L2.St} {H : Hp} {D : Ends} {g : TG} {tb : TS}
theorem lg_rng {lo : Int} {n : Nat} (Pv : Nat → L2.St → Hp → Prop) (h0 : Pv 0 σ H)
    (hs : ∀ i σ H, i < n → Pv i σ H → g (.int (lo + i)) σ H fun σ2 H2 => tb { D with nx := Pv (i + 1), ct := Pv (i + 1), bk := D.nx } σ2 H2) (hd : ∀ σ H, Pv n σ H → D.nx σ H) : LoopG (Itr lo n) g tb D σ H := for_range Pv h0 hs hd
theorem lg_rngC {lo c : Int} {n : Nat} (Pv : Nat → L2.St → Hp → Prop) (h0 : Pv 0 σ H)
    (hs : ∀ i σ H, i < n → Pv i σ H → g (.int (lo + (i : Nat) * c)) σ H fun σ2 H2 => tb { D with nx := Pv (i + 1), ct := Pv (i + 1), bk := D.nx } σ2 H2) (hd : ∀ σ H, Pv n σ H → D.nx σ H) : LoopG (Itc lo c n) g tb D σ H := for_rangeC Pv h0 hs hd
theorem lg_list {a : Addr} {xs : List V} (Pv : Nat → L2.St → Hp → Prop) (h0 : Pv 0 σ H) (hl : ∀ i σ H, i ≤ xs.length → Pv i σ H → SqL K H a xs)
    (hs : ∀ i x σ H, xs[i]? = some x → Pv i σ H → g x σ H fun σ2 H2 => tb { D with nx := Pv (i + 1), ct := Pv (i + 1), bk := D.nx } σ2 H2) (hd : ∀ σ H, Pv xs.length σ H → D.nx σ H) : LoopG (Itl K a) g tb D σ H := for_list Pv h0 hl hs hd
/-- enumerate over a list that stands still: each pair is a new tuple -/
theorem lg_enum {a : Addr} {xs : List V} (Pv : Nat → L2.St → Hp → Prop) (h0 : Pv 0 σ H) (hl : ∀ i σ H, i ≤ xs.length → Pv i σ H → SqL K H a xs)
    (hs : ∀ i x σ H T, xs[i]? = some x → Pv i σ H → H T = none → g (.ref T) σ (upd H T (.tup [.int (i : Nat), x])) fun σ2 H2 => tb { D with nx := Pv (i + 1), ct := Pv (i + 1), bk := D.nx } σ2 H2) (hd : ∀ σ H, Pv xs.length σ H → D.nx σ H) : LoopG (Ite K a) g tb D σ H := by
  refine ⟨fun i m σ H => m = xs.length - i ∧ i ≤ xs.length ∧ Pv i σ H, ⟨xs.length, by simp, Nat.zero_le _, h0⟩, ?_⟩
  rintro i m σ H ⟨rfl, hi, p⟩
  have q := hl i σ H hi p
  by_cases hlt : i < xs.length
  · refine .inr ⟨⟨xs, xs[i], q, by simp [hlt]⟩, Pv (i + 1), fun σ' H' p' => ⟨xs.length - (i + 1), by omega, rfl, hlt, p'⟩, fun x H' y => ?_⟩
    obtain ⟨T, x', rfl, hT, rfl, f⟩ := y
    exact hs i x' σ H T (f xs q) p hT
  · have e : i = xs.length := by omega
    subst e
    exact .inl ⟨⟨xs, q, Nat.le_refl _⟩, hd σ H p⟩
/-- a pair unpacked -/
theorem g_two {i j : Nat} {T : Addr} {x y : V} {QG : L2.St → Hp → Prop} (h : H T = some (.tup [x, y])) (q : QG ((σ.set i (some x)).set j (some y)) H) : gTup K 2 (gCons (gName i) (gCons (gName j) gNil)) (.ref T) σ H QG :=
  ⟨T, [x, y], rfl, .inl (.inl h), rfl, x, [y], rfl, y, [], rfl, rfl, q⟩
end
/-! ### comprehensions over lists whose elements are given by a function of the turn -/
section
variable {K : PySem.W.Frag} {σ : L2.St} {H1 : Hp} {g : TG} {tt : TT} {te : TE} {vs : List Nat} {Dl : Addr} {Q : VK}
theorem lc_g (n : Nat) {J : It} (Pv : Nat → Hp → Prop) (h0 : Pv 0 (upd H1 Dl (.lst []))) (hst : ∀ H, Pv n H → J.stop n H) (hgo : ∀ i H, i < n → Pv i H → J.go i H)
    (hs : ∀ i H x H', i < n → Pv i H → J.yld i H x H' → g x (wipe σ vs) H' fun σ2 H2 => wipe σ2 vs = wipe σ vs ∧ tt σ2 H2 fun b H3 =>
      if b = true then te σ2 H3 fun y H4 => ∃ acc, H4 Dl = some (.lst acc) ∧ acc.length < sizeLine ∧ Pv (i + 1) (upd H4 Dl (.lst (acc ++ [y]))) else Pv (i + 1) H3) (hd : ∀ H, Pv n H → Q (.ref Dl) H) : LcG J g tt te vs σ Dl H1 Q := by
  refine ⟨fun i m H => m = n - i ∧ i ≤ n ∧ Pv i H, ⟨n, by simp, Nat.zero_le _, h0⟩, ?_⟩
  rintro i m H ⟨rfl, hi, p⟩
  by_cases hlt : i < n
  · exact .inr ⟨hgo i H hlt p, Pv (i + 1), fun H' p' => ⟨n - (i + 1), by omega, rfl, hlt, p'⟩, fun x H' y => hs i H x H' hlt p y⟩
  · have e : i = n := by omega
    subst e
    exact .inl ⟨hst H p, hd H p⟩
end
/-! ### comprehensions that change nothing -/
section
variable {K : PySem.W.Frag} {σ : L2.St} {H1 : Hp} {g : TG} {tt : TT} {te : TE} {vs : List Nat} {Dl : Addr} {Q : VK}
def kept (n : Nat) (keep : Nat → Bool) (f : Nat → V) : List V := ((List.range n).filter keep).map f
theorem kept_yes {n : Nat} {k : Nat → Bool} {f : Nat → V} (h : k n = true) : kept (n + 1) k f = kept n k f ++ [f n] := by
  unfold kept
  rw [List.range_succ, List.filter_append, List.map_append]
  simp [h]
theorem kept_no {n : Nat} {k : Nat → Bool} {f : Nat → V} (h : k n = false) : kept (n + 1) k f = kept n k f := by
  unfold kept
  rw [List.range_succ, List.filter_append, List.map_append]
  simp [h]
theorem kept_len (n : Nat) (k : Nat → Bool) (f : Nat → V) : (kept n k f).length ≤ n := by
  unfold kept
  rw [List.length_map]
  exact Nat.le_trans (List.length_filter_le _ _) (by rw [List.length_range]; exact Nat.le_refl _)
theorem kept_all (n : Nat) (f : Nat → V) : kept n (fun _ => true) f = (List.range n).map f := by
  unfold kept
  rw [List.filter_eq_self.mpr (by simp)]
theorem lc_pure {J : It} (n : Nat) (item : Nat → L2.St) (keep : Nat → Bool) (f : Nat → V) (hD : H1 Dl = none) (hn : n ≤ 100000)
    (hst : ∀ H', Evl.Ex H1 H' → J.stop n H') (hgo : ∀ i H', i < n → Evl.Ex H1 H' → J.go i H')
    (hy : ∀ i H' x H'' (QG : L2.St → Hp → Prop), i < n → Evl.Ex H1 H' → J.yld i H' x H'' → (Evl.Ex H' H'' → QG (item i) H'') → g x (wipe σ vs) H'' QG)
    (hw : ∀ i, i < n → wipe (item i) vs = wipe σ vs) (ht : ∀ i, i < n → Evl.EvT tt (item i) H1 (keep i)) (he : ∀ i, i < n → keep i = true → Evl.Ev te (item i) H1 (f i))
    (hd : ∀ H', Evl.Ex H1 H' → H' Dl = some (.lst (kept n keep f)) → Q (.ref Dl) H') : LcG J g tt te vs σ Dl H1 Q := by
  refine lc_g n (fun i H' => Evl.Ex H1 H' ∧ H' Dl = some (.lst (kept i keep f))) ⟨Evl.Ex.new hD, upd_same⟩ (fun H' h => hst H' h.1) (fun i H' hi h => hgo i H' hi h.1) (fun i H' x H'' hi h y => ?_) (fun H' h => hd H' h.1 h.2)
  obtain ⟨e, hl⟩ := h
  refine hy i H' x H'' _ hi e y fun e2 => ⟨hw i hi, ht i hi H'' (e.trans e2) _ fun H3 e3 => ?_⟩
  have hl3 := e3 _ _ (e2 _ _ hl)
  cases hk : keep i with
  | false =>
    show (if false = true then _ else _)
    rw [if_neg Bool.false_ne_true, kept_no hk]
    exact ⟨(e.trans e2).trans e3, hl3⟩
  | true =>
    show (if true = true then _ else _)
    rw [if_pos rfl]
    refine he i hi hk H3 ((e.trans e2).trans e3) _ fun H4 e4 => ⟨_, e4 _ _ hl3, Nat.lt_of_lt_of_le (Nat.lt_of_le_of_lt (kept_len i keep f) hi) (Nat.le_trans hn (by decide)), ?_⟩
    rw [kept_yes hk]
    exact ⟨(((e.trans e2).trans e3).trans e4).mut hD, upd_same⟩
theorem tyes {σ : L2.St} {H : Hp} : Evl.EvT tYes σ H true := fun H1 _ _ q => q H1 (Evl.Ex.refl H1)
theorem lc_enum {a : Addr} {xs : List V} {j k : Nat} (keep : Nat → Bool) (f : Nat → V) (hx : SqL K H1 a xs) (hD : H1 Dl = none) (hn : xs.length ≤ 100000)
    (hw : ∀ u v : V, wipe (((wipe σ vs).set j (some u)).set k (some v)) vs = wipe σ vs)
    (ht : ∀ i x, xs[i]? = some x → Evl.EvT tt (((wipe σ vs).set j (some (.int (i : Nat)))).set k (some x)) H1 (keep i))
    (he : ∀ i x, xs[i]? = some x → keep i = true → Evl.Ev te (((wipe σ vs).set j (some (.int (i : Nat)))).set k (some x)) H1 (f i))
    (hd : ∀ H', Evl.Ex H1 H' → H' Dl = some (.lst (kept xs.length keep f)) → Q (.ref Dl) H') : LcG (Ite K a) (gTup K 2 (gCons (gName j) (gCons (gName k) gNil))) tt te vs σ Dl H1 Q := by
  refine lc_pure xs.length (fun i => ((wipe σ vs).set j (some (.int (i : Nat)))).set k (some (xs.getD i .non))) keep f hD hn (fun H' e => ⟨xs, Evl.ex_l e hx, Nat.le_refl _⟩) (fun i H' hi e => ⟨xs, xs[i], Evl.ex_l e hx, List.getElem?_eq_getElem hi⟩)
    (fun i H' x H'' QG hi e y q => ?_) (fun i hi => hw _ _) (fun i hi => ht i _ (by rw [List.getD_eq_getElem?_getD, List.getElem?_eq_getElem hi]; rfl)) (fun i hi => he i _ (by rw [List.getD_eq_getElem?_getD, List.getElem?_eq_getElem hi]; rfl)) hd
  obtain ⟨T, v, rfl, hT, rfl, hf⟩ := y
  have hv := hf xs (Evl.ex_l e hx)
  have e1 : xs.getD i .non = v := by rw [List.getD_eq_getElem?_getD, hv]; rfl
  refine g_two upd_same ?_
  have q2 := q (Evl.Ex.new hT)
  rw [e1] at q2
  exact q2
theorem lc_list {a : Addr} {xs : List V} {j : Nat} (keep : Nat → Bool) (f : Nat → V) (hx : SqL K H1 a xs) (hD : H1 Dl = none) (hn : xs.length ≤ 100000)
    (hw : ∀ u : V, wipe ((wipe σ vs).set j (some u)) vs = wipe σ vs)
    (ht : ∀ i x, xs[i]? = some x → Evl.EvT tt ((wipe σ vs).set j (some x)) H1 (keep i))
    (he : ∀ i x, xs[i]? = some x → keep i = true → Evl.Ev te ((wipe σ vs).set j (some x)) H1 (f i))
    (hd : ∀ H', Evl.Ex H1 H' → H' Dl = some (.lst (kept xs.length keep f)) → Q (.ref Dl) H') : LcG (Itl K a) (gName j) tt te vs σ Dl H1 Q := by
  refine lc_pure xs.length (fun i => (wipe σ vs).set j (some (xs.getD i .non))) keep f hD hn (fun H' e => ⟨xs, Evl.ex_l e hx, Nat.le_refl _⟩) (fun i H' hi e => ⟨xs, xs[i], Evl.ex_l e hx, List.getElem?_eq_getElem hi⟩)
    (fun i H' x H'' QG hi e y q => ?_) (fun i hi => hw _) (fun i hi => ht i _ (by rw [List.getD_eq_getElem?_getD, List.getElem?_eq_getElem hi]; rfl)) (fun i hi => he i _ (by rw [List.getD_eq_getElem?_getD, List.getElem?_eq_getElem hi]; rfl)) hd
  obtain ⟨rfl, hf⟩ := y
  have hv := hf xs (Evl.ex_l e hx)
  have e1 : xs.getD i .non = x := by rw [List.getD_eq_getElem?_getD, hv]; rfl
  show QG _ _
  rw [← e1]
  exact q (Evl.Ex.refl _)
theorem lc_rng {lo : Int} {n j : Nat} (keep : Nat → Bool) (f : Nat → V) (hD : H1 Dl = none) (hn : n ≤ 100000)
    (hw : ∀ u : V, wipe ((wipe σ vs).set j (some u)) vs = wipe σ vs)
    (ht : ∀ i, i < n → Evl.EvT tt ((wipe σ vs).set j (some (.int (lo + i)))) H1 (keep i))
    (he : ∀ i, i < n → keep i = true → Evl.Ev te ((wipe σ vs).set j (some (.int (lo + i)))) H1 (f i))
    (hd : ∀ H', Evl.Ex H1 H' → H' Dl = some (.lst (kept n keep f)) → Q (.ref Dl) H') : LcG (Itr lo n) (gName j) tt te vs σ Dl H1 Q := by
  refine lc_pure n (fun i => (wipe σ vs).set j (some (.int (lo + i)))) keep f hD hn (fun H' e => Nat.le_refl _) (fun i H' hi e => hi)
    (fun i H' x H'' QG hi e y q => ?_) (fun i hi => hw _) ht he hd
  obtain ⟨rfl, rfl⟩ := y
  exact q (Evl.Ex.refl _)
end
/-! ### operations on values -/
section
variable {K : PySem.W.Frag} {H : Hp} {Q : VK}
theorem isi_int {i : Int} {T : String} {b : Bool} (h : kitB "int" T = some b) (q : Q (.bl b) H) : rIsi K [.int i, .ty T] H Q :=
  ⟨.int i, .ty T, .type "int", .type T, b, rfl, .ty T, .base (.int i), kit_ty h, q⟩
theorem ixL {p : Addr} {xs : List V} {i : Int} {v : V} (h : SqL K H p xs) (hi : atI xs i = some v) (q : Q v H) : rIxL K (.ref p) (.int i) H Q := ⟨p, xs, i, v, rfl, rfl, h, hi, q⟩
theorem setL {p : Addr} {xs : List V} {i : Int} {j : Nat} {v : V} {R : Hp → Prop} (h : H p = some (.lst xs)) (hj : ixN xs.length i = some j) (q : R (upd H p (.lst (xs.set j v)))) : rSetL (.ref p) (.int i) v H R := ⟨p, xs, i, j, rfl, rfl, h, hj, q⟩
theorem repL {p : Addr} {xs : List V} {k : Int} (h : H p = some (.lst xs)) (h1 : -(2 ^ 63) ≤ k) (h2 : k < 2 ^ 63) (hz : xs.length * k.toNat ≤ sizeLine) (q : ∀ l, H l = none → Q (.ref l) (upd H l (.lst (List.replicate k.toNat xs).flatten))) : rRep (.ref p) (.int k) H Q := ⟨p, k, xs, rfl, rfl, h, h1, h2, hz, q⟩
theorem catL {p b : Addr} {xs ys : List V} (h : H p = some (.lst xs)) (hb : H b = some (.lst ys)) (hz : xs.length + ys.length ≤ sizeLine) (q : ∀ l, H l = none → Q (.ref l) (upd H l (.lst (xs ++ ys)))) : rCat (.ref p) (.ref b) H Q := ⟨p, b, xs, ys, rfl, rfl, h, hb, hz, q⟩
theorem sumL {p : Addr} {ns : List Int} (h : SqL K H p (ns.map V.int)) (q : Q (.int ns.sum) H) : rSum K [.ref p] H Q := ⟨p, ns, rfl, h, q⟩
theorem appL {p : Addr} {xs : List V} {y : V} (h : H p = some (.lst xs)) (hz : xs.length < sizeLine) (q : Q .non (upd H p (.lst (xs ++ [y])))) : rAppend (.ref p) [y] H Q := ⟨p, xs, y, rfl, rfl, h, hz, q⟩
theorem tyL {p : Addr} {xs : List V} (h : H p = some (.lst xs)) : tyV K "list" (.ref p) H := Or.inl ⟨rfl, _, Or.inl (Or.inl h)⟩
theorem atI_n {xs : List V} {i : Int} {j : Nat} {v : V} (e : i = (j : Int)) (h : xs[j]? = some v) : atI xs i = some v := by
  subst e
  have hj := (List.getElem?_eq_some_iff.mp h).1
  unfold atI ixN
  rw [if_pos (by omega), if_pos (by omega)]
  exact h
theorem ixN_n {n : Nat} {i : Int} {j : Nat} (e : i = (j : Int)) (h : j < n) : ixN n i = some j := by
  subst e
  unfold ixN
  rw [if_pos (by omega), if_pos (by omega)]
  rfl
theorem sz_ok {n : Nat} (h : n ≤ 100000) : n ≤ sizeLine := Nat.le_trans h (by decide)
theorem sz_lt {n : Nat} (h : n < 100000) : n < sizeLine := Nat.lt_of_lt_of_le h (by decide)
end
end BC

set_option Elab.async false
set_option linter.all false
set_option maxRecDepth 100000
set_option maxHeartbeats 4000000
namespace BC
open PySem PySem.Spec PyProof.Rows L2 Evl RZ
/-! ### all but the object at b stands -/
def Fx (b : Addr) (H H' : Hp) : Prop := ∀ a o, a ≠ b → H a = some o → H' a = some o
theorem Fx.refl (b : Addr) (H : Hp) : Fx b H H := fun _ _ _ h => h
theorem Fx.trans {b : Addr} {H H1 H2 : Hp} (x : Fx b H H1) (y : Fx b H1 H2) : Fx b H H2 := fun a o n h => y a o n (x a o n h)
theorem Fx.of {b : Addr} {H H' : Hp} (e : Ex H H') : Fx b H H' := fun a o _ h => e a o h
theorem Fx.put {b : Addr} {H : Hp} {o : HO} : Fx b H (upd H b o) := fun a u n h => by rw [upd_ne n]; exact h
theorem Fx.ex {b : Addr} {H H' : Hp} (x : Fx b H H') (h : H b = none) : Ex H H' := fun a o e => x a o (ne_of_none e h) e
theorem Fx.l {K : PySem.W.Frag} {b a : Addr} {H H' : Hp} {xs : List V} (x : Fx b H H') (n : a ≠ b) (h : SqL K H a xs) : SqL K H' a xs := by
  rcases h with h | h
  · rcases h with h | ⟨o, h⟩
    · exact .inl (.inl (x a _ n h))
    · exact .inl (.inr ⟨o, x a _ n h⟩)
  · exact .inr h
/-! ### lists -/
theorem cutV_mem {xs : List V} {lo hi : Option Int} {x : V} (h : x ∈ cutV xs lo hi) : x ∈ xs := by
  unfold cutV at h
  exact List.mem_of_mem_drop (List.mem_of_mem_take h)
theorem cutV_len (xs : List V) (lo hi : Option Int) : (cutV xs lo hi).length ≤ xs.length := by
  unfold cutV
  rw [List.length_take, List.length_drop]
  omega
theorem two_at0 {x y r : Int} {n : Nat} (h0 : 0 ≤ r) (h1 : r < 2) (hx0 : 0 ≤ x) (hx1 : x ≤ n) (hy0 : 0 ≤ y) (hy1 : y ≤ n) : ∃ m : Nat, m ≤ n ∧ atI [V.int x, V.int y] r = some (.int m) := by
  by_cases e : r = 0
  · exact ⟨x.toNat, by omega, by rw [Int.toNat_of_nonneg hx0]; exact atI_n (j := 0) e rfl⟩
  · exact ⟨y.toNat, by omega, by rw [Int.toNat_of_nonneg hy0]; exact atI_n (j := 1) (by omega) rfl⟩
theorem two_at {x y r : Int} {n : Nat} (h0 : 0 ≤ r) (h1 : r < 2) (hx0 : 1 ≤ x) (hx1 : x ≤ n) (hy0 : 1 ≤ y) (hy1 : y ≤ n) : ∃ m : Nat, 1 ≤ m ∧ m ≤ n ∧ atI [V.int x, V.int y] r = some (.int m) := by
  by_cases e : r = 0
  · exact ⟨x.toNat, by omega, by omega, by rw [Int.toNat_of_nonneg (by omega)]; exact atI_n (j := 0) e rfl⟩
  · exact ⟨y.toNat, by omega, by omega, by rw [Int.toNat_of_nonneg (by omega)]; exact atI_n (j := 1) (by omega) rfl⟩
/-- a written list read at a drawn place -/
theorem pick {xs : List V} {r : Int} (h0 : 0 ≤ r) (h1 : r < xs.length) : ∃ v, v ∈ xs ∧ atI xs r = some v := by
  have hj : r.toNat < xs.length := by omega
  exact ⟨xs[r.toNat], List.getElem_mem hj, atI_n (j := r.toNat) (by omega) (List.getElem?_eq_getElem hj)⟩
theorem rep_one (n : Nat) (v : V) : (List.replicate n [v]).flatten = List.replicate n v := by
  induction n with
  | zero => rfl
  | succ n ih => rw [List.replicate_succ, List.flatten_cons, ih]; rfl
theorem take_succ {xs : List V} {i : Nat} {v : V} (h : xs[i]? = some v) : xs.take (i + 1) = xs.take i ++ [v] := by
  rw [List.take_add_one, h]
  rfl
theorem log2_small {i : Int} {k : Nat} (hk : 0 < k) (h : i.natAbs < 2 ^ k) : i.natAbs.log2 < k := PySem.Flt.log2_lt_of hk h
/-! ### kinds -/
section
variable {X : Cx} {K : PySem.W.Frag} {H : Hp} {Q : VK}
theorem k_pi_zipA {e e2 : Expr} {ta : TA} {p pos tpos : Pos} {elts : List Expr} {kk : Nat} (hK : X.K = K) (hg : Gl X "zip") (hm : X.mg "zip" = none) (ha : PA X [e, e2] ta)
    (hs : starEach [e, e2] X.env = (false, eval e X.env) :: starEach [e2] X.env := by rfl) (hpl : (backTo pos (starEach [e2] X.env)).any (·.1) = false := by rfl) : PI X (.Tuple elts kk tpos) (.Call (.Name "zip" p) [e, e2] [] pos) (iZipA K ta) := by subst hK; exact pi_zipA hg hm ha hs hpl
theorem k_isiT (hK : X.K = K) : CallR X (.builtin "isinstance") (rIsiT K) := by subst hK; exact call_isiT
theorem tyx_l {a : Addr} {xs : List V} (h : SqL K H a xs) : TyX K H (.ref a) (.type "list") := by
  rcases h with (h | ⟨o, h⟩) | ⟨o, its, n, h, c, _⟩
  · exact .base (.lst h)
  · exact .base (.frz h)
  · exact .kList h c
theorem tyx_t {a : Addr} {xs : List V} (h : SqT K H a xs) : TyX K H (.ref a) (.type "tuple") := by
  rcases h with (h | ⟨o, h⟩) | ⟨o, its, n, h, c, _⟩
  · exact .base (.tup h)
  · exact .fTuple h
  · exact .kTuple h c
def tyn : PyData → String
  | .none => "NoneType"
  | .bool _ => "bool"
  | .int _ => "int"
  | .str _ => "str"
  | .list _ => "list"
  | .tuple _ => "tuple"
  | .dict _ => "dict"
theorem tyx_d {v : V} {d : PyData} (h : Dp K H v d) : TyX K H v (.type (tyn d)) := by
  cases h with
  | non => exact .base .non
  | bl b => exact .base (.bl b)
  | int i => exact .base (.int i)
  | str x => exact .base (.str x)
  | lst h _ => exact tyx_l h
  | tup h _ => exact tyx_t h
theorem isi_x {v : V} {A T : String} {b : Bool} (h : TyX K H v (.type A)) (hk : kitB A T = some b) (q : Q (.bl b) H) : rIsi K [v, .ty T] H Q :=
  ⟨v, .ty T, .type A, .type T, b, rfl, .ty T, h, kit_ty hk, q⟩
theorem kit_two {A B C : String} {b c : Bool} (h1 : kitB A B = some b) (h2 : kitB A C = some c) : PySem.W.kitAny K (.type A) [.type B, .type C] = some (b || c) := by
  refine kitAny_cons (kit_ty h1) (fun e => ?_) (fun e => by rw [e]; rfl)
  subst e
  refine kitAny_cons (kit_ty h2) (fun e => ?_) (fun e => by rw [e]; rfl)
  subst e
  exact kitAny_nil
theorem isiT2 {v : V} {p : Addr} {A B C : String} {b c : Bool} (h : TyX K H v (.type A)) (hp : H p = some (.tup [.ty B, .ty C])) (h1 : kitB A B = some b) (h2 : kitB A C = some c) (q : Q (.bl (b || c)) H) : rIsiT K [v, .ref p] H Q :=
  ⟨v, p, [.ty B, .ty C], .type A, [.type B, .type C], b || c, rfl, hp, .cons (.ty B) (.cons (.ty C) .nil), h, kit_two h1 h2, q⟩
theorem ex_d {H H' : Hp} (e : Ex H H') : ∀ (d : PyData) (v : V), Dp K H v d → Dp K H' v d
  | .none, _, h => by cases h; exact .non
  | .bool _, _, h => by cases h; exact .bl _
  | .int _, _, h => by cases h; exact .int _
  | .str _, _, h => by cases h; exact .str _
  | .dict _, _, h => by cases h
  | .list ds, _, h => by
    cases h with
    | lst h1 h2 => exact .lst (ex_l e h1) (all ds _ h2)
  | .tuple ds, _, h => by
    cases h with
    | tup h1 h2 => exact .tup (ex_t e h1) (all ds _ h2)
where
  all : ∀ (ds : List PyData) (vs : List V), DpAll K H vs ds → DpAll K H' vs ds
  | [], _, h => by cases h; exact .nil
  | d :: ds, _, h => by
    cases h with
    | cons h1 h2 => exact .cons (ex_d e d _ h1) (all ds _ h2)
theorem dp_len : ∀ {vs : List V} {ds : List PyData}, DpAll K H vs ds → vs.length = ds.length
  | _, _, .nil => rfl
  | _, _, .cons _ h => by rw [List.length_cons, List.length_cons, dp_len h]
theorem dp_at : ∀ {vs : List V} {ds : List PyData} {i : Nat} {v : V}, DpAll K H vs ds → vs[i]? = some v → ∃ d, ds[i]? = some d ∧ Dp K H v d
  | _, _, _, _, .nil, e => by simp at e
  | _, _, 0, _, .cons h _, e => by simp at e; subst e; exact ⟨_, rfl, h⟩
  | _, _, i + 1, _, .cons _ h, e => by
    obtain ⟨d, e1, e2⟩ := dp_at (i := i) h (by simpa using e)
    exact ⟨d, by simpa using e1, e2⟩
theorem dp_ints : ∀ ns : List Int, DpAll K H (ns.map V.int) (ns.map PyData.int)
  | [] => .nil
  | n :: ns => .cons (.int n) (dp_ints ns)
/-- data of so many levels, of moderate size -/
inductive Sh : Nat → PyData → Prop
  | non (n : Nat) : Sh n .none
  | bl (n : Nat) (b : Bool) : Sh n (.bool b)
  | int (n : Nat) (i : Int) : Sh n (.int i)
  | str (n : Nat) (x : Str) : Sh n (.str x)
  | lst {n : Nat} {ds : List PyData} (hl : ds.length ≤ 100000) (h : ∀ d ∈ ds, Sh n d) : Sh (n + 1) (.list ds)
  | tup {n : Nat} {ds : List PyData} (hl : ds.length ≤ 100000) (h : ∀ d ∈ ds, Sh n d) : Sh (n + 1) (.tuple ds)
theorem sh_ints (ns : List Int) (h : ns.length ≤ 100000) : Sh 1 (.list (ns.map PyData.int)) := .lst (by rw [List.length_map]; exact h) fun d hd => by
  obtain ⟨n, _, rfl⟩ := List.mem_map.mp hd
  exact .int 0 n
end
/-! ### more readings -/
section
variable {K : PySem.W.Frag} {σ : L2.St} {H H1 : Hp} {g : TG} {tt : TT} {te : TE} {vs : List Nat} {Dl : Addr} {Q : VK}
theorem x_eqB {m n : Bool} : rEq (.bl m) (.bl n) H Q ↔ Q (.bl (decide (m = n))) H := by
  unfold rEq
  rw [show scal (V.bl m) (V.bl n) = true from rfl]
  cases m <;> cases n <;> simp
theorem x_neB {m n : Bool} : rNe (.bl m) (.bl n) H Q ↔ Q (.bl (!decide (m = n))) H := by
  unfold rNe
  rw [show scal (V.bl m) (V.bl n) = true from rfl]
  cases m <;> cases n <;> simp
theorem x_eqS {m n : Str} : rEq (.str m) (.str n) H Q ↔ Q (.bl (decide (m = n))) H := by
  unfold rEq
  rw [show scal (V.str m) (V.str n) = true from rfl]
  by_cases e : m = n
  · subst e; simp
  · simp [e]
theorem x_neS {m n : Str} : rNe (.str m) (.str n) H Q ↔ Q (.bl (!decide (m = n))) H := by
  unfold rNe
  rw [show scal (V.str m) (V.str n) = true from rfl]
  by_cases e : m = n
  · subst e; simp
  · simp [e]
theorem allL {p : Addr} {bs : List Bool} (h : SqL K H p (bs.map V.bl)) (q : Q (.bl (bs.all id)) H) : rAll K [.ref p] H Q := ⟨p, bs, rfl, h, q⟩
theorem anyL {p : Addr} {bs : List Bool} (h : SqL K H p (bs.map V.bl)) (q : Q (.bl (bs.any id)) H) : rAny K [.ref p] H Q := ⟨p, bs, rfl, h, q⟩
theorem lenL {p : Addr} {xs : List V} (h : SqL K H p xs) (q : Q (.int (xs.length : Nat)) H) : rLen K [.ref p] H Q := ⟨p, xs, rfl, .inl h, q⟩
theorem lenT {p : Addr} {xs : List V} (h : SqT K H p xs) (q : Q (.int (xs.length : Nat)) H) : rLen K [.ref p] H Q := ⟨p, xs, rfl, .inr h, q⟩
theorem x_izipA {a : TA} {R : It → Hp → Prop} : iZipA K a σ H R = a σ H (fun vs H1 => ∃ a b xs ys, vs = [.ref a, .ref b] ∧ ((SqL K H1 a xs ∧ SqL K H1 b ys ∧ R (Itz K a b) H1) ∨ (SqT K H1 a xs ∧ SqT K H1 b ys ∧ R (ItzT K a b) H1))) := rfl
theorem eq_same {v : V} (h : scal v v = true) (q : Q (.bl true) H) : rEq v v H Q := ⟨h, by rw [decide_eq_true rfl]; exact q⟩
theorem g_three {i j l : Nat} {T : Addr} {x y z : V} {QG : L2.St → Hp → Prop} (h : H T = some (.tup [x, y, z])) (q : QG (((σ.set i (some x)).set j (some y)).set l (some z)) H) : gTup K 3 (gCons (gName i) (gCons (gName j) (gCons (gName l) gNil))) (.ref T) σ H QG :=
  ⟨T, [x, y, z], rfl, .inl (.inl h), rfl, x, [y, z], rfl, y, [z], rfl, z, [], rfl, rfl, q⟩
theorem lc_zip {a b : Addr} {xs ys : List V} {j k : Nat} (keep : Nat → Bool) (f : Nat → V) (hx : SqL K H1 a xs) (hy : SqL K H1 b ys) (he0 : xs.length = ys.length) (hD : H1 Dl = none) (hn : xs.length ≤ 100000)
    (hw : ∀ u v : V, wipe (((wipe σ vs).set j (some u)).set k (some v)) vs = wipe σ vs)
    (ht : ∀ i x y, xs[i]? = some x → ys[i]? = some y → Evl.EvT tt (((wipe σ vs).set j (some x)).set k (some y)) H1 (keep i))
    (he : ∀ i x y, xs[i]? = some x → ys[i]? = some y → keep i = true → Evl.Ev te (((wipe σ vs).set j (some x)).set k (some y)) H1 (f i))
    (hd : ∀ H', Evl.Ex H1 H' → H' Dl = some (.lst (kept xs.length keep f)) → Q (.ref Dl) H') : LcG (Itz K a b) (gTup K 2 (gCons (gName j) (gCons (gName k) gNil))) tt te vs σ Dl H1 Q := by
  have gx : ∀ i, i < xs.length → xs[i]? = some (xs.getD i .non) := fun i hi => by rw [List.getD_eq_getElem?_getD, List.getElem?_eq_getElem hi]; rfl
  have gy : ∀ i, i < xs.length → ys[i]? = some (ys.getD i .non) := fun i hi => by rw [List.getD_eq_getElem?_getD, List.getElem?_eq_getElem (by omega)]; rfl
  refine lc_pure xs.length (fun i => ((wipe σ vs).set j (some (xs.getD i .non))).set k (some (ys.getD i .non))) keep f hD hn (fun H' e => ⟨xs, ys, Evl.ex_l e hx, Evl.ex_l e hy, .inl (Nat.le_refl _)⟩)
    (fun i H' hi e => ⟨xs, ys, _, _, Evl.ex_l e hx, Evl.ex_l e hy, gx i hi, gy i hi⟩)
    (fun i H' x H'' QG hi e y q => ?_) (fun i hi => hw _ _) (fun i hi => ht i _ _ (gx i hi) (gy i hi)) (fun i hi => he i _ _ (gx i hi) (gy i hi)) hd
  obtain ⟨T, u, v, rfl, hT, rfl, hf, hf2⟩ := y
  have hu := hf xs (Evl.ex_l e hx)
  have hv := hf2 ys (Evl.ex_l e hy)
  have e1 : xs.getD i .non = u := by rw [List.getD_eq_getElem?_getD, hu]; rfl
  have e2 : ys.getD i .non = v := by rw [List.getD_eq_getElem?_getD, hv]; rfl
  refine g_two upd_same ?_
  have q2 := q (Evl.Ex.new hT)
  rw [e1, e2] at q2
  exact q2
theorem lc_zipT {a b : Addr} {xs ys : List V} {j k : Nat} (keep : Nat → Bool) (f : Nat → V) (hx : SqT K H1 a xs) (hy : SqT K H1 b ys) (he0 : xs.length = ys.length) (hD : H1 Dl = none) (hn : xs.length ≤ 100000)
    (hw : ∀ u v : V, wipe (((wipe σ vs).set j (some u)).set k (some v)) vs = wipe σ vs)
    (ht : ∀ i x y, xs[i]? = some x → ys[i]? = some y → Evl.EvT tt (((wipe σ vs).set j (some x)).set k (some y)) H1 (keep i))
    (he : ∀ i x y, xs[i]? = some x → ys[i]? = some y → keep i = true → Evl.Ev te (((wipe σ vs).set j (some x)).set k (some y)) H1 (f i))
    (hd : ∀ H', Evl.Ex H1 H' → H' Dl = some (.lst (kept xs.length keep f)) → Q (.ref Dl) H') : LcG (ItzT K a b) (gTup K 2 (gCons (gName j) (gCons (gName k) gNil))) tt te vs σ Dl H1 Q := by
  have gx : ∀ i, i < xs.length → xs[i]? = some (xs.getD i .non) := fun i hi => by rw [List.getD_eq_getElem?_getD, List.getElem?_eq_getElem hi]; rfl
  have gy : ∀ i, i < xs.length → ys[i]? = some (ys.getD i .non) := fun i hi => by rw [List.getD_eq_getElem?_getD, List.getElem?_eq_getElem (by omega)]; rfl
  refine lc_pure xs.length (fun i => ((wipe σ vs).set j (some (xs.getD i .non))).set k (some (ys.getD i .non))) keep f hD hn (fun H' e => ⟨xs, ys, Evl.ex_t e hx, Evl.ex_t e hy, .inl (Nat.le_refl _)⟩)
    (fun i H' hi e => ⟨xs, ys, _, _, Evl.ex_t e hx, Evl.ex_t e hy, gx i hi, gy i hi⟩)
    (fun i H' x H'' QG hi e y q => ?_) (fun i hi => hw _ _) (fun i hi => ht i _ _ (gx i hi) (gy i hi)) (fun i hi => he i _ _ (gx i hi) (gy i hi)) hd
  obtain ⟨T, u, v, rfl, hT, rfl, hf, hf2⟩ := y
  have hu := hf xs (Evl.ex_t e hx)
  have hv := hf2 ys (Evl.ex_t e hy)
  have e1 : xs.getD i .non = u := by rw [List.getD_eq_getElem?_getD, hu]; rfl
  have e2 : ys.getD i .non = v := by rw [List.getD_eq_getElem?_getD, hv]; rfl
  refine g_two upd_same ?_
  have q2 := q (Evl.Ex.new hT)
  rw [e1, e2] at q2
  exact q2
theorem all_true (n : Nat) : ((List.replicate n true).all id) = true := by
  induction n with
  | zero => rfl
  | succ n ih => rw [List.replicate_succ, List.all_cons, ih]; rfl
theorem kept_const (n : Nat) (v : V) : kept n (fun _ => true) (fun _ => v) = List.replicate n v := by
  rw [kept_all]
  apply List.ext_getElem?
  intro j
  rw [List.getElem?_map]
  by_cases h : j < n
  · rw [List.getElem?_range h, List.getElem?_replicate, if_pos h]
    rfl
  · rw [List.getElem?_eq_none (by rw [List.length_range]; omega), List.getElem?_eq_none (by rw [List.length_replicate]; omega)]
    rfl
end
end BC

set_option Elab.async false
set_option linter.all false
set_option maxRecDepth 100000
set_option maxHeartbeats 4000000
/-! repr of lists wants to know that no repr is under way around: promises that hold where nothing is guarded -/
namespace BC
open PySem PySem.Spec PyProof.Rows L2 Evl
/-- nothing is guarded around -/
def G0 (A : Around) : Prop := A.guards = some []
theorem G0.deeper {A : Around} (g : G0 A) (env : Env) : G0 (A.deeper env) := g
/-- FnOk where nothing is guarded around -/
structure FnG (P : Program) (w : World) (K : PySem.W.Frag) (mg : Str → Option Value) (base : Heap) (CX : CXT) (k : Nat) (f : Addr) (fd : FuncData) (ps : List Str) (sp : Sp) : Prop where
  size : ∀ vs H Q E, sp vs H Q E → vs.length = ps.length
  go : ∀ (A : Around) (outer : List Env) (s : Shared) (H : Hp) (args : Args) (us : List Value) (vs : List V) (Q : VK) (E : XK), G0 A → Room k A → Env0 P w K mg base A outer s H →
    BindsTo s fd args (ps.zip us) → Vals vs us → sp vs H Q E → codeAny (model P w) A (.call (.ref f) args) (CR CX outer P w H s Q E) s
section
variable {P : Program} {w : World} {K : PySem.W.Frag} {mg : Str → Option Value} {base : Heap} {CX : CXT} {k : Nat} {f : Addr} {fd : FuncData} {ps : List Str} {sp : Sp}
theorem FnG.of (F : FnOk P w K mg base CX k f fd ps sp) : FnG P w K mg base CX k f fd ps sp :=
  ⟨F.len, fun A outer s H args us vs Q E _ => F.run A outer s H args us vs Q E⟩
theorem FnG.up (F : FnG P w K mg base CX k f fd ps sp) {j : Nat} (h : k ≤ j) : FnG P w K mg base CX j f fd ps sp :=
  ⟨F.size, fun A outer s H args us vs Q E g hr => F.go A outer s H args us vs Q E g (hr.mono h)⟩
/-- the rule for a def -/
theorem fun_okG {x qual : Str} {st : Stmt} {N : List Str} (F : Fun K x qual st f fd) (S : FnScope N ps (defScope st)) (size : ∀ vs H Q E, sp vs H Q E → vs.length = ps.length)
    (body : ∀ (cdv : Value) (A : Around) (outer : List Env) (s : Shared) (H : Hp) (vs : List V) (Q : VK) (E : XK), G0 (A.deeper (envOfC qual (defScope st) s.heap.objs.size f cdv)) → Room k (A.deeper (envOfC qual (defScope st) s.heap.objs.size f cdv)) → sp vs H Q E →
      ∃ t, PSs (cxOf CX P w K mg base N qual (defScope st) f cdv A outer s H E) (defBody st) t ∧ t { nx := fun _ H' => Q .non H', rt := Q } (start N vs) H) : FnG P w K mg base CX (k + 1) f fd ps sp := by
  obtain ⟨oc, od, kV, doc, pm, an, cdv, ct, osl, rfl, lk, hcd⟩ := F.ex
  refine ⟨size, fun A outer s H args us vs Q E g room env bind vals prom => ?_⟩
  have inK : K.In s.heap := env.mod.kin.keeps fun b o q => (env.bs b o q).1
  have loose : s.heap.NoLimit := env.mod.nolimit.keeps fun b o q => (env.bs b o q).1
  have kinds : ∀ z ∈ ps.zip us, (defScope st).names.lookup z.1 = some .local ∨ ((defScope st).names.lookup z.1 = some .cell ∧ ((cellsFrom (s.heap.objs.size + 1) (defScope st).names []).lookup z.1).isSome = true) := by
    rintro ⟨n, v⟩ hz
    have hn := (List.of_mem_zip hz).1
    rcases S.par n hn with h | h
    · exact Or.inl h
    · exact Or.inr ⟨h, PySem.W.cellsFrom_some _ _ _ (Or.inl h)⟩
  refine codeAny_call_function room.depth (inK _ _ lk) rfl S.co S.gen rfl (PySem.W.codeRec_of inK hcd) (bind _ _ _ _ ?_)
  refine wpAny_newFunctionEnv_cells S.kind kinds fun env' e1 s1 into => ?_
  subst e1
  refine ⟨loose.keeps into.toInCall.keep, codeAny_func ?_⟩
  obtain ⟨t, deriv, read⟩ := body cdv A outer s H vs Q E (g.deeper _) (room.deeper _) prom
  have I := inv_start (CX := CX) (E := E) S room.hd env (size _ _ _ _ prom) vals into
  refine wpAny_mono (deriv.run [] s1 (start N vs) H _ I read) (fun flow s' ends => ?_) fun _ _ q => q
  have done : ∀ {σ2 : L2.St} {H2 : Hp} {v : V} {u : Value}, Inv (cxOf CX P w K mg base N qual (defScope st) f cdv A outer s H E) [] σ2 H2 s' → RelV v u → Q v H2 → CE outer P w H s Q u s' := by
    intro σ2 H2 v u J rel q
    exact ⟨v, H2, J.os, J.bare, J.base, J.hok, rel, q⟩
  match flow, ends with
  | .ret u, ends =>
    obtain ⟨v, σ2, H2, J, rel, q⟩ := ends
    exact done J rel q
  | .next, ends =>
    obtain ⟨σ2, H2, J, q⟩ := ends
    exact done (v := V.non) (u := Value.none) J rfl q
  | .brk, ends =>
    obtain ⟨_, _, _, q⟩ := ends
    exact q.elim
  | .cont, ends =>
    obtain ⟨_, _, _, q⟩ := ends
    exact q.elim
end
section
variable {X : Cx} {CX : CXT} {k : Nat} {f : Addr} {fd : FuncData} {ps : List Str} {sp : Sp} {dvs : List V} {ds : List Value} {E : XK} {x : Str} {p pos : Pos} {e : Expr} {es : List Expr} {t : TA}
theorem call_G {pins : List (Addr × Obj)} {σ : L2.St} {H : Hp} {s : Shared} {Q : VK} {us : List Value} {vs : List V} (F : FnG X.prog X.w X.K X.mg X.base CX k f fd ps sp) (g : G0 X.A) (hr : Room k X.A) (hb : Binds X.K fd ps ds) (hd : Vals dvs ds)
    (hx : Passes CX X E) (I : Inv X pins σ H s) (r : Vals vs us) (h : sp (vs ++ dvs) H Q E) : wpAny (model X.prog X.w) X.A (call (.ref f) us) (EP X pins σ Q) X.xe s := by
  have both : Vals (vs ++ dvs) (us ++ ds) := r.append hd
  have many : (us ++ ds).length = ps.length := both.length.symm.trans (F.size _ _ _ _ h)
  have run := F.go X.A X.stack s H ⟨us, []⟩ (us ++ ds) (vs ++ dvs) Q E g hr I.env0 (hb s us I.kIn many) both h
  refine wpAny_call (codeAny_mono run fun res s' q => ?_)
  match res, q with
  | .error err, q => exact hx pins σ H s err s' I q
  | .ok (.ret u), q => exact I.after q
theorem pe_callG (F : FnG X.prog X.w X.K X.mg X.base CX k f fd ps sp) (g : G0 X.A) (hr : Room k X.A) (hg : Gl X x) (hm : X.mg x = some (.ref f)) (hk : PySem.W.keepIn X.K (.ref f) = true) (hb : Binds X.K fd ps ds) (hd : Vals dvs ds) (hx : Passes CX X E)
    (ha : PA X (e :: es) t) (hdb : (x == ("__debug__" : Str)) = false := by decide) (he : starEach (e :: es) X.env = (false, eval e X.env) :: starEach es X.env := by rfl) (hpl : (backTo pos (starEach es X.env)).any (·.1) = false := by rfl) :
    PE X (.Call (.Name x p) (e :: es) [] pos) (tCall sp dvs E t) := by
  constructor
  intro pins s σ H Q I h
  have args := ha.run pos pins s σ H _ I h
  refine wpAny_Call_Name_kw (ld_glob I hg hm (PySem.W.callWith_K (h₀ := X.base) I.ok.mod.kin hk (thn args ?_) he hpl) hdb)
  rintro us s1 ⟨vs, H1, I1, r, q⟩
  exact ⟨I1.kIn, call_G F g hr hb hd hx I1 r q⟩
end

/-! ### the law's own call, for a promise of this kind -/
section
variable {P : Program} {w : World} {K : PySem.W.Frag} {mg mb : Str → Option Value} {k : Nat} {fa a : Addr} {fd : FuncData} {x : Str} {sp : Sp} {s : Shared} {vs : List Value} {ns : List Int}
/-- the abstract heap at the entry: the script alone, locked; or nothing, where the script is the module's own -/
def entryH (a : Addr) (vs : List Value) (ns : List Int) (own : Bool) : Hp := fun b => if own = false ∧ b = a then some (.frz { cls := .type "list", data := .seq vs.toArray } (.lst (ns.map V.int))) else none
theorem entry_other {own : Bool} {b : Addr} (h : b ≠ a) : entryH a vs ns own b = none := if_neg fun z => h z.2
theorem entry_own {b : Addr} : entryH a vs ns true b = none := if_neg fun z => nomatch z.1
theorem entry_at : entryH a vs ns false a = some (.frz { cls := .type "list", data := .seq vs.toArray } (.lst (ns.map V.int))) := if_pos ⟨rfl, rfl⟩
theorem entry_case {own : Bool} {b : Addr} {o : HO} (h : entryH a vs ns own b = some o) : own = false ∧ b = a ∧ o = .frz { cls := .type "list", data := .seq vs.toArray } (.lst (ns.map V.int)) := by
  unfold entryH at h
  by_cases q : own = false ∧ b = a
  · rw [if_pos q] at h
    exact ⟨q.1, q.2, (Option.some.inj h).symm⟩
  · rw [if_neg q] at h
    cases h
theorem law_goG (hK : K.In s.heap) (hns : s.heap.Ns mainGlobals mg) (hb : s.heap.Ns builtinsNs mb) (hbb : ∀ x : Str, x ≠ "__name__" → mb x = bootBuiltins x) (hlim : s.heap.NoLimit) (hg : s.gens = #[])
    (ha : s.heap.get? a = some { cls := .type "list", data := .seq vs.toArray }) (hi : IntsAre vs ns) (hl : ns.length ≤ sizeLine) (hr : Room k callerA)
    (F : ∀ base : Heap, K.In base → base.Ns mainGlobals mg → FnG P w K mg base CX0 k fa fd [x] sp) (bind : ∀ (s : Shared) (u : Value), BindsTo s fd ⟨[u], []⟩ [(x, u)])
    (prom : ∀ H : Hp, SqL K H a (ns.map V.int) → sp [.ref a] H (fun v _ => v = .bl true) fun _ _ _ => False) :
    codeAny (model P w) callerA (.call (.ref fa) ⟨[.ref a], []⟩) (fun r s' => r = .ok (.ret (.bool true)) ∧ OldK s.heap s'.heap ∧ s'.os = s.os ∧ AllBare s'.gens) s := by
  have rv := vals_ints hi
  have many := hi.length
  obtain ⟨own, hown⟩ : ∃ own : Bool, own = (K.lookup a).isSome := ⟨_, rfl⟩
  let H : Hp := entryH a vs ns own
  have reads : SqL K H a (ns.map V.int) := by
    cases q : K.lookup a with
    | none =>
      have e : own = false := by rw [hown, q]; rfl
      exact Or.inl (Or.inr ⟨_, by show entryH a vs ns own a = _; rw [e]; exact entry_at⟩)
    | some o =>
      have z := hK a o q
      rw [ha] at z
      cases z
      refine Or.inr ⟨_, vs.toArray, _, q, rfl, rfl, rfl, ?_, ?_⟩
      · rw [List.size_toArray, many]
        exact hl
      · exact rv
  have held : HOk P w H s.heap := fun b o q => by
    obtain ⟨_, rfl, rfl⟩ := entry_case q
    exact ⟨ha, by rw [List.length_map]; exact hl, vs, _, rv, ha⟩
  have spare : ∀ {b : Addr} {o : Obj}, s.heap.get? b = some o → (∀ u n, o.data ≠ .seq u n) → H b = none := fun {b o} e d => by
    cases q : H b with
    | none => rfl
    | some u =>
      obtain ⟨_, rfl, _⟩ := entry_case q
      rw [ha] at e
      cases e
      exact absurd rfl (d _ _)
  have nsT : ∀ {b : Addr} {m : Str → Option Value}, s.heap.Ns b m → (hidT s.heap H).Ns b m := by
    rintro b m ⟨o, es, ep, e, d, r⟩
    exact ⟨o, es, ep, hidT_get e (spare e fun u n z => by rw [d] at z; cases z), d, r⟩
  have kT : K.In (hidT s.heap H) := fun b o e => hidT_get (hK b o e) (by
    cases q : H b with
    | none => rfl
    | some u =>
      obtain ⟨z, rfl, _⟩ := entry_case q
      rw [hown, e] at z
      cases z)
  have module : Mod K mg (hidT s.heap H) := ⟨kT, nsT hns, ⟨mb, nsT hb, hbb⟩, by obtain ⟨mc, h1, h2⟩ := hlim; exact ⟨mc, nsT h1, h2⟩⟩
  have entry : Env0 P w K mg (hidT s.heap H) callerA [] s H :=
    ⟨rfl, module, fun b o e => of_hidT e, Nat.le_of_eq (hidT_size _ _), trivial, fun b z => (List.not_mem_nil z).elim, held, .of_eq hg⟩
  have ran := (F _ kT (nsT hns)).go callerA [] s H ⟨[.ref a], []⟩ [.ref a] [.ref a] _ _ rfl hr entry (bind s (.ref a)) (.cons rfl .nil) (prom H reads)
  refine codeAny_mono ran fun r s' q => ?_
  match r, q with
  | .ok (.ret u), q =>
    obtain ⟨v, H', os, bare, un, held', rel, fin⟩ := q
    obtain rfl : v = .bl true := fin
    obtain rfl : u = Value.bool true := rel
    refine ⟨rfl, OldK.of_keep fun b o e => ?_, os, bare⟩
    cases q : H b with
    | none => exact un.keep b o e q (fun z => (List.not_mem_nil z).elim) List.not_mem_nil
    | some u =>
      obtain ⟨_, rfl, rfl⟩ := entry_case q
      have z := (held' _ _ (un.frzs _ _ _ q)).1
      rw [ha] at e
      cases e
      exact z
theorem walk_G {l : PySem.W.OpenLaw} {n k : Nat} {q : Program} {loose : List Str} {XP : (Str → Option Value) → Heap → Prop} {YP : World → Heap → Prop} {d : DefRec} {K : Params → PySem.W.Frag} {sp : World → Sp} {x : Str}
    (hn : l.most = some n) (hn2 : n ≤ sizeLine) (hdf : d.params.defaults = []) (hr : Room k callerA) (hY : ∀ (w : World) (h : Heap), YP w h → (K w.params).In h)
    (F : ∀ (w : World) (mg : Str → Option Value) (fa : Addr) (h : Heap), (K w.params).In h → h.Ns mainGlobals mg → mg d.name = some (.ref fa) →
      ∃ fd : FuncData, (∀ (s : Shared) (u : Value), BindsTo s fd ⟨[u], []⟩ [(x, u)]) ∧ ∀ base : Heap, (K w.params).In base → base.Ns mainGlobals mg → FnG l.prog w (K w.params) mg base CX0 k fa fd [x] (sp w))
    (prom : ∀ (w : World) (H : Hp) (a : Addr) (ns : List Int), ns.length ≤ n → SqL (K w.params) H a (ns.map V.int) → sp w [.ref a] H (fun v _ => v = .bl true) fun _ _ _ => False) :
    PySem.W.WalkO q loose XP YP l.row.toRowW d [] (fun f vs => PySem.call f vs) := by
  refine Att.attach_call hn hdf ?_
  intro w s0 s1 mg mb fa o pm cd doc a vs ns G Y _ hd hcd hmg hobj hints hlen hg
  have inK := hY w _ Y
  obtain ⟨fd, bind, keep⟩ := F w mg fa _ inK G.T.g hmg
  exact law_goG inK G.T.g G.T.b G.T.builtins G.T.nolimit hg hobj hints (Nat.le_trans hlen hn2) hr keep bind fun H hS => prom w H a ns hlen hS
end
end BC

set_option Elab.async false
set_option linter.all false
set_option maxRecDepth 100000
set_option maxHeartbeats 4000000
/-! repr, keywords, more readings -/
namespace BC
open PySem PySem.Spec PyProof.Rows L2 Evl
section
variable {X : Cx} {K : PySem.W.Frag} {σ : L2.St} {H : Hp} {Q : VK}
/-- repr of lists, tuples and what lies in them -/
def rRepr (K : PySem.W.Frag) : List V → Hp → VK → Prop := fun xs H Q => ∃ a d, xs = [.ref a] ∧ Dp K H (.ref a) d ∧ d.showable = true ∧ d.depth ≤ 60 ∧ d.hasDict = false ∧ d.shown.length ≤ sizeLine ∧ Q (.str d.shown) H
theorem k_repr (hK : X.K = K) (g : G0 X.A) (hu : X.A.units + 64 < cLine) : CallR X (.builtin "repr") (rRepr K) := by
  subst hK
  intro pins s σ H xs us Q I r h
  obtain ⟨a, d, rfl, hd, h1, h2, h3, h4, q⟩ := h
  obtain ⟨u, rfl, rfl⟩ := vals1 r
  obtain ⟨as, rd⟩ := Dp.reads I d (.ref a) (.ref a) hd rfl
  exact repr_of_reads' rd h1 (PyData.noDict_hsm h3) g (by omega) (fun _ _ e => e) (fun h' u tk hk => ⟨.str _, H, I.kept hk, ⟨_, rfl⟩, q⟩) h4
def rIsB : R2 := fun x y H Q => ∃ a b, x = .bl a ∧ y = .bl b ∧ Q (.bl (decide (a = b))) H
def rIsNB : R2 := fun x y H Q => ∃ a b, x = .bl a ∧ y = .bl b ∧ Q (.bl (!decide (a = b))) H
theorem op_isB : OpR X (compareOp .Is) rIsB := op_is_bl
theorem op_isNB : OpR X (compareOp .IsNot) rIsNB := op_isnot_bl
theorem x_isB {a b : Bool} : rIsB (.bl a) (.bl b) H Q ↔ Q (.bl (decide (a = b))) H := ⟨fun ⟨i, j, e1, e2, q⟩ => by cases e1; cases e2; exact q, fun q => ⟨a, b, rfl, rfl, q⟩⟩
theorem x_isNB {a b : Bool} : rIsNB (.bl a) (.bl b) H Q ↔ Q (.bl (!decide (a = b))) H := ⟨fun ⟨i, j, e1, e2, q⟩ => by cases e1; cases e2; exact q, fun q => ⟨a, b, rfl, rfl, q⟩⟩
theorem x_lrg {te : L2.St → Hp → (Int → Int → Hp → Prop) → Prop} : tLstRg te σ H Q = te σ H fun a b H1 => RgOk a b ∧ ∀ q, H1 q = none → Q (.ref q) (upd H1 q (.lst (rgV a b))) := rfl
theorem x_rg1 {ta : TE} {R : Int → Int → Hp → Prop} : tRg1 ta σ H R = ta σ H fun x H1 => ∃ n, x = .int n ∧ R 0 n H1 := rfl
theorem x_rg2 {ta tb : TE} {R : Int → Int → Hp → Prop} : tRg2 ta tb σ H R = ta σ H fun x H1 => tb σ H1 fun y H2 => ∃ i j, x = .int i ∧ y = .int j ∧ R i j H2 := rfl
end
theorem Fx.mut {b r : Addr} {H H' : Hp} {o : HO} (f : Fx b H H') (n : H r = none) : Fx b H (upd H' r o) := fun a u na h => by rw [upd_ne (ne_of_none h n)]; exact f a u na h
/-! ### a cut: what stands after one statement -/
section
variable {σ : L2.St} {H : Hp} {D : Ends} {ta : TE} {s1 s2 : TS} {i : Nat}
theorem seq_asg (C : V → Hp → Prop) (h1 : ∀ R : VK, (∀ v H', C v H' → R v H') → ta σ H R) (h2 : ∀ v H', C v H' → s2 D (σ.set i (some v)) H') : tSeq (tAsg ta (gName i)) s2 D σ H := h1 _ h2
theorem seq_cut (C : L2.St → Hp → Prop) (h1 : ∀ N : L2.St → Hp → Prop, (∀ σ' H', C σ' H' → N σ' H') → s1 { D with nx := N } σ H) (h2 : ∀ σ' H', C σ' H' → s2 D σ' H') : tSeq s1 s2 D σ H := h1 _ h2
end
/-! ### keywords -/
def kg {α : Type} (d : α) (a b : Nat) (perm : List Nat) (us ws : List α) : List α := if us.length = a ∧ ws.length = b then perm.map fun i => (us ++ ws).getD i d else []
theorem vals_getD : ∀ {vs : List V} {us : List Value}, Vals vs us → ∀ i, RelV (vs.getD i .non) (us.getD i .none)
  | [], [], .nil, _ => rfl
  | _ :: _, _ :: _, .cons h _, 0 => h
  | _ :: _, _ :: _, .cons _ r, i + 1 => vals_getD r i
theorem vals_perm {vs : List V} {us : List Value} (r : Vals vs us) : ∀ p : List Nat, Vals (p.map fun i => vs.getD i .non) (p.map fun i => us.getD i .none)
  | [] => .nil
  | i :: p => .cons (vals_getD r i) (vals_perm r p)
theorem kg_rel {a b : Nat} {p : List Nat} {vs : List V} {us : List Value} {zs : List V} {ws : List Value} (r : Vals vs us) (z : Vals zs ws) : Vals (kg .non a b p vs zs) (kg .none a b p us ws) := by
  unfold kg
  rw [r.length, z.length]
  split
  · exact vals_perm (r.append z) p
  · exact .nil
theorem kg_mk {K : PySem.W.Frag} {fd : FuncData} {q : Str} {ps ks : List Str} {a b : Nat} {p : List Nat} (h : ∀ us ws : List Value, us.length = a → ws.length = b → bindArgs fd ⟨us, ks.zip ws⟩ = pure ((q :: ps).zip (p.map fun i => (us ++ ws).getD i .none))) :
    KBinds K fd (q :: ps) ks (kg .none a b p) (kg .non a b p) := by
  refine ⟨fun s us ws _ hl => ?_, kg_rel⟩
  unfold kg at hl ⊢
  split at hl
  · next c =>
    rw [if_pos c]
    exact .of_eq (h us ws c.1 c.2)
  · cases hl
theorem fun_okN {P : Program} {w : World} {K : PySem.W.Frag} {mg : Str → Option Value} {base : Heap} {CX : CXT} {k : Nat} {f : Addr} {fd : FuncData} {ps : List Str} {sp : Sp} {x qual : Str} {st : Stmt} {N : List Str} (F : Fun K x qual st f fd) (S : FnScope N ps (defScope st)) (size : ∀ vs H Q E, sp vs H Q E → vs.length = ps.length)
    (body : ∀ (cdv : Value) (A : Around) (outer : List Env) (s : Shared) (H : Hp) (vs : List V) (Q : VK) (E : XK), G0 (A.deeper (envOfC qual (defScope st) s.heap.objs.size f cdv)) → Room k (A.deeper (envOfC qual (defScope st) s.heap.objs.size f cdv)) → sp vs H Q E →
      ∃ t, PSs (cxOf CX P w K mg base N qual (defScope st) f cdv A outer s H E).nox (defBody st) t ∧ t { nx := fun _ H' => Q .non H', rt := Q } (start N vs) H) : FnG P w K mg base CX (k + 1) f fd ps sp :=
  fun_okG F S size fun cdv A outer s H vs Q E hG hr h => let ⟨t, d, q⟩ := body cdv A outer s H vs Q E hG hr h; ⟨t, d.nox, q⟩
theorem Fun.kb {K : PySem.W.Frag} {x qual q : Str} {st : Stmt} {f : Addr} {fd : FuncData} {ps ks : List Str} {a b : Nat} {p : List Nat} (F : Fun K x qual st f fd)
    (h : ∀ (kV doc pm : Value) (an : Option Addr) (cdv ct : Value) (us ws : List Value), us.length = a → ws.length = b → bindArgs (PySem.W.fnOf x qual (defArgs st) (defBody st) (defScope st) .none kV doc pm an cdv ct) ⟨us, ks.zip ws⟩ = pure ((q :: ps).zip (p.map fun i => (us ++ ws).getD i .none))) :
    KBinds K fd (q :: ps) ks (kg .none a b p) (kg .non a b p) := by
  obtain ⟨oc, od, kV, doc, pm, an, cdv, ct, osl, rfl, lk, hcd⟩ := F.ex
  exact kg_mk (h kV doc pm an cdv ct)
section
variable {X : Cx} {CX : CXT} {k : Nat} {f : Addr} {fd : FuncData} {ps ks : List Str} {sp : Sp} {E : XK} {x : Str} {p pos : Pos} {e : Expr} {es : List Expr} {kws : List Keyword} {t tk : TA} {g : List Value → List Value → List Value} {gV : List V → List V → List V}
theorem pe_callK0 (F : FnOk X.prog X.w X.K X.mg X.base CX k f fd ps sp) (hr : Room k X.A) (hg : Gl X x) (hm : X.mg x = some (.ref f)) (hk : PySem.W.keepIn X.K (.ref f) = true) (hb : KBinds X.K fd ps ks g gV) (hx : Passes CX X E)
    (hkw : PK X kws tk) (hall : (backToKw pos (keywordEach kws X.env)).all (·.1.isSome) = true := by rfl) (hks : (backToKw pos (keywordEach kws X.env)).filterMap (·.1) = ks := by rfl)
    (hdb : (x == ("__debug__" : Str)) = false := by decide)
    (hpl : ((backTo pos (starEach [] X.env)).any (·.1) || (backToKw pos (keywordEach kws X.env)).any (·.1.isNone)) = false := by rfl) :
    PE X (.Call (.Name x p) [] kws pos) (tCallK sp gV E tNil tk) := by
  refine ⟨fun pins s σ H Q I h => ?_⟩
  refine wpAny_Call_Name_kw (ld_glob I hg hm ?_ hdb)
  refine PySem.W.callWith_KW0 (h₀ := X.base) I.ok.mod.kin hk hall (thn (hkw.run pos pins s σ H _ I h) fun ws s2 ⟨zs, H2, I2, rz, q2⟩ => ⟨I2.kIn, ?_⟩) hpl
  rw [hks]
  exact run_fnk F hr hb hx I2 .nil rz q2
theorem run_fnkG {pins : List (Addr × Obj)} {σ : L2.St} {H : Hp} {s : Shared} {Q : VK} {us ws : List Value} {vs zs : List V} (F : FnG X.prog X.w X.K X.mg X.base CX k f fd ps sp) (g0 : G0 X.A) (hr : Room k X.A) (hb : KBinds X.K fd ps ks g gV) (hx : Passes CX X E)
    (I : Inv X pins σ H s) (r : Vals vs us) (rz : Vals zs ws) (h : sp (gV vs zs) H Q E) : wpAny (model X.prog X.w) X.A (call (.ref f) us (ks.zip ws)) (EP X pins σ Q) X.xe s := by
  have r2 := hb.rel r rz
  have hl : (g us ws).length = ps.length := by rw [← r2.length]; exact F.size _ _ _ _ h
  refine wpAny_call (codeAny_mono (F.go X.A X.stack s H ⟨us, ks.zip ws⟩ (g us ws) (gV vs zs) Q E g0 hr I.env0 (hb.to s us ws I.kIn hl) r2 h) fun r s' hq => ?_)
  cases r with
  | error e => exact hx pins σ H s e s' I hq
  | ok fl =>
    cases fl with
    | ret u => exact I.after hq
    | next => exact False.elim hq
    | brk => exact False.elim hq
    | cont => exact False.elim hq
theorem pe_callKG (F : FnG X.prog X.w X.K X.mg X.base CX k f fd ps sp) (g0 : G0 X.A) (hr : Room k X.A) (hg : Gl X x) (hm : X.mg x = some (.ref f)) (hk : PySem.W.keepIn X.K (.ref f) = true) (hb : KBinds X.K fd ps ks g gV) (hx : Passes CX X E)
    (ha : PA X (e :: es) t) (hkw : PK X kws tk) (hall : (backToKw pos (keywordEach kws X.env)).all (·.1.isSome) = true := by rfl) (hks : (backToKw pos (keywordEach kws X.env)).filterMap (·.1) = ks := by rfl)
    (hdb : (x == ("__debug__" : Str)) = false := by decide) (he : starEach (e :: es) X.env = (false, eval e X.env) :: starEach es X.env := by rfl)
    (hpl : ((backTo pos (starEach (e :: es) X.env)).any (·.1) || (backToKw pos (keywordEach kws X.env)).any (·.1.isNone)) = false := by rfl) :
    PE X (.Call (.Name x p) (e :: es) kws pos) (tCallK sp gV E t tk) := by
  refine ⟨fun pins s σ H Q I h => ?_⟩
  refine wpAny_Call_Name_kw (ld_glob I hg hm ?_ hdb)
  refine PySem.W.callWith_KW (h₀ := X.base) I.ok.mod.kin hk hall (thn (ha.run pos pins s σ H _ I h) fun us s1 ⟨vs, H1, I1, r, q⟩ => ?_) hpl he
  refine thn (hkw.run pos pins s1 σ H1 _ I1 q) fun ws s2 ⟨zs, H2, I2, rz, q2⟩ => ⟨I2.kIn, ?_⟩
  rw [hks]
  exact run_fnkG F g0 hr hb hx I2 r rz q2
end
end BC

set_option Elab.async false
set_option linter.all false
set_option maxRecDepth 100000
set_option maxHeartbeats 4000000
/-! visits and their trails, lists of numbers, their repr -/
namespace BC
open PySem PySem.Spec PyProof.Rows L2 Evl
/-! ### data whose repr is short -/
structure Tm (d : PyData) : Prop where
  s : d.showable = true
  n : d.hasDict = false
  l : d.leavesShort 13 = true
theorem Tm.int {i : Int} (h : i.natAbs < 10 ^ 12) : Tm (.int i) := ⟨by
  show decide (i.natAbs.log2 < 1920) = true
  refine decide_eq_true ?_
  by_cases z : i.natAbs = 0
  · rw [z]; decide
  · exact (Nat.log2_lt z).mpr (Nat.lt_of_lt_of_le h (by decide +kernel)), rfl, by
  show decide (_ ≤ 13) = true
  exact decide_eq_true (PyData.shown_int_le h)⟩
theorem Tm.all {ds : List PyData} (h : ∀ d ∈ ds, Tm d) : PyData.showableAll ds = true ∧ PyData.hasDictAll ds = false ∧ PyData.leavesShortAll 13 ds = true := by
  induction ds with
  | nil => exact ⟨rfl, rfl, rfl⟩
  | cons d ds ih =>
    have a := h d List.mem_cons_self
    obtain ⟨b1, b2, b3⟩ := ih fun e m => h e (List.mem_cons_of_mem _ m)
    refine ⟨?_, ?_, ?_⟩
    · show (d.showable && _) = true
      rw [a.s, b1]; rfl
    · show (d.hasDict || _) = false
      rw [a.n, b2]; rfl
    · show (d.leavesShort 13 && _) = true
      rw [a.l, b3]; rfl
theorem Tm.list {ds : List PyData} (h : ∀ d ∈ ds, Tm d) : Tm (.list ds) := ⟨by simp only [PyData.showable]; exact (Tm.all h).1, by simp only [PyData.hasDict]; exact (Tm.all h).2.1, by simp only [PyData.leavesShort]; exact (Tm.all h).2.2⟩
theorem Tm.tuple {ds : List PyData} (h : ∀ d ∈ ds, Tm d) : Tm (.tuple ds) := ⟨by simp only [PyData.showable]; exact (Tm.all h).1, by simp only [PyData.hasDict]; exact (Tm.all h).2.1, by simp only [PyData.leavesShort]; exact (Tm.all h).2.2⟩
theorem wt_int {i : Int} (h : i.natAbs < 2 ^ 40) : (PyData.int i).weight ≤ 40 := by
  simp only [PyData.weight]
  split
  · omega
  · next z =>
    have z0 : i.natAbs ≠ 0 := fun e => z (by rw [Int.natAbs_eq_zero.mp e]; rfl)
    have := (Nat.log2_lt z0).mpr h
    omega
theorem wt_all {ds : List PyData} {n : Nat} (h : ∀ d ∈ ds, d.weight ≤ n) : PyData.weightAll ds ≤ (n + 1) * ds.length := by
  induction ds with
  | nil => simp [PyData.weightAll]
  | cons d ds ih =>
    have a := h d List.mem_cons_self
    have b := ih fun e m => h e (List.mem_cons_of_mem _ m)
    simp only [PyData.weightAll, List.length_cons, Nat.mul_add]
    omega
theorem dep_all {ds : List PyData} {n : Nat} (h : ∀ d ∈ ds, d.depth ≤ n) : PyData.depthAll ds ≤ n := by
  induction ds with
  | nil => simp [PyData.depthAll]
  | cons d ds ih =>
    have a := h d List.mem_cons_self
    have b := ih fun e m => h e (List.mem_cons_of_mem _ m)
    simp only [PyData.depthAll]
    omega
section
variable {K : PySem.W.Frag} {H : Hp} {Q : VK} {a : Addr}
theorem reprX {d : PyData} (h : Dp K H (.ref a) d) (t : Tm d) (dp : d.depth ≤ 60) (wt : d.weight ≤ 2 ^ 20) (q : Q (.str d.shown) H) : rRepr K [.ref a] H Q :=
  ⟨a, d, rfl, h, t.s, dp, t.n, PyData.shown_fits (B := 13) (by decide) (by decide) t.l wt, q⟩
/-- what repr of a list of numbers says -/
def shInts (ns : List Int) : Str := (PyData.list (ns.map PyData.int)).shown
theorem reprInts {ns : List Int} (h : SqL K H a (ns.map V.int)) (hs : ∀ n ∈ ns, n.natAbs < 10 ^ 12) (hl : ns.length ≤ 20000) (q : Q (.str (shInts ns)) H) : rRepr K [.ref a] H Q := by
  refine reprX (.lst h (dp_ints ns)) (.list fun d m => ?_) ?_ ?_ q
  · obtain ⟨n, hn, rfl⟩ := List.mem_map.mp m
    exact .int (hs n hn)
  · simp only [PyData.depth]
    have := dep_all (ds := ns.map PyData.int) (n := 0) fun d m => by
      obtain ⟨n, hn, rfl⟩ := List.mem_map.mp m
      simp [PyData.depth]
    omega
  · simp only [PyData.weight]
    have := wt_all (ds := ns.map PyData.int) (n := 40) fun d m => by
      obtain ⟨n, hn, rfl⟩ := List.mem_map.mp m
      exact wt_int (Nat.lt_of_lt_of_le (hs n hn) (by decide +kernel))
    rw [List.length_map] at this
    omega
/-! ### in, index, a part of a list of numbers -/
theorem flat_ints (ns : List Int) : (ns.map V.int).all flatV = true := by
  rw [List.all_eq_true]
  intro x hx
  obtain ⟨n, _, rfl⟩ := List.mem_map.mp hx
  rfl
theorem inV_ints (p : Int) (ns : List Int) : inV (.int p) (ns.map V.int) = decide (p ∈ ns) := by
  unfold inV
  rw [List.any_map]
  by_cases h : p ∈ ns
  · rw [decide_eq_true h, List.any_eq_true]
    exact ⟨p, h, by simp [eqV]⟩
  · rw [decide_eq_false h, List.any_eq_false]
    intro x hx
    have : x ≠ p := fun e => h (e ▸ hx)
    simp [eqV, this]
theorem inL {p : Int} {ns : List Int} (h : SqL K H a (ns.map V.int)) (q : Q (.bl (decide (p ∈ ns))) H) : rIn K false (.int p) (.ref a) H Q :=
  ⟨a, _, rfl, .inl h, rfl, flat_ints ns, by rw [inV_ints]; exact q⟩
theorem ninL {p : Int} {ns : List Int} (h : SqL K H a (ns.map V.int)) (q : Q (.bl (!decide (p ∈ ns))) H) : rIn K true (.int p) (.ref a) H Q :=
  ⟨a, _, rfl, .inl h, rfl, flat_ints ns, by rw [inV_ints]; exact q⟩
theorem idxL {p : Int} {ns : List Int} (h : SqL K H a (ns.map V.int)) (hp : p ∈ ns) (q : Q (.int (ns.idxOf p : Nat)) H) : rIndex K (.ref a) [.int p] H Q := by
  have hl := List.idxOf_lt_length_of_mem hp
  refine ⟨a, _, _, ns.idxOf p, .int p, rfl, rfl, h, rfl, flat_ints ns, ?_, by simp [eqV], fun m z hm hz => ?_, q⟩
  · rw [List.getElem?_map, List.getElem?_eq_getElem hl, List.getElem_idxOf hl]
    rfl
  · rw [List.getElem?_map] at hz
    have hml : m < ns.length := by omega
    rw [List.getElem?_eq_getElem hml] at hz
    cases hz
    have ne : ns[m] ≠ p := fun e => by
      have := List.not_of_lt_findIdx (p := fun x => x == p) (xs := ns) hm
      simp [e] at this
    simp [eqV, ne]
/-- numbers that are kept -/
theorem kept_ints (n : Nat) (k : Nat → Bool) (f : Nat → Int) : ∃ fr : List Int, kept n k (fun i => V.int (f i)) = fr.map V.int ∧ (∀ x ∈ fr, ∃ i, i < n ∧ k i = true ∧ x = f i) ∧ (fr = [] → ∀ i, i < n → k i = false) := by
  induction n with
  | zero => exact ⟨[], rfl, fun x h => (List.not_mem_nil h).elim, fun _ i h => by omega⟩
  | succ n ih =>
    obtain ⟨fr, h1, h2, h3⟩ := ih
    cases c : k n with
    | true =>
      refine ⟨fr ++ [f n], by rw [kept_yes c, h1, List.map_append]; rfl, fun x h => ?_, fun e => by simp at e⟩
      rcases List.mem_append.mp h with h | h
      · obtain ⟨i, a, b⟩ := h2 x h
        exact ⟨i, by omega, b⟩
      · exact ⟨n, by omega, c, List.mem_singleton.mp h⟩
    | false =>
      refine ⟨fr, by rw [kept_no c, h1], fun x h => ?_, fun e i hi => ?_⟩
      · obtain ⟨i, a, b⟩ := h2 x h
        exact ⟨i, by omega, b⟩
      · by_cases q : i = n
        · rw [q]; exact c
        · exact h3 e i (by omega)
theorem rgV_ints (a b : Int) : rgV a b = ((List.range (b - a).toNat).map fun i => a + ((i : Nat) : Int)).map V.int := by
  unfold rgV
  rw [List.map_map]
  rfl
theorem shp_ints (ns : List Int) : SeqAt.shaped (.list (ns.map PyData.int)) = true := by
  have h1 : ∀ ns : List Int, PyData.canLayAll0 (ns.map PyData.int) = true := fun ns => by
    induction ns with
    | nil => simp [PyData.canLayAll0]
    | cons n ns ih => simp [PyData.canLayAll0, PyData.canLay0, ih]
  have h2 := dep_all (ds := ns.map PyData.int) (n := 0) fun d m => by
      obtain ⟨n, hn, rfl⟩ := List.mem_map.mp m
      simp [PyData.depth]
  show (PyData.canLay0 _ && decide (PyData.depth _ ≤ 64)) = true
  rw [Bool.and_eq_true]
  refine ⟨?_, decide_eq_true ?_⟩
  · simp only [PyData.canLay0]; exact h1 ns
  · simp only [PyData.depth]; omega
theorem eqv_ints : ∀ ns ms : List Int, PyData.eqv (.list (ns.map PyData.int)) (.list (ms.map PyData.int)) = decide (ns = ms) := fun ns ms => by
  simp only [PyData.eqv]
  induction ns generalizing ms with
  | nil => cases ms <;> simp [PyData.eqvAll]
  | cons n ns ih =>
    cases ms with
    | nil => simp [PyData.eqvAll]
    | cons m ms =>
      simp only [List.map_cons, PyData.eqvAll, PyData.eqv, ih]
      by_cases h : n = m
      · subst h; simp
      · simp [h]
theorem eqInts {b : Addr} {ns ms : List Int} (h : SqL K H a (ns.map V.int)) (g : SqL K H b (ms.map V.int)) (q : Q (.bl (decide (ns = ms))) H) : rEqD K (.ref a) (.ref b) H Q :=
  ⟨_, _, .lst h (dp_ints ns), .lst g (dp_ints ms), shp_ints ns, shp_ints ms, by rw [eqv_ints]; exact q⟩
theorem neInts {b : Addr} {ns ms : List Int} (h : SqL K H a (ns.map V.int)) (g : SqL K H b (ms.map V.int)) (q : Q (.bl (!decide (ns = ms))) H) : rNeD K (.ref a) (.ref b) H Q :=
  ⟨_, _, .lst h (dp_ints ns), .lst g (dp_ints ms), shp_ints ns, shp_ints ms, by rw [eqv_ints]; exact q⟩
theorem pickI {ns : List Int} {r : Int} (h0 : 0 ≤ r) (h1 : r < ns.length) : ∃ n, n ∈ ns ∧ atI (ns.map V.int) r = some (.int n) := by
  obtain ⟨v, hv, e⟩ := pick (xs := ns.map V.int) h0 (by rw [List.length_map]; exact h1)
  obtain ⟨n, hn, rfl⟩ := List.mem_map.mp hv
  exact ⟨n, hn, e⟩
theorem cut_to (xs : List V) {i : Int} {j : Nat} (e : i = (j : Int)) (h : j ≤ xs.length) : cutV xs none (some i) = xs.take j := by
  subst e
  unfold cutV
  have e1 : HT.sIx xs.length 0 none = 0 := rfl
  rw [HT.sIx_nat, e1, List.drop_zero, Nat.sub_zero, Nat.min_eq_left h]
theorem slL {lo hi : Option Int} {xs : List V} (h : SqL K H a xs) (q : ∀ p, H p = none → Q (.ref p) (upd H p (.lst (cutV xs lo hi)))) : rSlL K (.ref a) lo hi H Q := ⟨a, xs, rfl, h, q⟩
theorem tyLL {xs : List V} (h : SqL K H a xs) : tyV K "list" (.ref a) H := Or.inl ⟨rfl, _, h⟩
end
end BC
namespace TR
/-! ### trails -/
def Pg (w : Int) (l : List Int) : Prop := ∀ x ∈ l, 0 ≤ x ∧ x < w
def vis (t : List Int) (p : Int) : List Int := if p ∈ t then t.take (t.idxOf p + 1) else t ++ [p]
def trl (row : List Int) : List Int := row.foldl vis []
/-- the lengths of the trails -/
def lens (row : List Int) : List Int := (List.range row.length).map fun i => ((trl (row.take (i + 1))).length : Int)
theorem vis_mem {t : List Int} {p x : Int} (h : x ∈ vis t p) : x ∈ t ∨ x = p := by
  unfold vis at h
  split at h
  · exact .inl (List.mem_of_mem_take h)
  · simpa using h
theorem vis_nodup {t : List Int} {p : Int} (h : t.Nodup) : (vis t p).Nodup := by
  unfold vis
  split
  · exact h.sublist (List.take_sublist _ _)
  · next n =>
    rw [List.nodup_append]
    exact ⟨h, List.nodup_cons.mpr ⟨List.not_mem_nil, List.nodup_nil⟩, fun a ha b hb e => n (by simp at hb; rw [← hb, ← e]; exact ha)⟩
theorem vis_pos (t : List Int) (p : Int) : 1 ≤ (vis t p).length := by
  unfold vis
  split
  · next h =>
    have := List.idxOf_lt_length_of_mem h
    rw [List.length_take]; omega
  · rw [List.length_append, List.length_singleton]; omega
theorem vis_le (t : List Int) (p : Int) : (vis t p).length ≤ t.length + 1 := by
  unfold vis
  split
  · rw [List.length_take]; omega
  · rw [List.length_append, List.length_singleton]; omega
theorem vis_pg {w : Int} {t : List Int} {p : Int} (h : Pg w t) (h0 : 0 ≤ p) (h1 : p < w) : Pg w (vis t p) := fun x hx => by
  rcases vis_mem hx with h2 | rfl
  · exact h x h2
  · exact ⟨h0, h1⟩
theorem trl_snoc {row : List Int} {i : Nat} {p : Int} (h : row[i]? = some p) : trl (row.take (i + 1)) = vis (trl (row.take i)) p := by
  unfold trl
  rw [List.take_add_one, h, List.foldl_append]
  rfl
theorem fold_ok {w : Int} : ∀ {row t : List Int}, Pg w row → Pg w t → t.Nodup → Pg w (row.foldl vis t) ∧ (row.foldl vis t).Nodup
  | [], _, _, h2, h3 => ⟨h2, h3⟩
  | p :: row, t, h1, h2, h3 => fold_ok (row := row) (t := vis t p) (fun x hx => h1 x (List.mem_cons_of_mem _ hx)) (vis_pg h2 (h1 p List.mem_cons_self).1 (h1 p List.mem_cons_self).2) (vis_nodup h3)
theorem Pg.take {w : Int} {l : List Int} (h : Pg w l) (n : Nat) : Pg w (l.take n) := fun x hx => h x (List.mem_of_mem_take hx)
theorem Pg.mono {w v : Int} {l : List Int} (h : Pg w l) (e : w ≤ v) : Pg v l := fun x hx => ⟨(h x hx).1, by have := (h x hx).2; omega⟩
theorem Pg.at {w : Int} {l : List Int} (h : Pg w l) {i : Nat} {p : Int} (e : l[i]? = some p) : 0 ≤ p ∧ p < w := h p (List.mem_of_getElem? e)
theorem pg_nil (w : Int) : Pg w [] := fun _ m => (List.not_mem_nil m).elim
theorem trl_pg {w : Int} {row : List Int} (h : Pg w row) : Pg w (trl row) := (fold_ok h (pg_nil w) List.nodup_nil).1
theorem trl_nodup {w : Int} {row : List Int} (h : Pg w row) : (trl row).Nodup := (fold_ok h (pg_nil w) List.nodup_nil).2
/-- so many different pages at most -/
theorem nodup_len : ∀ (n : Nat) {l : List Int}, l.Nodup → Pg n l → l.length ≤ n
  | 0, [], _, _ => Nat.le_refl _
  | 0, x :: l, _, h => by have := h x List.mem_cons_self; omega
  | n + 1, l, h1, h2 => by
    by_cases m : ((n : Nat) : Int) ∈ l
    · have h3 := nodup_len n (l := l.erase (n : Int)) (h1.erase _) (fun x hx => by
        have a := h2 x (List.mem_of_mem_erase hx)
        have b : x ≠ (n : Int) := fun e => by
          rw [h1.mem_erase_iff] at hx
          exact hx.1 e
        omega)
      have := List.length_erase_of_mem m
      omega
    · have h3 := nodup_len n h1 (fun x hx => by
        have a := h2 x hx
        have b : x ≠ (n : Int) := fun e => m (e ▸ hx)
        omega)
      omega
theorem trl_len {n : Nat} {row : List Int} (h : Pg n row) : (trl row).length ≤ n := nodup_len n (trl_nodup h) (trl_pg h)
theorem lens_len (row : List Int) : (lens row).length = row.length := by unfold lens; rw [List.length_map, List.length_range]
theorem lens_at {row : List Int} {i : Nat} (h : i < row.length) : (lens row)[i]? = some ((trl (row.take (i + 1))).length : Int) := by
  unfold lens
  rw [List.getElem?_map, List.getElem?_range h]
  rfl
end TR

set_option Elab.async false
set_option linter.all false
set_option maxRecDepth 100000
set_option maxHeartbeats 4000000
/-! lists of lengths and their numbers -/
namespace LN
/-- the ways to go on for t more lengths after length l, at most m -/
def W (m : Nat) : Nat → Nat → Int
  | 0, _ => 1
  | t + 1, l => ((List.range (min (l + 1) m)).map fun j => W m t (j + 1)).sum
/-- the ways below the length j + 1 -/
def S (m t j : Nat) : Int := ((List.range j).map fun i => W m t (i + 1)).sum
theorem S_zero (m t : Nat) : S m t 0 = 0 := rfl
theorem sum_snoc (l : List Int) (x : Int) : (l ++ [x]).sum = l.sum + x := by
  rw [List.sum_append]; simp
theorem S_succ (m t j : Nat) : S m t (j + 1) = S m t j + W m t (j + 1) := by
  unfold S
  rw [List.range_succ, List.map_append]
  exact sum_snoc _ _
theorem W_succ (m t l : Nat) : W m (t + 1) l = S m t (min (l + 1) m) := rfl
theorem W_pos {m : Nat} (hm : 1 ≤ m) : ∀ t l, 1 ≤ W m t l
  | 0, _ => Int.le_refl _
  | t + 1, l => by
    rw [W_succ]
    have h : ∀ j : Nat, (j : Int) ≤ S m t j := fun j => by
      induction j with
      | zero => rw [S_zero]; exact Int.le_refl _
      | succ j ih =>
        rw [S_succ]
        have := W_pos hm t (j + 1)
        omega
    have := h (min (l + 1) m)
    have h2 : 1 ≤ min (l + 1) m := by omega
    omega
theorem S_mono {m : Nat} (hm : 1 ≤ m) (t : Nat) : ∀ {i j : Nat}, i ≤ j → S m t i ≤ S m t j := fun {i j} h => by
  induction h with
  | refl => exact Int.le_refl _
  | @step n _ ih =>
    have e := S_succ m t n
    have := W_pos hm t (n + 1)
    show S m t i ≤ S m t (n + 1)
    omega
theorem S_nn {m : Nat} (hm : 1 ≤ m) (t j : Nat) : 0 ≤ S m t j := by
  have := S_mono hm t (Nat.zero_le j)
  rw [S_zero] at this
  exact this
theorem W_le {m : Nat} : ∀ t l, W m t l ≤ (m : Int) ^ t
  | 0, _ => by show (1 : Int) ≤ _; simp
  | t + 1, l => by
    rw [W_succ]
    have h : ∀ j, S m t j ≤ j * (m : Int) ^ t := fun j => by
      induction j with
      | zero => rw [S_zero]; simp
      | succ j ih =>
        rw [S_succ]
        have := W_le (m := m) t (j + 1)
        have e : ((j + 1 : Nat) : Int) * (m : Int) ^ t = j * (m : Int) ^ t + (m : Int) ^ t := by
          rw [Int.natCast_add, Int.add_mul]; simp
        omega
    have h1 := h (min (l + 1) m)
    have h2 : ((min (l + 1) m : Nat) : Int) * (m : Int) ^ t ≤ (m : Int) * (m : Int) ^ t := Int.mul_le_mul_of_nonneg_right (by omega) (Int.pow_nonneg (by omega))
    have e3 : (m : Int) ^ (t + 1) = (m : Int) * (m : Int) ^ t := by rw [Int.pow_succ, Int.mul_comm]
    omega
/-- lists that may come after the length p -/
def Ok (m : Nat) : Nat → List Nat → Prop
  | _, [] => True
  | p, x :: xs => 1 ≤ x ∧ x ≤ min (p + 1) m ∧ Ok m x xs
def rank (m : Nat) : List Nat → Int
  | [] => 0
  | x :: xs => S m xs.length (x - 1) + rank m xs
theorem rank_lt {m : Nat} (hm : 1 ≤ m) : ∀ {p : Nat} {l : List Nat}, Ok m p l → 0 ≤ rank m l ∧ rank m l < W m l.length p
  | _, [], _ => ⟨Int.le_refl _, by show (0 : Int) < 1; omega⟩
  | p, x :: xs, ⟨h1, h2, h3⟩ => by
    have ih := rank_lt hm h3
    have e : S m xs.length x = S m xs.length (x - 1) + W m xs.length x := by
      have := S_succ m xs.length (x - 1)
      rwa [Nat.sub_add_cancel h1] at this
    have s0 := S_nn hm xs.length (x - 1)
    have s1 := S_mono hm xs.length h2
    show 0 ≤ S m xs.length (x - 1) + rank m xs ∧ S m xs.length (x - 1) + rank m xs < W m (xs.length + 1) p
    rw [W_succ]
    omega
/-- each number has a list -/
theorem find {m : Nat} (hm : 1 ≤ m) : ∀ (t : Nat) {p : Nat} {r : Int}, 0 ≤ r → r < W m t p → ∃ l, Ok m p l ∧ l.length = t ∧ rank m l = r
  | 0, p, r, h0, h1 => ⟨[], trivial, rfl, by have : r < 1 := h1; show (0 : Int) = r; omega⟩
  | t + 1, p, r, h0, h1 => by
    rw [W_succ] at h1
    have : ∀ n, r < S m t n → ∃ x, 1 ≤ x ∧ x ≤ n ∧ S m t (x - 1) ≤ r ∧ r < S m t x := fun n => by
      induction n with
      | zero => intro h; rw [S_zero] at h; omega
      | succ n ih =>
        intro h
        by_cases q : r < S m t n
        · obtain ⟨x, a, b, c⟩ := ih q
          exact ⟨x, a, by omega, c⟩
        · exact ⟨n + 1, by omega, by omega, by show S m t n ≤ r; omega, h⟩
    obtain ⟨x, a, b, c, d⟩ := this _ h1
    have e : S m t x = S m t (x - 1) + W m t x := by
      have := S_succ m t (x - 1)
      rwa [Nat.sub_add_cancel a] at this
    obtain ⟨l, l1, l2, l3⟩ := find hm t (p := x) (r := r - S m t (x - 1)) (by omega) (by omega)
    refine ⟨x :: l, ⟨a, b, l1⟩, by rw [List.length_cons, l2], ?_⟩
    show S m l.length (x - 1) + rank m l = r
    rw [l2, l3]
    omega
/-- a greater number has a greater list -/
theorem rank_mono {m : Nat} (hm : 1 ≤ m) : ∀ {p : Nat} {a b : List Nat}, Ok m p a → Ok m p b → a.length = b.length → rank m a < rank m b → ∃ k, k < a.length ∧ (∀ i, i < k → a.getD i 0 = b.getD i 0) ∧ a.getD k 0 < b.getD k 0
  | _, [], [], _, _, _, h => by exact absurd h (Int.lt_irrefl _)
  | _, [], _ :: _, _, _, h, _ => by simp at h
  | _, _ :: _, [], _, _, h, _ => by simp at h
  | p, x :: xs, y :: ys, ⟨a1, a2, a3⟩, ⟨b1, b2, b3⟩, hl, h => by
    have hl2 : xs.length = ys.length := by simpa using hl
    have h2 : S m xs.length (x - 1) + rank m xs < S m ys.length (y - 1) + rank m ys := h
    have r1 := rank_lt hm a3
    have r2 := rank_lt hm b3
    rw [← hl2] at h2 r2
    by_cases e : x = y
    · subst e
      obtain ⟨k, k1, k2, k3⟩ := rank_mono hm a3 b3 hl2 (by omega)
      refine ⟨k + 1, by rw [List.length_cons]; omega, fun i hi => ?_, k3⟩
      cases i with
      | zero => rfl
      | succ i => exact k2 i (by omega)
    · by_cases e2 : x < y
      · exact ⟨0, by rw [List.length_cons]; omega, fun i hi => by omega, e2⟩
      · have s := S_mono hm xs.length (show y ≤ x - 1 by omega)
        have e3 : S m xs.length y = S m xs.length (y - 1) + W m xs.length y := by
          have := S_succ m xs.length (y - 1)
          rwa [Nat.sub_add_cancel b1] at this
        omega
theorem ok_drop {m : Nat} : ∀ {p : Nat} {l : List Nat} {i x : Nat}, Ok m p l → l[i]? = some x → ∃ q, Ok m q (l.drop i) ∧ 1 ≤ x ∧ x ≤ m ∧ Ok m x (l.drop (i + 1))
  | _, [], _, _, _, h => by simp at h
  | p, y :: l, 0, x, ⟨h1, h2, h3⟩, h => by
    simp at h
    subst h
    exact ⟨p, ⟨h1, h2, h3⟩, h1, by omega, h3⟩
  | p, y :: l, i + 1, x, ⟨h1, h2, h3⟩, h => by
    have h' : l[i]? = some x := by simpa using h
    exact ok_drop (p := y) (l := l) h3 h'
theorem rank_drop {m : Nat} {l : List Nat} {i x : Nat} (h : l[i]? = some x) : rank m (l.drop i) = S m (l.length - i - 1) (x - 1) + rank m (l.drop (i + 1)) := by
  obtain ⟨hi, hx⟩ := List.getElem?_eq_some_iff.mp h
  rw [List.drop_eq_getElem_cons hi, hx]
  show S m (l.drop (i + 1)).length (x - 1) + _ = _
  rw [List.length_drop]
  have : l.length - (i + 1) = l.length - i - 1 := by omega
  rw [this]
theorem ok_at {m : Nat} {p : Nat} {l : List Nat} (h : Ok m p l) : ∀ x ∈ l, 1 ≤ x ∧ x ≤ m := fun x hx => by
  obtain ⟨i, hi, e⟩ := List.getElem_of_mem hx
  obtain ⟨q, _, a, b, _⟩ := ok_drop h (List.getElem?_eq_some_iff.mpr ⟨hi, e⟩)
  exact ⟨a, b⟩
theorem ok_snoc {m : Nat} : ∀ {p : Nat} {l : List Nat} {x : Nat}, Ok m p l → 1 ≤ x → x ≤ min ((l.getLast?.getD p) + 1) m → Ok m p (l ++ [x])
  | p, [], x, _, h1, h2 => ⟨h1, h2, trivial⟩
  | p, [y], x, ⟨a, b, _⟩, h1, h2 => ⟨a, b, h1, by simpa using h2, trivial⟩
  | p, y :: z :: l, x, ⟨a, b, c⟩, h1, h2 => ⟨a, b, ok_snoc c h1 (by
      have e : (z :: l).getLast?.getD y = (y :: z :: l).getLast?.getD p := by
        rw [List.getLast?_cons_cons]
        cases h : (z :: l).getLast? with
        | none => simp at h
        | some v => rfl
      rw [e]; exact h2)⟩
/-- the first one -/
theorem first_ok {m : Nat} (hm : 1 ≤ m) : ∀ t p, Ok m p (List.replicate t 1)
  | 0, _ => trivial
  | t + 1, p => ⟨Nat.le_refl _, by omega, first_ok hm t 1⟩
theorem first_rank (m : Nat) : ∀ t, rank m (List.replicate t 1) = 0
  | 0 => rfl
  | t + 1 => by
    show S m _ (1 - 1) + rank m (List.replicate t 1) = 0
    rw [first_rank m t]
    rfl
/-- the last one -/
def up (m : Nat) : Nat → Nat → List Nat
  | 0, _ => []
  | t + 1, p => min (p + 1) m :: up m t (min (p + 1) m)
theorem up_len (m : Nat) : ∀ t p, (up m t p).length = t
  | 0, _ => rfl
  | t + 1, p => by show (up m t _).length + 1 = _; rw [up_len m t]
theorem up_ok {m : Nat} (hm : 1 ≤ m) : ∀ t p, Ok m p (up m t p)
  | 0, _ => trivial
  | t + 1, p => ⟨by omega, Nat.le_refl _, up_ok hm t _⟩
theorem up_rank {m : Nat} (hm : 1 ≤ m) : ∀ t p, rank m (up m t p) = W m t p - 1
  | 0, _ => rfl
  | t + 1, p => by
    show S m (up m t _).length (min (p + 1) m - 1) + rank m (up m t _) = _
    rw [up_len, up_rank hm t, W_succ]
    have := S_succ m t (min (p + 1) m - 1)
    rw [Nat.sub_add_cancel (by omega)] at this
    omega
theorem up_at (m : Nat) (hm : 1 ≤ m) : ∀ t p i, i < t → (up m t p)[i]? = some (min m (p + i + 1))
  | t + 1, p, 0, _ => by show some (min (p + 1) m) = _; rw [Nat.min_comm]
  | t + 1, p, i + 1, h => by
    show (up m t _)[i]? = _
    rw [up_at m hm t _ i (by omega)]
    congr 1
    omega
theorem up_eq (m : Nat) (hm : 1 ≤ m) (t : Nat) : up m t 0 = (List.range t).map fun i => min m (i + 1) := by
  apply List.ext_getElem?
  intro i
  by_cases h : i < t
  · rw [up_at m hm t 0 i h, List.getElem?_map, List.getElem?_range h, Nat.zero_add]
    rfl
  · rw [List.getElem?_eq_none (by rw [up_len]; omega), List.getElem?_eq_none (by rw [List.length_map, List.length_range]; omega)]
/-- the rows as lists, to be computed -/
def nextRow (m : Nat) (r : List Int) : List Int := (List.range (m + 1)).map fun l => ((r.drop 1).take (min (l + 1) m)).sum
def wrow (m t : Nat) : List Int := (List.range (m + 1)).map fun l => W m t l
theorem wrow_at {m t l : Nat} (h : l ≤ m) : (wrow m t)[l]? = some (W m t l) := by
  unfold wrow
  rw [List.getElem?_map, List.getElem?_range (by omega)]
  rfl
theorem wrow_len (m t : Nat) : (wrow m t).length = m + 1 := by unfold wrow; rw [List.length_map, List.length_range]
theorem wrow_take (m t j : Nat) (h : j ≤ m) : ((wrow m t).drop 1).take j = (List.range j).map fun i => W m t (i + 1) := by
  apply List.ext_getElem?
  intro i
  by_cases q : i < j
  · rw [List.getElem?_take, if_pos q, List.getElem?_drop, wrow_at (by omega), List.getElem?_map, List.getElem?_range q, Nat.add_comm]
    rfl
  · rw [List.getElem?_take, if_neg q, List.getElem?_eq_none (by rw [List.length_map, List.length_range]; omega)]
theorem wrow_sum (m t j : Nat) (h : j ≤ m) : (((wrow m t).drop 1).take j).sum = S m t j := by rw [wrow_take m t j h]; rfl
theorem wrow_next (m t : Nat) : nextRow m (wrow m t) = wrow m (t + 1) := by
  unfold nextRow
  conv => rhs; unfold wrow
  apply List.map_congr_left
  intro l hl
  rw [wrow_sum m t _ (by omega), W_succ]
theorem wrow_zero (m : Nat) : wrow m 0 = List.replicate (m + 1) 1 := by
  unfold wrow
  apply List.ext_getElem?
  intro i
  rw [List.getElem?_map]
  by_cases h : i < m + 1
  · rw [List.getElem?_range h, List.getElem?_replicate, if_pos h]; rfl
  · rw [List.getElem?_eq_none (by rw [List.length_range]; omega), List.getElem?_eq_none (by rw [List.length_replicate]; omega)]; rfl
def rowsOf (m : Nat) : Nat → List Int
  | 0 => List.replicate (m + 1) 1
  | t + 1 => nextRow m (rowsOf m t)
theorem rowsOf_eq (m : Nat) : ∀ t, rowsOf m t = wrow m t
  | 0 => (wrow_zero m).symm
  | t + 1 => by show nextRow m (rowsOf m t) = _; rw [rowsOf_eq m t, wrow_next]
end LN
namespace BC
open PySem PySem.Spec PyProof.Rows L2 Evl
/-- <= of two lists of numbers -/
def rLeL (K : PySem.W.Frag) : R2 := fun x y H Q => ∃ (a b : Addr) (ns ms : List Int), x = .ref a ∧ y = .ref b ∧ SqL K H a (ns.map V.int) ∧ SqL K H b (ms.map V.int) ∧
  Q (.bl (SeqAt.firstLt (fun j => decide (ns.getD j 0 = ms.getD j 0)) (fun j => decide (ns.getD j 0 ≤ ms.getD j 0)) (decide (ns.length ≤ ms.length)) (List.range (min ns.length ms.length)))) H
theorem op_leL {X : Cx} {K : PySem.W.Frag} (hK : X.K = K) (hu : X.A.units < cLine) : OpR X (compareOp .LtE) (rLeL K) := by
  subst hK
  intro pins s σ H x y v u Q I rx ry h
  obtain ⟨a, b, ns, ms, rfl, rfl, ha, hb, q⟩ := h
  cases rx
  cases ry
  obtain ⟨its, r1, p1, _⟩ := I.list ha
  obtain ⟨its2, r2, p2, _⟩ := I.list hb
  have i1 : IntsAre its ns := Vals.ints r1
  have i2 : IntsAre its2 ms := Vals.ints r2
  have e1 : its.toArray.size = ns.length := by rw [List.size_toArray]; exact i1.length
  have e2 : its2.toArray.size = ms.length := by rw [List.size_toArray]; exact i2.length
  have at1 : ∀ j (h1 : j < its.toArray.size), ∃ t, its.toArray[j] = .int (ns.getD j 0) t := fun j h1 => PyProof.Rows.IntsAre.int_at i1 _ _ (by simp at h1; simp [h1])
  have at2 : ∀ j (h1 : j < its2.toArray.size), ∃ t, its2.toArray[j] = .int (ms.getD j 0) t := fun j h1 => PyProof.Rows.IntsAre.int_at i2 _ _ (by simp at h1; simp [h1])
  have isl : ∀ {c : Addr} {vs : Array Value}, (∃ o n, s.heap.get? c = some o ∧ o.cls = .type "list" ∧ o.dict = none ∧ o.data = .seq vs n) → s.heap.IsList c vs := fun ⟨o, n, z1, z2, _, z4⟩ => ⟨o, z1, z2, n, z4⟩
  have R := SeqAt.RcOp.lists_le (A := X.A) (s := s) (l := a) (b := b) (items := its.toArray) (items2 := its2.toArray) (e := fun j => decide (ns.getD j 0 = ms.getD j 0)) (r := fun j => decide (ns.getD j 0 ≤ ms.getD j 0)) (isl p1) (isl p2) hu (fun j h1 h2 => by
    obtain ⟨t, et⟩ := at1 j h1
    obtain ⟨t', et'⟩ := at2 j h2
    rw [et, et']
    have z : (ns.getD j 0 == ms.getD j 0) = decide (ns.getD j 0 = ms.getD j 0) := by
      by_cases q : ns.getD j 0 = ms.getD j 0
      · rw [decide_eq_true q]; exact beq_iff_eq.mpr q
      · rw [decide_eq_false q]; exact beq_eq_false_iff_ne.mpr q
    rw [← z]
    exact SeqAt.EqAt.int_int _ _ _ _) (fun j h1 h2 _ => by
    obtain ⟨t, et⟩ := at1 j h1
    obtain ⟨t', et'⟩ := at2 j h2
    rw [et, et']
    exact fun _ _ _ _ h => PyProof.Rows.le_int h)
  rw [e1, e2] at R
  have z : wpAny (model X.prog X.w) X.A (compareOp .LtE (.ref a) (.ref b)) (EP X pins σ Q) X.xe s := R X.prog X.w X.xe (EP X pins σ Q) ⟨.bl _, H, I, rfl, q⟩
  exact z
theorem firstLt_false {e r : Nat → Bool} {fin : Bool} : ∀ {p : List Nat} {j : Nat} {t : List Nat}, (∀ x ∈ p, e x = true) → e j = false → r j = false → SeqAt.firstLt e r fin (p ++ j :: t) = false
  | [], j, t, _, h2, h3 => by rw [List.nil_append, SeqAt.firstLt_no h2, h3]
  | x :: p, j, t, h1, h2, h3 => by
    rw [List.cons_append, SeqAt.firstLt_yes (h1 x List.mem_cons_self)]
    exact firstLt_false (fun y hy => h1 y (List.mem_cons_of_mem _ hy)) h2 h3
theorem leL_false {K : PySem.W.Frag} {H : Hp} {Q : VK} {a b : Addr} {ns ms : List Int} (ha : SqL K H a (ns.map V.int)) (hb : SqL K H b (ms.map V.int)) {k : Nat} (hk : k < ns.length) (hl : ns.length = ms.length) (hp : ∀ i, i < k → ns.getD i 0 = ms.getD i 0) (hg : ms.getD k 0 < ns.getD k 0)
    (q : Q (.bl false) H) : rLeL K (.ref a) (.ref b) H Q := by
  refine ⟨a, b, ns, ms, rfl, rfl, ha, hb, ?_⟩
  have hm : min ns.length ms.length = ns.length := by omega
  have e : List.range ns.length = (List.range ns.length).take k ++ k :: (List.range ns.length).drop (k + 1) := by
    conv => lhs; rw [← List.take_append_drop k (List.range ns.length)]
    rw [List.drop_eq_getElem_cons (by rw [List.length_range]; exact hk), List.getElem_range]
  rw [hm, e, firstLt_false]
  · exact q
  · intro x hx
    rw [List.take_range, List.mem_range] at hx
    exact decide_eq_true (hp x (by omega))
  · exact decide_eq_false (by omega)
  · exact decide_eq_false (by omega)
end BC

set_option Elab.async false
set_option linter.all false
set_option maxRecDepth 100000
set_option maxHeartbeats 4000000
namespace LW
open PySem PySem.Spec PyProof.Rows L2 BC Evl TR LN

def topS (i : Nat) : Stmt := PySem.Challenge.pw_breadcrumbs_k65_many_lengths_numbered.main.body.getD i (.Pass ⟨0, 0, 0, 0⟩)
abbrev s_is_integer : Stmt := topS 5
theorem sc_is_integer : FnScope ["value", "least", "most"] ["value", "least", "most"] (defScope s_is_integer) := ⟨rfl, rfl, rfl, by decide +kernel, rfl, by decide +kernel, by decide +kernel⟩
abbrev s_check_number : Stmt := topS 6
theorem sc_check_number : FnScope ["value", "least", "most"] ["value", "least", "most"] (defScope s_check_number) := ⟨rfl, rfl, rfl, by decide +kernel, rfl, by decide +kernel, by decide +kernel⟩
abbrev s_is_lengths : Stmt := topS 11
theorem sc_is_lengths : FnScope ["value", "before", "length"] ["value"] (defScope s_is_lengths) := ⟨rfl, rfl, rfl, by decide +kernel, rfl, by decide +kernel, by decide +kernel⟩
abbrev s_check_lengths : Stmt := topS 12
theorem sc_check_lengths : FnScope ["value"] ["value"] (defScope s_check_lengths) := ⟨rfl, rfl, rfl, by decide +kernel, rfl, by decide +kernel, by decide +kernel⟩
abbrev s_continuations : Stmt := topS 13
theorem sc_continuations : FnScope ["many", "times", "found", "turn", "length", "before", "row", "total"] ["many", "times"] (defScope s_continuations) := ⟨rfl, rfl, rfl, by decide +kernel, rfl, by decide +kernel, by decide +kernel⟩
abbrev s_count_lengths : Stmt := topS 14
theorem sc_count_lengths : FnScope ["many", "times"] ["many", "times"] (defScope s_count_lengths) := ⟨rfl, rfl, rfl, by decide +kernel, rfl, by decide +kernel, by decide +kernel⟩
abbrev s_nth_lengths : Stmt := topS 15
theorem sc_nth_lengths : FnScope ["many", "times", "index", "left", "ways", "rest", "found", "length"] ["many", "times", "index"] (defScope s_nth_lengths) := ⟨rfl, rfl, rfl, by decide +kernel, rfl, by decide +kernel, by decide +kernel⟩
abbrev s_lengths_rank : Stmt := topS 16
theorem sc_lengths_rank : FnScope ["many", "lengths", "ways", "found", "place", "length"] ["many", "lengths"] (defScope s_lengths_rank) := ⟨rfl, rfl, rfl, by decide +kernel, rfl, by decide +kernel, by decide +kernel⟩
abbrev s_law_bag : Stmt := topS 18
theorem sc_law_bag : FnScope ["_law_cell"] ["_law_cell"] (defScope s_law_bag) := ⟨rfl, rfl, rfl, by decide +kernel, rfl, by decide +kernel, by decide +kernel⟩
abbrev s_law_draw : Stmt := topS 19
theorem sc_law_draw : FnScope ["_law_bag_here", "_law_most", "_law_mixed", "_law_digit"] ["_law_bag_here", "_law_most"] (defScope s_law_draw) := ⟨rfl, rfl, rfl, by decide +kernel, rfl, by decide +kernel, by decide +kernel⟩
abbrev s_law_equal : Stmt := topS 20
theorem sc_law_equal : FnScope ["_law_found", "_law_due", "_law_one", "_law_two"] ["_law_found", "_law_due"] (defScope s_law_equal) := ⟨rfl, rfl, rfl, by decide +kernel, rfl, by decide +kernel, by decide +kernel⟩
abbrev s_law_row : Stmt := topS 21
theorem sc_law_row : FnScope ["_law_bag_here", "_law_wide", "_law_long", "_law_turn", "_law_found", "_law_way", "_law_top", "_law_some"] ["_law_bag_here", "_law_wide", "_law_long"] (defScope s_law_row) := ⟨rfl, rfl, rfl, by decide +kernel, rfl, by decide +kernel, by decide +kernel⟩
abbrev s_law_table : Stmt := topS 22
theorem sc_law_table : FnScope ["_law_wide", "_law_long", "_law_found", "_law_turn", "_law_size"] ["_law_wide", "_law_long"] (defScope s_law_table) := ⟨rfl, rfl, rfl, by decide +kernel, rfl, by decide +kernel, by decide +kernel⟩
abbrev s_law_index : Stmt := topS 23
theorem sc_law_index : FnScope ["_law_table_here", "_law_row_here", "_law_found", "_law_at", "_law_one"] ["_law_table_here", "_law_row_here"] (defScope s_law_index) := ⟨rfl, rfl, rfl, by decide +kernel, rfl, by decide +kernel, by decide +kernel⟩
abbrev s_law_holds : Stmt := topS 24
theorem sc_law_holds : FnScope ["_law_bag_here", "_law_wide", "_law_long", "_law_turn", "_law_table_here", "_law_row_here", "_law_whole", "_law_number", "_law_before", "_law_told", "_law_at"] ["_law_bag_here", "_law_wide", "_law_long"] (defScope s_law_holds) := ⟨rfl, rfl, rfl, by decide +kernel, rfl, by decide +kernel, by decide +kernel⟩
abbrev s_law : Stmt := topS 25
theorem sc_law : FnScope ["_law_script", "_law_numbers", "_law_long", "_law_k", "_law_cell", "_law_bag_here", "_law_is_last", "_law_wide", "_law_one"] ["_law_script"] (defScope s_law) := ⟨rfl, rfl, rfl, by decide +kernel, rfl, by decide +kernel, by decide +kernel⟩
structure Txt (K : PySem.W.Frag) (mg : Str → Option Value) where
  f_is_integer : Addr
  fd_is_integer : FuncData
  F_is_integer : Fun K "is_integer" "is_integer" s_is_integer f_is_integer fd_is_integer
  m_is_integer : mg "is_integer" = some (.ref f_is_integer)
  b_is_integer : Binds K fd_is_integer ["value", "least", "most"] []
  f_check_number : Addr
  fd_check_number : FuncData
  F_check_number : Fun K "check_number" "check_number" s_check_number f_check_number fd_check_number
  m_check_number : mg "check_number" = some (.ref f_check_number)
  b_check_number : Binds K fd_check_number ["value", "least", "most"] []
  f_is_lengths : Addr
  fd_is_lengths : FuncData
  F_is_lengths : Fun K "is_lengths" "is_lengths" s_is_lengths f_is_lengths fd_is_lengths
  m_is_lengths : mg "is_lengths" = some (.ref f_is_lengths)
  b_is_lengths : Binds K fd_is_lengths ["value"] []
  f_check_lengths : Addr
  fd_check_lengths : FuncData
  F_check_lengths : Fun K "check_lengths" "check_lengths" s_check_lengths f_check_lengths fd_check_lengths
  m_check_lengths : mg "check_lengths" = some (.ref f_check_lengths)
  b_check_lengths : Binds K fd_check_lengths ["value"] []
  f_continuations : Addr
  fd_continuations : FuncData
  F_continuations : Fun K "continuations" "continuations" s_continuations f_continuations fd_continuations
  m_continuations : mg "continuations" = some (.ref f_continuations)
  b_continuations : Binds K fd_continuations ["many", "times"] []
  f_count_lengths : Addr
  fd_count_lengths : FuncData
  F_count_lengths : Fun K "count_lengths" "count_lengths" s_count_lengths f_count_lengths fd_count_lengths
  m_count_lengths : mg "count_lengths" = some (.ref f_count_lengths)
  b_count_lengths : Binds K fd_count_lengths ["many", "times"] []
  f_nth_lengths : Addr
  fd_nth_lengths : FuncData
  F_nth_lengths : Fun K "nth_lengths" "nth_lengths" s_nth_lengths f_nth_lengths fd_nth_lengths
  m_nth_lengths : mg "nth_lengths" = some (.ref f_nth_lengths)
  b_nth_lengths : Binds K fd_nth_lengths ["many", "times", "index"] []
  f_lengths_rank : Addr
  fd_lengths_rank : FuncData
  F_lengths_rank : Fun K "lengths_rank" "lengths_rank" s_lengths_rank f_lengths_rank fd_lengths_rank
  m_lengths_rank : mg "lengths_rank" = some (.ref f_lengths_rank)
  b_lengths_rank : Binds K fd_lengths_rank ["many", "lengths"] []
  f_law_bag : Addr
  fd_law_bag : FuncData
  F_law_bag : Fun K "_law_bag" "_law_bag" s_law_bag f_law_bag fd_law_bag
  m_law_bag : mg "_law_bag" = some (.ref f_law_bag)
  b_law_bag : Binds K fd_law_bag ["_law_cell"] []
  f_law_draw : Addr
  fd_law_draw : FuncData
  F_law_draw : Fun K "_law_draw" "_law_draw" s_law_draw f_law_draw fd_law_draw
  m_law_draw : mg "_law_draw" = some (.ref f_law_draw)
  b_law_draw : Binds K fd_law_draw ["_law_bag_here", "_law_most"] []
  f_law_equal : Addr
  fd_law_equal : FuncData
  F_law_equal : Fun K "_law_equal" "_law_equal" s_law_equal f_law_equal fd_law_equal
  m_law_equal : mg "_law_equal" = some (.ref f_law_equal)
  b_law_equal : Binds K fd_law_equal ["_law_found", "_law_due"] []
  f_law_row : Addr
  fd_law_row : FuncData
  F_law_row : Fun K "_law_row" "_law_row" s_law_row f_law_row fd_law_row
  m_law_row : mg "_law_row" = some (.ref f_law_row)
  b_law_row : Binds K fd_law_row ["_law_bag_here", "_law_wide", "_law_long"] []
  f_law_table : Addr
  fd_law_table : FuncData
  F_law_table : Fun K "_law_table" "_law_table" s_law_table f_law_table fd_law_table
  m_law_table : mg "_law_table" = some (.ref f_law_table)
  b_law_table : Binds K fd_law_table ["_law_wide", "_law_long"] []
  f_law_index : Addr
  fd_law_index : FuncData
  F_law_index : Fun K "_law_index" "_law_index" s_law_index f_law_index fd_law_index
  m_law_index : mg "_law_index" = some (.ref f_law_index)
  b_law_index : Binds K fd_law_index ["_law_table_here", "_law_row_here"] []
  f_law_holds : Addr
  fd_law_holds : FuncData
  F_law_holds : Fun K "_law_holds" "_law_holds" s_law_holds f_law_holds fd_law_holds
  m_law_holds : mg "_law_holds" = some (.ref f_law_holds)
  b_law_holds : Binds K fd_law_holds ["_law_bag_here", "_law_wide", "_law_long"] []
  f_law : Addr
  fd_law : FuncData
  F_law : Fun K "law" "law" s_law f_law fd_law
  m_law : mg "law" = some (.ref f_law)
  b_law : Binds K fd_law ["_law_script"] []
  t_MOST_PAGES : Tok
  c_MOST_PAGES : mg "MOST_PAGES" = some (.int 40 t_MOST_PAGES)
  t_MOST_TIMES : Tok
  c_MOST_TIMES : mg "MOST_TIMES" = some (.int 200 t_MOST_TIMES)
  t_MOST_VISITS : Tok
  c_MOST_VISITS : mg "MOST_VISITS" = some (.int 300 t_MOST_VISITS)
  n_all : mg "all" = none
  n_bool : mg "bool" = none
  n_enumerate : mg "enumerate" = none
  n_int : mg "int" = none
  n_isinstance : mg "isinstance" = none
  n_len : mg "len" = none
  n_list : mg "list" = none
  n_max : mg "max" = none
  n_min : mg "min" = none
  n_range : mg "range" = none
  n_repr : mg "repr" = none
  n_str : mg "str" = none
  n_sum : mg "sum" = none
  n_tuple : mg "tuple" = none
  n_zip : mg "zip" = none
local macro_rules | `(tactic| walk_at "sx") => `(tactic| try simp only [x_seq, x_next, x_brk, x_cnt, x_nev, x_ret, x_retN, x_drop, x_ifS, x_asg, x_gn, x_gsub, x_par, x_par3, x_aug, x_for, x_lc, x_rng1, x_rng2, x_rng3, x_ilist, x_itup, x_ienum, x_izip, x_izipA, x_istr, x_var, x_c, x_op, x_un, x_test, x_b, x_chain, x_and, x_or, x_not, x_andV, x_orV, x_notV, x_ife, x_nil, x_cons, x_lst, x_tup, x_cb, x_call, x_callK, x_bm, x_bm0, x_tru, x_sl, x_nopart, x_part, x_revL, x_I0, x_I, x_U, x_ip, x_ipC, x_eqI, x_neI, x_eqB, x_neB, x_eqS, x_neS, x_isB, x_isNB, x_lrg, x_rg1, x_rg2,
  L2.start, List.map_cons, List.map_nil, List.length_cons, List.length_nil, Nat.reduceAdd, Nat.reduceSub, Nat.sub_self, Nat.zero_add, List.replicate, List.replicate_succ, List.replicate_zero, List.append_nil, List.cons_append, List.nil_append, List.set_cons_zero, List.set_cons_succ, List.getElem?_cons_zero, List.getElem?_cons_succ, Option.some.injEq, V.int.injEq, V.bl.injEq, V.ref.injEq, V.str.injEq, List.cons.injEq, and_true, true_and, exists_eq_left', exists_eq_left, exists_and_left, exists_eq, if_true, if_false, ite_true, ite_false, Bool.true_eq_false, Bool.false_eq_true, reduceIte, reduceCtorEq, Bool.not_true, Bool.not_false, decide_true, decide_false, decide_eq_true_eq, Bool.and_true, Bool.true_and, Bool.and_self, Bool.and_false, Bool.false_and, Bool.or_self, Bool.or_false, Bool.false_or, Bool.or_true, Bool.true_or, eq_self])

section
variable {P : Program} {w : World} {K : PySem.W.Frag} {mg : Str → Option Value} {base : Heap}
def spIsInt : Sp := fun vs H Q _ => ∃ i lo hi : Int, vs = [.int i, .int lo, .int hi] ∧ Q (.bl (decide (lo ≤ i) && decide (i ≤ hi))) H
theorem ok_is_integer (T : Txt K mg) : FnOk P w K mg base CX0 1 T.f_is_integer T.fd_is_integer ["value", "least", "most"] spIsInt := by
  refine T.F_is_integer.ok sc_is_integer (fun vs H Q E h => ?_) (fun cdv A outer s H vs Q E hr h => ?_)
  · obtain ⟨i, lo, hi, rfl, _⟩ := h
    rfl
  · obtain ⟨i, lo, hi, rfl, k⟩ := h
    apply Exists.intro
    apply And.intro
    · apply pss_one
      exact (ps_ret (pe_and (pe_callB (k_isi (K := K) rfl) (by rfl) T.n_isinstance (by decide +kernel) (pa_cons (pv 0) (pa_cons (pe_bltn (v := .ty "int") (by rfl) T.n_int (by decide +kernel) rfl) pa_nil))) (pe_and (pe_not (pe_callB (k_isi (K := K) rfl) (by rfl) T.n_isinstance (by decide +kernel) (pa_cons (pv 0) (pa_cons (pe_bltn (v := .ty "bool") (by rfl) T.n_bool (by decide +kernel) rfl) pa_nil)))) (pe_one (pe_chain op_le op_le (pv 1) (pv 0) (pv 2))))))
    walk_at "sx"
    refine isi_int (b := true) (by decide +kernel) ?_
    walk_at "sx"
    refine isi_int (b := false) (by decide +kernel) ?_
    walk_at "sx"
    by_cases h1 : lo ≤ i
    · simpa [h1] using k
    · simpa [h1] using k
end
section
variable {P : Program} {w : World} {K : PySem.W.Frag} {mg : Str → Option Value} {base : Heap}
def spChk : Sp := fun vs H Q _ => ∃ i lo hi : Int, vs = [.int i, .int lo, .int hi] ∧ lo ≤ i ∧ i ≤ hi ∧ Q .non H
theorem ok_check_number (T : Txt K mg) : FnOk P w K mg base CX0 2 T.f_check_number T.fd_check_number ["value", "least", "most"] spChk := by
  refine T.F_check_number.ok sc_check_number (fun vs H Q E h => ?_) (fun cdv A outer s H vs Q E hr h => ?_)
  · obtain ⟨i, lo, hi, rfl, _⟩ := h
    rfl
  · obtain ⟨i, lo, hi, rfl, h1, h2, k⟩ := h
    apply Exists.intro
    apply And.intro
    · apply pss_one
      apply ps_if
      · exact (pt_not (pt_val (pe_call (ok_is_integer T) (hr.mono (by decide)) (by rfl) T.m_is_integer T.F_is_integer.kp T.b_is_integer .nil pass0 (pa_cons (pv 0) (pa_cons (pv 1) (pa_cons (pv 2) pa_nil))))))
      · apply pss_one
        exact ps_never
      · exact pss_nil
    walk_at "sx"
    refine ⟨i, lo, hi, rfl, ?_⟩
    simp only [h1, h2]
    walk_at "sx"
    exact k
end
/-! ### lengths.py: numbers of lists of lengths -/
section
variable {P : Program} {w : World} {K : PySem.W.Frag} {mg : Str → Option Value} {base : Heap}
/-- natural numbers as the program's -/
def nz (L : List Nat) : List Int := L.map fun x : Nat => (x : Int)
theorem nz_len (L : List Nat) : (nz L).length = L.length := List.length_map _
theorem nz_at {L : List Nat} {i x : Nat} (h : L[i]? = some x) : ((nz L).map V.int)[i]? = some (.int (x : Int)) := by
  unfold nz
  rw [List.getElem?_map, List.getElem?_map, h]
  rfl
theorem at_nz {L : List Nat} {i : Nat} {v : V} (h : ((nz L).map V.int)[i]? = some v) : ∃ x, L[i]? = some x ∧ v = .int (x : Int) := by
  unfold nz at h
  rw [List.getElem?_map, List.getElem?_map] at h
  cases e : L[i]? with
  | none => rw [e] at h; cases h
  | some x => rw [e] at h; cases h; exact ⟨x, rfl, rfl⟩
def prv (p : Nat) (L : List Nat) (i : Nat) : Nat := if i = 0 then p else L.getD (i - 1) 0
theorem prv_succ {p i x : Nat} {L : List Nat} (h : L[i]? = some x) : prv p L (i + 1) = x := by
  unfold prv
  rw [if_neg (by omega), Nat.add_sub_cancel, List.getD_eq_getElem?_getD, h]
  rfl
theorem ok_step {m : Nat} : ∀ {p : Nat} {L : List Nat} {i x : Nat}, Ok m p L → L[i]? = some x → 1 ≤ x ∧ x ≤ min (prv p L i + 1) m
  | _, [], _, _, _, h => by simp at h
  | p, y :: L, 0, x, ⟨h1, h2, h3⟩, h => by
    simp at h
    subst h
    exact ⟨h1, h2⟩
  | p, y :: L, i + 1, x, ⟨h1, h2, h3⟩, h => by
    have h' : L[i]? = some x := by simpa using h
    have ih := ok_step (p := y) (L := L) h3 h'
    have e : prv p (y :: L) (i + 1) = prv y L i := by
      unfold prv
      rw [if_neg (by omega), Nat.add_sub_cancel]
      cases i with
      | zero => rfl
      | succ i => rw [if_neg (by omega)]; rfl
    rw [e]
    exact ih
def spOkLens (K : PySem.W.Frag) : Sp := fun vs H Q _ => ∃ (a : Addr) (m : Nat) (L : List Nat), vs = [.ref a] ∧ SqL K H a ((nz L).map V.int) ∧ L.length ≤ 300 ∧ m ≤ 40 ∧ Ok m 0 L ∧ Q (.bl true) H
def JL (H : Hp) (a : Addr) (L : List Nat) (i : Nat) (σ' : L2.St) (H' : Hp) : Prop := ∃ l2, σ' = [some (.ref a), some (.int (prv 0 L i : Nat)), l2] ∧ H' = H
theorem ok_is_lengths (T : Txt K mg) : FnOk P w K mg base CX0 2 T.f_is_lengths T.fd_is_lengths ["value"] (spOkLens K) := by
  refine T.F_is_lengths.ok sc_is_lengths (fun vs H Q E h => ?_) (fun cdv A outer s H vs Q E hr h => ?_)
  · obtain ⟨a, m, L, rfl, _⟩ := h
    rfl
  · obtain ⟨a, m, L, rfl, hA, hl, hm, hp, k⟩ := h
    apply Exists.intro
    apply And.intro
    · apply pss_cons
      · apply ps_if
        · exact (PW.pt (pw_or (pt_not (pt_val (pe_callB (k_isi (K := K) rfl) (by rfl) T.n_isinstance (by decide +kernel) (pa_cons (pv 0) (pa_cons (pe_bltn (v := .ty "list") (by rfl) T.n_list (by decide +kernel) rfl) pa_nil))))) (pw_or1 (pt_cmpR op_gt (pe_callB (k_len (K := K) rfl) (by rfl) T.n_len PySem.boot_len (pa_cons (pv 0) pa_nil)) (pe_glob (v := .int 300) rfl T.c_MOST_VISITS ⟨_, rfl⟩) (by rfl)))))
        · apply pss_one
          exact (ps_ret pe_bl)
        · exact pss_nil
      apply pss_cons
      · exact (ps_set (i := 1) sc_is_lengths.nd rfl (.inl rfl) pe_int)
      apply pss_cons
      · apply ps_for PassesOwn.never rfl
        · exact (k_pi_list (K := K) rfl (pv 0))
        · exact (pg_name (i := 2) sc_is_lengths.nd rfl (.inl rfl))
        · apply pss_cons
          · apply ps_if
            · exact (pt_not (pt_val (pe_call (ok_is_integer T) (hr.mono (by decide)) (by rfl) T.m_is_integer T.F_is_integer.kp T.b_is_integer .nil pass0 (pa_cons (pv 2) (pa_cons pe_int (pa_cons (pe_callB (call_min2 rfl) (by rfl) T.n_min (by decide +kernel) (pa_cons (pe_glob (v := .int 40) rfl T.c_MOST_PAGES ⟨_, rfl⟩) (pa_cons (pe_op op_add (pv 1) pe_int) pa_nil))) pa_nil))))))
            · apply pss_one
              exact (ps_ret pe_bl)
            · exact pss_nil
          apply pss_one
          exact (ps_set (i := 1) sc_is_lengths.nd rfl (.inl rfl) (pv 2))
      apply pss_one
      exact (ps_ret pe_bl)
    walk_at "sx"
    refine isi_x (b := true) (tyx_l hA) (by decide +kernel) ?_
    walk_at "sx"
    refine lenL hA ?_
    walk_at "sx"
    rw [List.length_map, nz_len]
    have e1 : ¬ ((L.length : Nat) : Int) > 300 := by omega
    simp only [e1]
    walk_at "sx"
    refine ⟨⟨_, hA⟩, ?_⟩
    refine lg_list (xs := (nz L).map V.int) (JL H a L) ⟨none, rfl, rfl⟩ (fun i σ' H' _ hP => by obtain ⟨_, _, rfl⟩ := hP; exact hA)
      (fun i x σ' H' hx hP => ?_) (fun σ' H' hP => ?_)
    · obtain ⟨l2, rfl, rfl⟩ := hP
      obtain ⟨x, hx', rfl⟩ := at_nz hx
      walk_at "sx"
      refine ⟨_, _, ⟨rfl, rfl⟩, ?_⟩
      obtain ⟨v1, v2⟩ := ok_step hp hx'
      refine ⟨_, _, _, rfl, ?_⟩
      have z1 : (1 : Int) ≤ (x : Int) := by omega
      have z2 : (x : Int) ≤ (if ((prv 0 L i : Nat) : Int) + 1 < 40 then ((prv 0 L i : Nat) : Int) + 1 else 40) := by
        split <;> omega
      rw [decide_eq_true z1, decide_eq_true z2]
      walk_at "sx"
      exact ⟨_, by rw [prv_succ hx'], rfl⟩
    · obtain ⟨l2, rfl, rfl⟩ := hP
      walk_at "sx"
      exact k
def spChkLens (K : PySem.W.Frag) : Sp := fun vs H Q _ => ∃ (a : Addr) (m : Nat) (L : List Nat), vs = [.ref a] ∧ SqL K H a ((nz L).map V.int) ∧ L.length ≤ 300 ∧ m ≤ 40 ∧ Ok m 0 L ∧ Q .non H
theorem ok_check_lengths (T : Txt K mg) : FnOk P w K mg base CX0 3 T.f_check_lengths T.fd_check_lengths ["value"] (spChkLens K) := by
  refine T.F_check_lengths.ok sc_check_lengths (fun vs H Q E h => ?_) (fun cdv A outer s H vs Q E hr h => ?_)
  · obtain ⟨a, m, L, rfl, _⟩ := h
    rfl
  · obtain ⟨a, m, L, rfl, hA, hl, hm, hp, k⟩ := h
    apply Exists.intro
    apply And.intro
    · apply pss_one
      apply ps_if
      · exact (pt_not (pt_val (pe_call (ok_is_lengths T) (hr.mono (by decide)) (by rfl) T.m_is_lengths T.F_is_lengths.kp T.b_is_lengths .nil pass0 (pa_cons (pv 0) pa_nil))))
      · apply pss_one
        exact ps_never
      · exact pss_nil
    walk_at "sx"
    refine ⟨a, m, L, rfl, hA, hl, hm, hp, ?_⟩
    walk_at "sx"
    exact k
/-- the table of ways lies there -/
def Tab (H : Hp) (r : Addr) (m n : Nat) : Prop := ∃ ps : List Addr, H r = some (.lst (ps.map V.ref)) ∧ ps.length = n + 1 ∧ ∀ t p, ps[t]? = some p → H p = some (.lst ((wrow m t).map V.int))
theorem Tab.ex {H H' : Hp} {r : Addr} {m n : Nat} (h : Tab H r m n) (e : Ex H H') : Tab H' r m n := by
  obtain ⟨ps, h1, h2, h3⟩ := h
  exact ⟨ps, e _ _ h1, h2, fun t p q => e _ _ (h3 t p q)⟩
theorem Tab.get {H : Hp} {r : Addr} {m n : Nat} (h : Tab H r m n) {t : Nat} (ht : t ≤ n) : ∃ p xs, H r = some (.lst xs) ∧ xs[t]? = some (.ref p) ∧ H p = some (.lst ((wrow m t).map V.int)) ∧ xs.length = n + 1 := by
  obtain ⟨ps, h1, h2, h3⟩ := h
  have e : ps[t]? = some ps[t] := List.getElem?_eq_getElem (by omega)
  exact ⟨ps[t], _, h1, by rw [List.getElem?_map, e]; rfl, h3 _ _ e, by rw [List.length_map, h2]⟩
theorem wr_at {m t l : Nat} (h : l ≤ m) : ((wrow m t).map V.int)[l]? = some (.int (W m t l)) := by
  rw [List.getElem?_map, wrow_at h]; rfl
/-- a new row is added -/
theorem Tab.push {H : Hp} {r p : Addr} {m n : Nat} {ps : List Addr} (h1 : H r = some (.lst (ps.map V.ref))) (h2 : ps.length = n + 1) (h3 : ∀ t p, ps[t]? = some p → p ≠ r ∧ H p = some (.lst ((wrow m t).map V.int))) (np : p ≠ r) (hp : H p = some (.lst ((wrow m (n + 1)).map V.int))) :
    (∀ t q, (ps ++ [p])[t]? = some q → q ≠ r ∧ upd H r (.lst ((ps ++ [p]).map V.ref)) q = some (.lst ((wrow m t).map V.int))) := fun t q e => by
  by_cases c : t < ps.length
  · rw [List.getElem?_append_left c] at e
    obtain ⟨a, b⟩ := h3 t q e
    exact ⟨a, by rw [upd_ne a]; exact b⟩
  · rw [List.getElem?_append_right (by omega)] at e
    have : t = n + 1 := by
      have := (List.getElem?_eq_some_iff.mp e).1
      simp at this
      omega
    subst this
    rw [h2, Nat.sub_self] at e
    simp at e
    subst e
    exact ⟨np, by rw [upd_ne np]; exact hp⟩
theorem atI_last {xs : List V} {v : V} (h : xs[xs.length - 1]? = some v) : atI xs (-1) = some v := by
  have hl : xs.length - 1 < xs.length := (List.getElem?_eq_some_iff.mp h).1
  have e : ixN xs.length (-1) = some (xs.length - 1) := by
    unfold ixN
    rw [if_neg (by omega), if_pos (by omega)]
    congr 1
    omega
  unfold atI
  rw [e]
  exact h
def spCont : Sp := fun vs H Q _ => ∃ m n : Nat, vs = [.int m, .int n] ∧ 1 ≤ m ∧ m ≤ 40 ∧ n ≤ 200 ∧ ∀ r H', H r = none → Ex H H' → Tab H' r m n → Q (.ref r) H'
def JC (H : Hp) (m n : Nat) (i : Nat) (σ' : L2.St) (H' : Hp) : Prop := ∃ r l3 l4 l5 l6 l7 ps, σ' = [some (.int m), some (.int n), some (.ref r), l3, l4, l5, l6, l7] ∧ H r = none ∧ Ex H H' ∧ H' r = some (.lst ((ps : List Addr).map V.ref)) ∧ ps.length = i + 1 ∧
  ∀ t p, ps[t]? = some p → p ≠ r ∧ H' p = some (.lst ((wrow m t).map V.int))
def JC2 (H : Hp) (m n i : Nat) (r p q : Addr) (j : Nat) (σ' : L2.St) (H' : Hp) : Prop := ∃ l4, σ' = [some (.int m), some (.int n), some (.ref r), some (.int i), l4, some (.ref p), some (.ref q), some (.int (S m i (min j m)))] ∧ Ex H H' ∧ H' q = some (.lst (((wrow m (i + 1)).map V.int).take j))
theorem ok_continuations (T : Txt K mg) : FnOk P w K mg base CX0 1 T.f_continuations T.fd_continuations ["many", "times"] spCont := by
  refine T.F_continuations.ok sc_continuations (fun vs H Q E h => ?_) (fun cdv A outer s H vs Q E hr h => ?_)
  · obtain ⟨m, n, rfl, _⟩ := h
    rfl
  · obtain ⟨m, n, rfl, h1, h2, h3, k⟩ := h
    apply Exists.intro
    apply And.intro
    · apply pss_cons
      · exact (ps_set (i := 2) sc_continuations.nd rfl (.inl rfl) (pe_lst (pa_cons (pe_op op_rep (pe_lst (pa_cons pe_int pa_nil)) (pe_op op_add (pv 0) pe_int)) pa_nil)))
      apply pss_cons
      · apply ps_for PassesOwn.never rfl
        · exact (pi_range1 (by rfl) T.n_range (pa_cons (pv 1) pa_nil))
        · exact (pg_name (i := 3) sc_continuations.nd rfl (.inl rfl))
        · apply pss_cons
          · exact (ps_par3 (i := 5) (j := 6) (l := 7) (by rfl) sc_continuations.nd rfl rfl rfl (by decide) (by decide) (by decide) rfl rfl rfl (pa_cons (pe_ix (k_ix_list (K := K) rfl) (pv 2) (pe_un un_neg pe_int) (fun _ _ => rfl)) (pa_cons (pe_lst pa_nil) (pa_cons pe_int pa_nil))) (by rfl))
          apply pss_cons
          · apply ps_for PassesOwn.never rfl
            · exact (pi_range1 (by rfl) T.n_range (pa_cons (pe_op op_add (pv 0) pe_int) pa_nil))
            · exact (pg_name (i := 4) sc_continuations.nd rfl (.inl rfl))
            · apply pss_cons
              · apply ps_if
                · exact (pt_cmpR op_lt (pv 4) (pv 0) (by rfl))
                · apply pss_one
                  exact (ps_aug (i := 7) sc_continuations.nd rfl (.inl rfl) (pe_ix (k_ix_list (K := K) rfl) (pv 5) (pe_op op_add (pv 4) pe_int) (fun _ _ => rfl)) ip_add)
                · exact pss_nil
              apply pss_one
              exact (ps_expr (k_bm (K := K) rfl (pe_bm PySem.F.plainAttrs_list PySem.F.slot_list_append PySem.F.type_list_append mt_append (pv 6) (pa_cons (pv 7) pa_nil))))
          apply pss_one
          exact (ps_expr (k_bm (K := K) rfl (pe_bm PySem.F.plainAttrs_list PySem.F.slot_list_append PySem.F.type_list_append mt_append (pv 2) (pa_cons (pv 6) pa_nil))))
      apply pss_one
      exact (ps_ret (pv 2))
    walk_at "sx"
    refine ⟨sz_ok (by omega), fun z nz => ?_⟩
    have e1 := Ex.new nz (o := .lst [V.int 1])
    refine repL upd_same (by omega) (by omega) (sz_ok (by simp; omega)) fun p np => ?_
    have e2 := e1.trans (Ex.new np (o := .lst (List.replicate ((m : Int) + 1).toNat [V.int 1]).flatten))
    refine ⟨sz_ok (by omega), fun r nr => ?_⟩
    have e3 := e2.trans (Ex.new nr (o := .lst [V.ref p]))
    have npr : p ≠ r := ne_of_none upd_same nr
    walk_at "sx"
    refine ⟨by omega, by omega, ?_⟩
    rw [Int.toNat_natCast]
    refine lg_rng (JC H m n) ⟨r, none, none, none, none, none, [p], rfl, fresh_back e2 nr, e3, upd_same, rfl, fun t q e => ?_⟩ (fun i σ' H' hi hP => ?_) (fun σ' H' hP => ?_)
    · have : t = 0 := by
        have := (List.getElem?_eq_some_iff.mp e).1
        simp at this
        omega
      subst this
      cases e
      refine ⟨npr, ?_⟩
      rw [upd_ne npr, upd_same, rep_one, wrow_zero, List.map_replicate]
      congr 3
    · obtain ⟨r, l3, l4, l5, l6, l7, ps, rfl, nr, eH, hr, hps, hrow⟩ := hP
      have hlast : ps[i]? = some ps[i] := List.getElem?_eq_getElem (by omega)
      obtain ⟨nb, hb⟩ := hrow _ _ hlast
      generalize ps[i] = b at hlast nb hb
      walk_at "sx"
      rw [show (0 : Int) + i = (i : Int) by omega]
      refine ixL (.inl (.inl hr)) (show atI (ps.map V.ref) (-1) = some (.ref b) from ?_) ?_
      · exact atI_last (by rw [List.length_map, hps, Nat.add_sub_cancel, List.getElem?_map, hlast]; rfl)
      refine ⟨sz_ok (by omega), fun q nq => ⟨_, _, _, ⟨rfl, rfl, rfl⟩, by omega, by omega, ?_⟩⟩
      have en : ((m : Int) + 1).toNat = m + 1 := by omega
      rw [en]
      have e1 := Ex.new nq (o := .lst [])
      have nqr : q ≠ r := Ne.symm (ne_of_none hr nq)
      refine lg_rng (JC2 H' m n i r b q) ⟨l4, by rw [Nat.zero_min, S_zero], e1, by rw [upd_same]; rfl⟩ (fun j σ2 H2 hj hP => ?_) (fun σ2 H2 hP => ?_)
      · obtain ⟨m4, rfl, e2, hq⟩ := hP
        have hb2 := e2 _ _ hb
        walk_at "sx"
        rw [show (0 : Int) + j = (j : Int) by omega]
        have hlen : (((wrow m (i + 1)).map V.int).take j).length = j := by
          rw [List.length_take, List.length_map, wrow_len]
          omega
        have hnext : ∀ v : Int, v = W m (i + 1) j → ((wrow m (i + 1)).map V.int).take j ++ [V.int v] = ((wrow m (i + 1)).map V.int).take (j + 1) := fun v e => by
          rw [e, take_succ (wr_at (by omega))]
        by_cases c : (j : Int) < (m : Int)
        · simp only [c]
          walk_at "sx"
          refine ixL (.inl (.inl hb2)) (atI_n (j := j + 1) (by omega) (wr_at (by omega))) ?_
          walk_at "sx"
          refine ⟨tyL hq, ?_⟩
          refine appL hq (BC.sz_lt (by rw [hlen]; omega)) ?_
          have es : S m i (min j m) + W m i (j + 1) = S m i (min (j + 1) m) := by
            rw [Nat.min_eq_left (by omega), Nat.min_eq_left (by omega), S_succ]
          rw [hnext _ (by rw [es, W_succ]), es]
          exact ⟨_, rfl, e2.mut nq, upd_same⟩
        · simp only [c]
          walk_at "sx"
          refine ⟨tyL hq, ?_⟩
          refine appL hq (BC.sz_lt (by rw [hlen]; omega)) ?_
          have es : S m i (min j m) = S m i (min (j + 1) m) := by
            rw [Nat.min_eq_right (by omega), Nat.min_eq_right (by omega)]
          rw [hnext _ (by rw [es, W_succ]), es]
          exact ⟨_, rfl, e2.mut nq, upd_same⟩
      · obtain ⟨m4, rfl, e2, hq⟩ := hP
        have hr2 := e2 _ _ hr
        walk_at "sx"
        rw [List.take_of_length_le (by rw [List.length_map, wrow_len]; omega)] at hq
        refine ⟨tyL hr2, ?_⟩
        refine appL hr2 (BC.sz_lt (by rw [List.length_map]; omega)) ?_
        have er : ps.map V.ref ++ [V.ref q] = (ps ++ [q]).map V.ref := by rw [List.map_append]; rfl
        rw [er]
        refine ⟨r, _, _, _, _, _, ps ++ [q], rfl, nr, (eH.trans e2).mut nr, upd_same, by rw [List.length_append, List.length_singleton, hps], ?_⟩
        exact Tab.push hr2 hps (fun t p e => ⟨(hrow t p e).1, e2 _ _ (hrow t p e).2⟩) nqr hq
    · obtain ⟨r, l3, l4, l5, l6, l7, ps, rfl, nr, eH, hr, hps, hrow⟩ := hP
      walk_at "sx"
      exact k r _ nr eH ⟨ps, hr, hps, fun t p q => (hrow t p q).2⟩
def spCount : Sp := fun vs H Q _ => ∃ m n : Nat, vs = [.int m, .int n] ∧ 1 ≤ m ∧ m ≤ 40 ∧ n ≤ 200 ∧ ∀ H', Ex H H' → Q (.int (W m n 0)) H'
theorem ok_count_lengths (T : Txt K mg) : FnOk P w K mg base CX0 3 T.f_count_lengths T.fd_count_lengths ["many", "times"] spCount := by
  refine T.F_count_lengths.ok sc_count_lengths (fun vs H Q E h => ?_) (fun cdv A outer s H vs Q E hr h => ?_)
  · obtain ⟨m, n, rfl, _⟩ := h
    rfl
  · obtain ⟨m, n, rfl, h1, h2, h3, k⟩ := h
    apply Exists.intro
    apply And.intro
    · apply pss_cons
      · exact (ps_expr (pe_call (ok_check_number T) (hr.mono (by decide)) (by rfl) T.m_check_number T.F_check_number.kp T.b_check_number .nil pass0 (pa_cons (pv 0) (pa_cons pe_int (pa_cons (pe_glob (v := .int 40) rfl T.c_MOST_PAGES ⟨_, rfl⟩) pa_nil)))))
      apply pss_cons
      · exact (ps_expr (pe_call (ok_check_number T) (hr.mono (by decide)) (by rfl) T.m_check_number T.F_check_number.kp T.b_check_number .nil pass0 (pa_cons (pv 1) (pa_cons pe_int (pa_cons (pe_glob (v := .int 200) rfl T.c_MOST_TIMES ⟨_, rfl⟩) pa_nil)))))
      apply pss_one
      exact (ps_ret (pe_ix (k_ix_list (K := K) rfl) (pe_ix (k_ix_list (K := K) rfl) (pe_call (ok_continuations T) (hr.mono (by decide)) (by rfl) T.m_continuations T.F_continuations.kp T.b_continuations .nil pass0 (pa_cons (pv 0) (pa_cons (pv 1) pa_nil))) (pv 1) (fun _ _ => rfl)) pe_int (fun _ _ => rfl)))
    walk_at "sx"
    refine ⟨m, 1, 40, rfl, by omega, by omega, ?_⟩
    refine ⟨n, 0, 200, rfl, by omega, by omega, ?_⟩
    walk_at "sx"
    refine ⟨m, n, rfl, h1, h2, h3, fun r H1 nr e1 hT => ?_⟩
    obtain ⟨p, xs, g1, g2, g3, _⟩ := hT.get (Nat.le_refl n)
    refine ixL (.inl (.inl g1)) (atI_n rfl g2) ?_
    walk_at "sx"
    refine ixL (.inl (.inl g3)) (atI_n (j := 0) rfl (wr_at (by omega))) ?_
    exact k _ e1
def spNth : Sp := fun vs H Q _ => ∃ (m n : Nat) (L : List Nat), vs = [.int m, .int n, .int (rank m L)] ∧ 1 ≤ m ∧ m ≤ 40 ∧ n ≤ 200 ∧ Ok m 0 L ∧ L.length = n ∧ ∀ r H', H r = none → Ex H H' → H' r = some (.lst ((nz L).map V.int)) → Q (.ref r) H'
def JN (H1 : Hp) (m n : Nat) (L : List Nat) (wy f : Addr) (i : Nat) (σ' : L2.St) (H' : Hp) : Prop := ∃ l3 l7, σ' = [some (.int m), some (.int n), some (.int (rank m L)), l3, some (.ref wy), some (.int (rank m (L.drop i))), some (.ref f), l7] ∧ Ex H1 H' ∧ H' f = some (.lst (((nz L).map V.int).take i))
def JN2 (H2 : Hp) (m n : Nat) (L : List Nat) (wy f : Addr) (i x : Nat) (k : Nat) (σ' : L2.St) (H' : Hp) : Prop := ∃ j, j + k = x ∧ 1 ≤ j ∧ σ' = [some (.int m), some (.int n), some (.int (rank m L)), some (.int ((n - 1 - i : Nat) : Int)), some (.ref wy), some (.int (rank m (L.drop i) - S m (n - 1 - i) (j - 1))), some (.ref f), some (.int j)] ∧ Ex H2 H'
theorem ok_nth_lengths (T : Txt K mg) : FnOk P w K mg base CX0 4 T.f_nth_lengths T.fd_nth_lengths ["many", "times", "index"] spNth := by
  refine T.F_nth_lengths.ok sc_nth_lengths (fun vs H Q E h => ?_) (fun cdv A outer s H vs Q E hr h => ?_)
  · obtain ⟨m, n, L, rfl, _⟩ := h
    rfl
  · obtain ⟨m, n, L, rfl, h1, h2, h3, hL, hn, k⟩ := h
    apply Exists.intro
    apply And.intro
    · apply pss_cons
      · exact (ps_expr (pe_call (ok_check_number T) (hr.mono (by decide)) (by rfl) T.m_check_number T.F_check_number.kp T.b_check_number .nil pass0 (pa_cons (pv 2) (pa_cons pe_int (pa_cons (pe_op op_sub (pe_call (ok_count_lengths T) (hr.mono (by decide)) (by rfl) T.m_count_lengths T.F_count_lengths.kp T.b_count_lengths .nil pass0 (pa_cons (pv 0) (pa_cons (pv 1) pa_nil))) pe_int) pa_nil)))))
      apply pss_cons
      · exact (ps_par3 (i := 4) (j := 5) (l := 6) (by rfl) sc_nth_lengths.nd rfl rfl rfl (by decide) (by decide) (by decide) rfl rfl rfl (pa_cons (pe_call (ok_continuations T) (hr.mono (by decide)) (by rfl) T.m_continuations T.F_continuations.kp T.b_continuations .nil pass0 (pa_cons (pv 0) (pa_cons (pv 1) pa_nil))) (pa_cons (pv 2) (pa_cons (pe_lst pa_nil) pa_nil))) (by rfl))
      apply pss_cons
      · apply ps_for PassesOwn.never rfl
        · exact (pi_range3 (by rfl) T.n_range (pa_cons (pe_op op_sub (pv 1) pe_int) (pa_cons (pe_un un_neg pe_int) (pa_cons (pe_un un_neg pe_int) pa_nil))))
        · exact (pg_name (i := 3) sc_nth_lengths.nd rfl (.inl rfl))
        · apply pss_cons
          · exact (ps_set (i := 7) sc_nth_lengths.nd rfl (.inl rfl) pe_int)
          apply pss_cons
          · apply ps_while PassesOwn.never
            · exact (pt_cmpR op_ge (pv 5) (pe_ix (k_ix_list (K := K) rfl) (pe_ix (k_ix_list (K := K) rfl) (pv 4) (pv 3) (fun _ _ => rfl)) (pv 7) (fun _ _ => rfl)) (by rfl))
            · apply pss_cons
              · exact (ps_aug (i := 5) sc_nth_lengths.nd rfl (.inl rfl) (pe_ix (k_ix_list (K := K) rfl) (pe_ix (k_ix_list (K := K) rfl) (pv 4) (pv 3) (fun _ _ => rfl)) (pv 7) (fun _ _ => rfl)) ip_sub)
              apply pss_one
              exact (ps_aug (i := 7) sc_nth_lengths.nd rfl (.inl rfl) pe_int ip_add)
          apply pss_one
          exact (ps_expr (k_bm (K := K) rfl (pe_bm PySem.F.plainAttrs_list PySem.F.slot_list_append PySem.F.type_list_append mt_append (pv 6) (pa_cons (pv 7) pa_nil))))
      apply pss_one
      exact (ps_ret (pv 6))
    have rk := rank_lt h1 hL
    rw [hn] at rk
    walk_at "sx"
    refine ⟨m, n, rfl, h1, h2, h3, fun H1 e1 => ?_⟩
    walk_at "sx"
    refine ⟨_, 0, _, rfl, rk.1, by omega, ?_⟩
    walk_at "sx"
    refine ⟨m, n, rfl, h1, h2, h3, fun wy H2 nw e2 hT => ?_⟩
    refine ⟨sz_ok (by omega), fun f nf => ⟨_, _, _, ⟨rfl, rfl, rfl⟩, ?_⟩⟩
    have e3 := Ex.new nf (o := .lst [])
    refine ⟨_, _, _, ⟨rfl, rfl, rfl⟩, _, RgC.neg (by omega) (by omega) (by omega) (by omega), ?_⟩
    have en : ((n : Int) - 1 - -1).toNat = n := by omega
    rw [en]
    refine lg_rngC (JN H2 m n L wy f) ⟨none, none, rfl, e3, by rw [upd_same]; rfl⟩ (fun i σ' H' hi hP => ?_) (fun σ' H' hP => ?_)
    · obtain ⟨l3, l7, rfl, e4, hf⟩ := hP
      have hx : L[i]? = some L[i] := List.getElem?_eq_getElem (by omega)
      obtain ⟨q, o1, o2, o3, o4⟩ := ok_drop hL hx
      have hd := rank_drop (m := m) hx
      generalize L[i] = x at hx o2 o3 o4 hd
      have ej : (n : Int) - 1 + (i : Nat) * (-1) = ((n - 1 - i : Nat) : Int) := by omega
      rw [ej]
      have hd2 : L.length - i - 1 = n - 1 - i := by omega
      rw [hd2] at hd
      have r2 := rank_lt h1 o4
      have hl2 : (L.drop (i + 1)).length = n - 1 - i := by rw [List.length_drop]; omega
      rw [hl2] at r2
      have hT' := hT.ex e4
      walk_at "sx"
      refine ⟨JN2 H' m n L wy f i x, ⟨x - 1, 1, by omega, Nat.le_refl _, by rw [Nat.sub_self, S_zero, Int.sub_zero]; rfl, Ex.refl _⟩, fun c σ5 H5 hP => ?_⟩
      obtain ⟨j, hj, hj1, rfl, e5⟩ := hP
      obtain ⟨p, xs, g1, g2, g3, _⟩ := (hT'.ex e5).get (show n - 1 - i ≤ n by omega)
      walk_at "sx"
      refine ixL (.inl (.inl g1)) (atI_n rfl g2) ?_
      refine ixL (.inl (.inl g3)) (atI_n rfl (wr_at (by omega))) ?_
      walk_at "sx"
      have sj := S_succ m (n - 1 - i) (j - 1)
      rw [Nat.sub_add_cancel hj1] at sj
      by_cases c0 : c = 0
      · have jx : j = x := by omega
        subst jx
        have z : ¬ W m (n - 1 - i) j ≤ rank m (L.drop i) - S m (n - 1 - i) (j - 1) := by omega
        simp only [z]
        walk_at "sx"
        refine ⟨tyL (e5 _ _ hf), ?_⟩
        refine appL (e5 _ _ hf) (BC.sz_lt (by rw [List.length_take]; omega)) ?_
        have hz : rank m (L.drop i) - S m (n - 1 - i) (j - 1) = rank m (L.drop (i + 1)) := by omega
        rw [hz]
        refine ⟨_, _, rfl, (e4.trans e5).mut nf, ?_⟩
        rw [upd_same, take_succ (nz_at hx)]
      · have sm := S_mono h1 (n - 1 - i) (show j ≤ x - 1 by omega)
        have z : W m (n - 1 - i) j ≤ rank m (L.drop i) - S m (n - 1 - i) (j - 1) := by omega
        simp only [z]
        walk_at "sx"
        refine ⟨fun σ' Hx => ∃ c', c' < c ∧ JN2 H' m n L wy f i x c' σ' Hx, fun σ' H' h => h, ?_⟩
        refine ixL (.inl (.inl g1)) (atI_n rfl g2) ?_
        refine ixL (.inl (.inl g3)) (atI_n rfl (wr_at (by omega))) ?_
        walk_at "sx"
        refine ⟨c - 1, by omega, j + 1, by omega, by omega, ?_, e5⟩
        have hz : rank m (L.drop i) - S m (n - 1 - i) (j - 1) - W m (n - 1 - i) j = rank m (L.drop i) - S m (n - 1 - i) j := by omega
        rw [hz]
        rfl
    · obtain ⟨l3, l7, rfl, e4, hf⟩ := hP
      walk_at "sx"
      rw [List.take_of_length_le (by rw [List.length_map, nz_len]; omega)] at hf
      exact k f _ (fresh_back (e1.trans e2) nf) ((e1.trans e2).trans e4) hf
def spRank (K : PySem.W.Frag) : Sp := fun vs H Q _ => ∃ (m : Nat) (a : Addr) (L : List Nat), vs = [.int m, .ref a] ∧ 1 ≤ m ∧ m ≤ 40 ∧ SqL K H a ((nz L).map V.int) ∧ L.length ≤ 200 ∧ Ok m 0 L ∧ ∀ H', Ex H H' → Q (.int (rank m L)) H'
def JR (H1 : Hp) (m : Nat) (a : Addr) (L : List Nat) (wy : Addr) (i : Nat) (σ' : L2.St) (H' : Hp) : Prop := ∃ l4 l5, σ' = [some (.int m), some (.ref a), some (.ref wy), some (.int (rank m L - rank m (L.drop i))), l4, l5] ∧ Ex H1 H'
theorem cut_from (m t x : Nat) (hx : 1 ≤ x) (hm : x ≤ m + 1) : cutV ((wrow m t).map V.int) (some 1) (some (x : Int)) = ((((wrow m t).drop 1).take (x - 1)).map V.int) := by
  unfold cutV
  have e1 : HT.sIx ((wrow m t).map V.int).length 0 (some 1) = 1 := by
    rw [show (1 : Int) = ((1 : Nat) : Int) by rfl, HT.sIx_nat, List.length_map, wrow_len]
    omega
  have e2 : HT.sIx ((wrow m t).map V.int).length ((wrow m t).map V.int).length (some (x : Int)) = x := by
    rw [HT.sIx_nat, List.length_map, wrow_len]
    omega
  rw [e1, e2, List.map_take, List.map_drop]
theorem ok_lengths_rank (T : Txt K mg) : FnOk P w K mg base CX0 4 T.f_lengths_rank T.fd_lengths_rank ["many", "lengths"] (spRank K) := by
  refine T.F_lengths_rank.ok sc_lengths_rank (fun vs H Q E h => ?_) (fun cdv A outer s H vs Q E hr h => ?_)
  · obtain ⟨m, a, L, rfl, _⟩ := h
    rfl
  · obtain ⟨m, a, L, rfl, h1, h2, hA, hl, hL, k⟩ := h
    apply Exists.intro
    apply And.intro
    · apply pss_cons
      · exact (ps_expr (pe_call (ok_check_number T) (hr.mono (by decide)) (by rfl) T.m_check_number T.F_check_number.kp T.b_check_number .nil pass0 (pa_cons (pv 0) (pa_cons pe_int (pa_cons (pe_glob (v := .int 40) rfl T.c_MOST_PAGES ⟨_, rfl⟩) pa_nil)))))
      apply pss_cons
      · exact (ps_expr (pe_call (ok_check_lengths T) (hr.mono (by decide)) (by rfl) T.m_check_lengths T.F_check_lengths.kp T.b_check_lengths .nil pass0 (pa_cons (pv 1) pa_nil)))
      apply pss_cons
      · apply ps_if
        · exact (PW.pt (pw_or (pt_cmpR op_gt (pe_callB (k_len (K := K) rfl) (by rfl) T.n_len PySem.boot_len (pa_cons (pv 1) pa_nil)) (pe_glob (v := .int 200) rfl T.c_MOST_TIMES ⟨_, rfl⟩) (by rfl)) (pw_or1 (pt_not (pt_val (pe_callB (k_all (K := K) rfl rfl) (by rfl) T.n_all (by decide +kernel) (pa_cons (pe_lc (own := [("length", 5)]) rfl sc_lengths_rank.nd (k_pi_list (K := K) rfl (pv 1)) (blkOk_by (own := [("length", 5)]) (N := ["many", "lengths", "ways", "found", "place", "length"]) (sc := defScope s_lengths_rank) (by decide +kernel)) (fun _ _ _ _ _ => by exact (pg_name (i := 5) sc_lengths_rank.nd rfl (.inl rfl))) (fun _ _ _ _ _ => by exact pts_nil) (fun _ _ _ _ _ => by exact (pe_cmpR op_le (pv 5) (pv 0) (by rfl)))) pa_nil)))))))
        · apply pss_one
          exact ps_never
        · exact pss_nil
      apply pss_cons
      · exact (ps_par (i := 2) (j := 3) (by rfl) sc_lengths_rank.nd rfl rfl (by decide) rfl rfl (pa_cons (pe_call (ok_continuations T) (hr.mono (by decide)) (by rfl) T.m_continuations T.F_continuations.kp T.b_continuations .nil pass0 (pa_cons (pv 0) (pa_cons (pe_callB (k_len (K := K) rfl) (by rfl) T.n_len PySem.boot_len (pa_cons (pv 1) pa_nil)) pa_nil))) (pa_cons pe_int pa_nil)) (by rfl))
      apply pss_cons
      · apply ps_for PassesOwn.never rfl
        · exact (k_pi_enum (K := K) rfl (by rfl) T.n_enumerate (pa_cons (pv 1) pa_nil))
        · exact (k_tup (K := K) (n := 2) rfl rfl (pgs_cons (pg_name (i := 4) sc_lengths_rank.nd rfl (.inl rfl)) (pgs_cons (pg_name (i := 5) sc_lengths_rank.nd rfl (.inl rfl)) pgs_nil)))
        · apply pss_one
          exact (ps_aug (i := 3) sc_lengths_rank.nd rfl (.inl rfl) (pe_callB (k_sum (K := K) rfl rfl) (by rfl) T.n_sum (by decide +kernel) (pa_cons (pe_slice (k_sl_list (K := K) rfl) (pe_ix (k_ix_list (K := K) rfl) (pv 2) (pe_op op_sub (pe_op op_sub (pe_callB (k_len (K := K) rfl) (by rfl) T.n_len PySem.boot_len (pa_cons (pv 1) pa_nil)) (pv 4)) pe_int) (fun _ _ => rfl)) (po_some pe_int) (po_some (pv 5))) pa_nil)) ip_add)
      apply pss_one
      exact (ps_ret (pv 3))
    have hin := ok_at hL
    walk_at "sx"
    refine ⟨m, 1, 40, rfl, by omega, by omega, ?_⟩
    walk_at "sx"
    refine ⟨a, m, L, rfl, hA, by omega, by omega, hL, ?_⟩
    refine lenL hA ?_
    walk_at "sx"
    rw [List.length_map, nz_len]
    have e1 : ¬ (200 : Int) < ((L.length : Nat) : Int) := by omega
    simp only [e1]
    walk_at "sx"
    refine ⟨⟨_, hA⟩, fun D nD => ?_⟩
    refine lc_list (fun _ => true) (fun _ => V.bl true) hA nD (by rw [List.length_map, nz_len]; omega) (fun u => rfl) (fun i x _ => tyes) (fun i x hx _ => ?_) (fun H2 e2 hD => ?_)
    · obtain ⟨n, hn, rfl⟩ := at_nz hx
      have := hin n (List.mem_of_getElem? hn)
      refine ev_is (ev_op (ev_var rfl) (ev_var rfl) rv_I0) ?_
      rw [decide_eq_true (by omega)]
    · rw [kept_const] at hD
      have e5 : List.replicate ((nz L).map V.int).length (V.bl true) = (List.replicate L.length true).map V.bl := by rw [List.map_replicate, List.length_map, nz_len]
      rw [e5] at hD
      refine allL (.inl (.inl hD)) ?_
      rw [all_true]
      have hA2 := ex_l e2 hA
      walk_at "sx"
      refine lenL hA2 ?_
      rw [List.length_map, nz_len]
      refine ⟨m, L.length, rfl, h1, h2, hl, fun wy H3 nw e3 hT => ?_⟩
      walk_at "sx"
      have hA3 := ex_l e3 hA2
      refine ⟨_, _, ⟨rfl, rfl⟩, _, hA3, ?_⟩
      refine lg_enum (xs := (nz L).map V.int) (JR H3 m a L wy) ⟨none, none, by rw [List.drop_zero, Int.sub_self], Ex.refl _⟩ (fun i σ' H' hi hP => by obtain ⟨_, _, _, e⟩ := hP; exact ex_l e hA3)
        (fun i x σ' H' T hx hP nT => ?_) (fun σ' H' hP => ?_)
      · obtain ⟨l4, l5, rfl, e⟩ := hP
        obtain ⟨x, hx', rfl⟩ := at_nz hx
        have hi : i < L.length := (List.getElem?_eq_some_iff.mp hx').1
        have hr := rank_drop (m := m) hx'
        obtain ⟨x1, x2⟩ := hin x (List.mem_of_getElem? hx')
        refine g_two upd_same ?_
        walk_at "sx"
        have e4 := e.trans (Ex.new nT (o := .tup [V.int i, V.int x]))
        refine lenL (ex_l e4 hA3) ?_
        rw [List.length_map, nz_len]
        obtain ⟨p, xs, g1, g2, g3, _⟩ := (hT.ex e4).get (show L.length - i - 1 ≤ L.length by omega)
        walk_at "sx"
        refine ixL (.inl (.inl g1)) (atI_n (by omega) g2) ?_
        refine slL (.inl (.inl g3)) fun z nz => ?_
        have e5 := Ex.new nz (o := .lst (cutV ((wrow m (L.length - i - 1)).map V.int) (some 1) (some (x : Int))))
        refine sumL (.inl (.inl (by rw [upd_same, cut_from m _ x x1 (by omega)]))) ?_
        rw [wrow_sum m _ _ (by omega)]
        walk_at "sx"
        have hz : rank m L - rank m (L.drop i) + S m (L.length - i - 1) (x - 1) = rank m L - rank m (L.drop (i + 1)) := by omega
        rw [hz]
        exact ⟨_, _, rfl, e4.trans e5⟩
      · obtain ⟨l4, l5, rfl, e⟩ := hP
        walk_at "sx"
        rw [List.length_map, nz_len, List.drop_length]
        rw [show rank m L - rank m [] = rank m L from Int.sub_zero _]
        exact k _ ((e2.trans e3).trans e)
end
end LW

set_option Elab.async false
set_option linter.all false
set_option maxRecDepth 100000
set_option maxHeartbeats 4000000
namespace LW
open PySem PySem.Spec PyProof.Rows L2 BC Evl TR LN

local macro_rules | `(tactic| walk_at "sx") => `(tactic| try simp only [x_seq, x_next, x_brk, x_cnt, x_nev, x_ret, x_retN, x_drop, x_ifS, x_asg, x_gn, x_gsub, x_par, x_par3, x_aug, x_for, x_lc, x_rng1, x_rng2, x_rng3, x_ilist, x_itup, x_ienum, x_izip, x_izipA, x_istr, x_var, x_c, x_op, x_un, x_test, x_b, x_chain, x_and, x_or, x_not, x_andV, x_orV, x_notV, x_ife, x_nil, x_cons, x_lst, x_tup, x_cb, x_call, x_callK, x_bm, x_bm0, x_tru, x_sl, x_nopart, x_part, x_revL, x_I0, x_I, x_U, x_ip, x_ipC, x_eqI, x_neI, x_eqB, x_neB, x_eqS, x_neS, x_isB, x_isNB, x_lrg, x_rg1, x_rg2,
  L2.start, List.map_cons, List.map_nil, List.length_cons, List.length_nil, Nat.reduceAdd, Nat.reduceSub, Nat.sub_self, Nat.zero_add, List.replicate, List.replicate_succ, List.replicate_zero, List.append_nil, List.cons_append, List.nil_append, List.set_cons_zero, List.set_cons_succ, List.getElem?_cons_zero, List.getElem?_cons_succ, Option.some.injEq, V.int.injEq, V.bl.injEq, V.ref.injEq, V.str.injEq, List.cons.injEq, and_true, true_and, exists_eq_left', exists_eq_left, exists_and_left, exists_eq, if_true, if_false, ite_true, ite_false, Bool.true_eq_false, Bool.false_eq_true, reduceIte, reduceCtorEq, Bool.not_true, Bool.not_false, decide_true, decide_false, decide_eq_true_eq, Bool.and_true, Bool.true_and, Bool.and_self, Bool.and_false, Bool.false_and, Bool.or_self, Bool.or_false, Bool.false_or, Bool.or_true, Bool.true_or, eq_self])

/-! ### the bag -/
def BagAt (H : Hp) (b : Addr) (c : Nat) : Prop := ∃ x0 x1 x2 : Int, H b = some (.lst [.int x0, .int x1, .int x2]) ∧ 0 ≤ x1 ∧ x1 < 10 ^ 37 + 43 ∧ 0 ≤ x2 ∧ x2 ≤ c
theorem BagAt.ex {H H' : Hp} {b : Addr} {c : Nat} (h : BagAt H b c) (e : Ex H H') : BagAt H' b c := by
  obtain ⟨x0, x1, x2, hb, r⟩ := h
  exact ⟨x0, x1, x2, e _ _ hb, r⟩
theorem BagAt.mono {H : Hp} {b : Addr} {c d : Nat} (h : BagAt H b c) (e : c ≤ d) : BagAt H b d := by
  obtain ⟨x0, x1, x2, hb, h1, h2, h3, h4⟩ := h
  exact ⟨x0, x1, x2, hb, h1, h2, h3, by omega⟩
theorem BagAt.some {H : Hp} {b : Addr} {c : Nat} (h : BagAt H b c) : ∃ o, H b = Option.some o := by
  obtain ⟨x0, x1, x2, hb, _⟩ := h
  exact ⟨_, hb⟩
theorem BagAt.apart {H : Hp} {b z : Addr} {c : Nat} (h : BagAt H b c) (nz : H z = none) : z ≠ b := fun e => by
  obtain ⟨o, ho⟩ := h.some
  subst e
  rw [ho] at nz
  cases nz
theorem BagAt.off {H : Hp} {b z : Addr} {c : Nat} {o : HO} (h : BagAt H b c) (nz : z ≠ b) : BagAt (upd H z o) b c := by
  obtain ⟨x0, x1, x2, hb, r⟩ := h
  exact ⟨x0, x1, x2, by rw [upd_ne (Ne.symm nz)]; exact hb, r⟩
theorem BagAt.ne {H : Hp} {b z : Addr} {c : Nat} (h : BagAt H b c) (nb : H z = none) : b ≠ z := fun e => h.apart nb e.symm
section
variable {P : Program} {w : World} {K : PySem.W.Frag} {mg : Str → Option Value} {base : Heap}
def spBag : Sp := fun vs H Q _ => ∃ n : Int, vs = [.int n] ∧ ∀ p H', H p = none → Ex H H' → BagAt H' p 0 → Q (.ref p) H'
theorem ok_law_bag (T : Txt K mg) : FnOk P w K mg base CX0 1 T.f_law_bag T.fd_law_bag ["_law_cell"] spBag := by
  refine T.F_law_bag.ok sc_law_bag (fun vs H Q E h => ?_) (fun cdv A outer s H vs Q E hr h => ?_)
  · obtain ⟨n, rfl, _⟩ := h
    rfl
  · obtain ⟨n, rfl, k⟩ := h
    apply Exists.intro
    apply And.intro
    · apply pss_one
      exact (ps_ret (pe_lst (pa_cons (pe_callB (call_max2 rfl) (by rfl) T.n_max (by decide +kernel) (pa_cons pe_int (pa_cons (pe_op op_sub (pv 0) (pe_op op_powX pe_int pe_int)) pa_nil))) (pa_cons (pe_op op_modX (pv 0) (pe_op op_add (pe_op op_powX pe_int pe_int) pe_int)) (pa_cons pe_int pa_nil)))))
    walk_at "sx"
    have t18 : Int.toNat 18 = 18 := rfl
    have t37 : Int.toNat 37 = 37 := rfl
    rw [t37]
    refine ⟨⟨by decide, by decide, by decide⟩, _, _, ⟨rfl, rfl⟩, ⟨by decide, by decide, by decide⟩, by decide, sz_ok (by omega), fun p np => ?_⟩
    refine k p _ np (Ex.new np) ⟨_, _, _, upd_same, Int.emod_nonneg _ (by decide), Int.emod_lt_of_pos _ (by decide), by omega, by omega⟩
/-- the greatest number of ways that is drawn from -/
def BIG : Int := 2 ^ 2000
theorem big_of {m : Int} (h : m ≤ 100000) : m ≤ BIG := Int.le_trans h (by decide +kernel)
theorem big_lt {m : Int} (h : 0 < m) (h2 : m ≤ BIG) : m.natAbs < 2 ^ 2001 := by
  have a : m.natAbs ≤ BIG.natAbs := by omega
  exact Nat.lt_of_le_of_lt a (by decide +kernel)
def spDraw : Sp := fun vs H Q _ => ∃ (b : Addr) (m : Int) (c : Nat), vs = [.ref b, .int m] ∧ 0 < m ∧ m ≤ BIG ∧ BagAt H b c ∧ c ≤ 1000000 ∧ ∀ r H', 0 ≤ r → r < m → Fx b H H' → BagAt H' b (c + 1) → Q (.int r) H'
theorem ok_law_draw (T : Txt K mg) : FnOk P w K mg base CX0 1 T.f_law_draw T.fd_law_draw ["_law_bag_here", "_law_most"] spDraw := by
  refine T.F_law_draw.ok sc_law_draw (fun vs H Q E h => ?_) (fun cdv A outer s H vs Q E hr h => ?_)
  · obtain ⟨b, m, c, rfl, _⟩ := h
    rfl
  · obtain ⟨b, m, c, rfl, h1, h2, hB, hc, k⟩ := h
    obtain ⟨x0, x1, x2, hb, h3, h4, h5, h6⟩ := hB
    apply Exists.intro
    apply And.intro
    · apply pss_cons
      · apply ps_if
        · exact (pt_cmpR op_gt (pe_ix (k_ix_list (K := K) rfl) (pv 0) pe_int (fun _ _ => rfl)) pe_int (by rfl))
        · apply pss_cons
          · exact (ps_set (i := 3) sc_law_draw.nd rfl (.inl rfl) (pe_op op_modX (pe_ix (k_ix_list (K := K) rfl) (pv 0) pe_int (fun _ _ => rfl)) (pv 1)))
          apply pss_cons
          · exact (ps_asg (pe_op op_fdivX (pe_ix (k_ix_list (K := K) rfl) (pv 0) pe_int (fun _ _ => rfl)) (pv 1)) (pg_sub (pv 0) pe_int set_list))
          apply pss_one
          exact (ps_ret (pv 3))
        · exact pss_nil
      apply pss_cons
      · exact (ps_asg (pe_op op_add (pe_ix (k_ix_list (K := K) rfl) (pv 0) pe_int (fun _ _ => rfl)) pe_int) (pg_sub (pv 0) pe_int set_list))
      apply pss_cons
      · exact (ps_set (i := 2) sc_law_draw.nd rfl (.inl rfl) (pe_op op_modX (pe_op op_powX (pe_op op_add (pe_ix (k_ix_list (K := K) rfl) (pv 0) pe_int (fun _ _ => rfl)) (pe_op op_mulX pe_int (pe_ix (k_ix_list (K := K) rfl) (pv 0) pe_int (fun _ _ => rfl)))) pe_int) (pe_op op_add (pe_op op_powX pe_int pe_int) pe_int)))
      apply pss_cons
      · exact (ps_set (i := 2) sc_law_draw.nd rfl (.inl rfl) (pe_op op_modX (pe_op op_powX (pe_op op_add (pv 2) (pe_op op_mulX pe_int (pe_ix (k_ix_list (K := K) rfl) (pv 0) pe_int (fun _ _ => rfl)))) pe_int) (pe_op op_add (pe_op op_powX pe_int pe_int) pe_int)))
      apply pss_one
      exact (ps_ret (pe_op op_modX (pe_op op_fdivX (pv 2) pe_int) (pv 1)))
    walk_at "sx"
    refine ixL (.inl (.inl hb)) (atI_n (j := 0) rfl rfl) ?_
    walk_at "sx"
    have hdm : ∀ i, CDivW i m := fun i => wide_div (b := 2001) h1 (big_lt h1 h2) (by omega) (by omega)
    by_cases h0 : 0 < x0
    · simp only [h0, if_true]
      refine ixL (.inl (.inl hb)) (atI_n (j := 0) rfl rfl) ?_
      walk_at "sx"
      refine ⟨h1, ?_⟩
      refine ixL (.inl (.inl hb)) (atI_n (j := 0) rfl rfl) ?_
      walk_at "sx"
      refine ⟨hdm _, ?_⟩
      refine setL hb (ixN_n (j := 0) rfl (by simp)) ?_
      exact k _ _ (Int.emod_nonneg _ (by omega)) (Int.emod_lt_of_pos _ h1) Fx.put ⟨_, _, _, upd_same, h3, h4, h5, by omega⟩
    · simp only [h0, if_false]
      refine ixL (.inl (.inl hb)) (atI_n (j := 2) rfl rfl) ?_
      walk_at "sx"
      refine setL hb (ixN_n (j := 2) rfl (by simp)) ?_
      have hb2 : (upd H b (.lst [V.int x0, V.int x1, V.int (x2 + 1)])) b = some (.lst [V.int x0, V.int x1, V.int (x2 + 1)]) := upd_same
      refine ixL (.inl (.inl hb2)) (atI_n (j := 1) rfl rfl) ?_
      walk_at "sx"
      refine ixL (.inl (.inl hb2)) (atI_n (j := 2) rfl rfl) ?_
      walk_at "sx"
      have c1 : CMulX 236887691 (x2 + 1) := .inl (.inl ⟨by decide, by decide⟩)
      have c2 : CMulX 32452867 (x2 + 1) := .inl (.inl ⟨by decide, by decide⟩)
      have c3 : CPowX (x1 + 236887691 * (x2 + 1)) 3 := ⟨by decide, by decide, Nat.lt_of_lt_of_le (log2_small (k := 200) (by decide) (by omega)) (by decide)⟩
      have t38 : Int.toNat 38 = 38 := rfl
      have t36 : Int.toNat 36 = 36 := rfl
      rw [t38, t36]
      refine ⟨c1, c3, ⟨by decide, by decide, by decide⟩, by decide, ?_⟩
      refine ixL (.inl (.inl hb2)) (atI_n (j := 2) rfl rfl) ?_
      walk_at "sx"
      generalize hz : (x1 + 236887691 * (x2 + 1)) ^ Int.toNat 3 % (10 ^ 38 + 133) = z
      have hz0 : 0 ≤ z := by rw [← hz]; exact Int.emod_nonneg _ (by decide)
      have hz1 : z < 10 ^ 38 + 133 := by rw [← hz]; exact Int.emod_lt_of_pos _ (by decide)
      have c4 : CPowX (z + 32452867 * (x2 + 1)) 5 := ⟨by decide, by decide, Nat.lt_of_lt_of_le (log2_small (k := 200) (by decide) (by omega)) (by decide)⟩
      refine ⟨c2, c4, ⟨by decide, by decide, by decide⟩, by decide, ⟨by decide, by decide⟩, h1, ?_⟩
      exact k _ _ (Int.emod_nonneg _ (by omega)) (Int.emod_lt_of_pos _ h1) Fx.put ⟨_, _, _, hb2, h3, h4, by omega, by omega⟩
end
section
variable {P : Program} {w : World} {K : PySem.W.Frag} {mg : Str → Option Value} {base : Heap}
def spFalse : Sp := fun _ _ _ _ => False
def spEq (K : PySem.W.Frag) (n : Nat) : Sp := fun vs H Q _ => ∃ (x y : V) (d : PyData), vs = [x, y] ∧ Dp K H x d ∧ Dp K H y d ∧ Sh n d ∧ ∀ H', Ex H H' → Q (.bl true) H'
theorem eq_base (T : Txt K mg) : FnOk P w K mg base CX0 0 T.f_law_equal T.fd_law_equal ["_law_found", "_law_due"] spFalse :=
  ⟨fun _ _ _ _ h => h.elim, fun _ _ _ _ _ _ _ _ _ _ _ _ _ h => h.elim⟩
theorem eq_step (T : Txt K mg) {lv n : Nat} {sp0 : Sp} (hsp : n = 0 ∨ ∃ n', n = n' + 1 ∧ sp0 = spEq K n') (G : FnOk P w K mg base CX0 lv T.f_law_equal T.fd_law_equal ["_law_found", "_law_due"] sp0) :
    FnOk P w K mg base CX0 (lv + 1) T.f_law_equal T.fd_law_equal ["_law_found", "_law_due"] (spEq K n) := by
  refine T.F_law_equal.ok sc_law_equal (fun vs H Q E h => ?_) (fun cdv A outer s H vs Q E hr h => ?_)
  · obtain ⟨x, y, d, rfl, _⟩ := h
    rfl
  · obtain ⟨x, y, d, rfl, hx, hy, hs, k⟩ := h
    apply Exists.intro
    apply And.intro
    · apply pss_cons
      · apply ps_if
        · exact (pt_val (pe_callB (k_isiT (K := K) rfl) (by rfl) T.n_isinstance (by decide +kernel) (pa_cons (pv 1) (pa_cons (pe_tup (pa_cons (pe_bltn (v := .ty "list") (by rfl) T.n_list (by decide +kernel) rfl) (pa_cons (pe_bltn (v := .ty "tuple") (by rfl) T.n_tuple (by decide +kernel) rfl) pa_nil))) pa_nil))))
        · apply pss_cons
          · apply ps_if
            · exact (PW.pt (pw_or (pt_cmpR op_ne (pe_callB (k_isi (K := K) rfl) (by rfl) T.n_isinstance (by decide +kernel) (pa_cons (pv 0) (pa_cons (pe_bltn (v := .ty "list") (by rfl) T.n_list (by decide +kernel) rfl) pa_nil))) (pe_callB (k_isi (K := K) rfl) (by rfl) T.n_isinstance (by decide +kernel) (pa_cons (pv 1) (pa_cons (pe_bltn (v := .ty "list") (by rfl) T.n_list (by decide +kernel) rfl) pa_nil))) (by rfl)) (pw_or1 (pt_cmpR op_ne (pe_callB (k_isi (K := K) rfl) (by rfl) T.n_isinstance (by decide +kernel) (pa_cons (pv 0) (pa_cons (pe_bltn (v := .ty "tuple") (by rfl) T.n_tuple (by decide +kernel) rfl) pa_nil))) (pe_callB (k_isi (K := K) rfl) (by rfl) T.n_isinstance (by decide +kernel) (pa_cons (pv 1) (pa_cons (pe_bltn (v := .ty "tuple") (by rfl) T.n_tuple (by decide +kernel) rfl) pa_nil))) (by rfl)))))
            · apply pss_one
              exact (ps_ret pe_bl)
            · exact pss_nil
          apply pss_one
          exact (ps_ret (pe_and (pe_cmpR op_eq (pe_callB (k_len (K := K) rfl) (by rfl) T.n_len PySem.boot_len (pa_cons (pv 0) pa_nil)) (pe_callB (k_len (K := K) rfl) (by rfl) T.n_len PySem.boot_len (pa_cons (pv 1) pa_nil)) (by rfl)) (pe_one (pe_callB (k_all (K := K) rfl rfl) (by rfl) T.n_all (by decide +kernel) (pa_cons (pe_lc (own := [("_law_one", 2), ("_law_two", 3)]) rfl sc_law_equal.nd (k_pi_zipA (K := K) rfl (by rfl) T.n_zip (pa_cons (pv 0) (pa_cons (pv 1) pa_nil))) (blkOk_by (own := [("_law_one", 2), ("_law_two", 3)]) (N := ["_law_found", "_law_due", "_law_one", "_law_two"]) (sc := defScope s_law_equal) (by decide +kernel)) (fun _ _ _ _ _ => by exact (k_tup (K := K) (n := 2) rfl rfl (pgs_cons (pg_name (i := 2) sc_law_equal.nd rfl (.inl rfl)) (pgs_cons (pg_name (i := 3) sc_law_equal.nd rfl (.inl rfl)) pgs_nil)))) (fun _ _ _ _ _ => by exact pts_nil) (fun _ _ _ _ _ => by exact (pe_call G hr (by rfl) T.m_law_equal T.F_law_equal.kp T.b_law_equal .nil pass0 (pa_cons (pv 2) (pa_cons (pv 3) pa_nil))))) pa_nil)))))
        · exact pss_nil
      apply pss_cons
      · apply ps_if
        · exact (PW.pt (pw_or (pt_cmpR op_isN (pv 1) pe_non (by rfl)) (pw_or1 (pt_val (pe_callB (k_isiT (K := K) rfl) (by rfl) T.n_isinstance (by decide +kernel) (pa_cons (pv 1) (pa_cons (pe_tup (pa_cons (pe_bltn (v := .ty "bool") (by rfl) T.n_bool (by decide +kernel) rfl) (pa_cons (pe_bltn (v := .ty "str") (by rfl) T.n_str (by decide +kernel) rfl) pa_nil))) pa_nil)))))))
        · apply pss_one
          exact (ps_ret (pe_and (pe_cmpR op_eq (pv 0) (pv 1) (by rfl)) (pe_one (pe_cmpR op_eq (pe_callB (k_isi (K := K) rfl) (by rfl) T.n_isinstance (by decide +kernel) (pa_cons (pv 0) (pa_cons (pe_bltn (v := .ty "bool") (by rfl) T.n_bool (by decide +kernel) rfl) pa_nil))) (pe_callB (k_isi (K := K) rfl) (by rfl) T.n_isinstance (by decide +kernel) (pa_cons (pv 1) (pa_cons (pe_bltn (v := .ty "bool") (by rfl) T.n_bool (by decide +kernel) rfl) pa_nil))) (by rfl)))))
        · exact pss_nil
      apply pss_one
      exact (ps_ret (pe_and (pe_callB (k_isi (K := K) rfl) (by rfl) T.n_isinstance (by decide +kernel) (pa_cons (pv 0) (pa_cons (pe_bltn (v := .ty "int") (by rfl) T.n_int (by decide +kernel) rfl) pa_nil))) (pe_and (pe_not (pe_callB (k_isi (K := K) rfl) (by rfl) T.n_isinstance (by decide +kernel) (pa_cons (pv 0) (pa_cons (pe_bltn (v := .ty "bool") (by rfl) T.n_bool (by decide +kernel) rfl) pa_nil)))) (pe_one (pe_cmpR op_eq (pv 0) (pv 1) (by rfl))))))
    walk_at "sx"
    refine ⟨sz_ok (by omega), fun p np => ?_⟩
    have e1 := Ex.new np (o := .tup [V.ty "list", V.ty "tuple"])
    have ty := tyx_d (ex_d e1 _ _ hy)
    have tx := tyx_d (ex_d e1 _ _ hx)
    cases hs with
    | non n =>
      simp only [tyn] at ty tx
      cases hx; cases hy
      refine isiT2 (b := false) (c := false) ty upd_same (by decide +kernel) (by decide +kernel) ?_
      walk_at "sx"
      refine eq_same (by rfl) ?_
      walk_at "sx"
      refine isi_x (b := false) tx (by decide +kernel) ?_
      refine isi_x (b := false) ty (by decide +kernel) ?_
      walk_at "sx"
      exact k _ e1
    | bl n b =>
      simp only [tyn] at ty tx
      cases hx; cases hy
      refine isiT2 (b := false) (c := false) ty upd_same (by decide +kernel) (by decide +kernel) ?_
      walk_at "sx"
      refine ⟨sz_ok (by omega), fun p2 np2 => ?_⟩
      have e2 := Ex.new np2 (o := .tup [V.ty "bool", V.ty "str"])
      refine isiT2 (b := true) (c := false) (.base (.bl b)) upd_same (by decide +kernel) (by decide +kernel) ?_
      walk_at "sx"
      refine isi_x (b := true) (.base (.bl b)) (by decide +kernel) ?_
      refine isi_x (b := true) (.base (.bl b)) (by decide +kernel) ?_
      walk_at "sx"
      exact k _ (e1.trans e2)
    | int n i =>
      simp only [tyn] at ty tx
      cases hx; cases hy
      refine isiT2 (b := false) (c := false) ty upd_same (by decide +kernel) (by decide +kernel) ?_
      walk_at "sx"
      refine ⟨sz_ok (by omega), fun p2 np2 => ?_⟩
      have e2 := Ex.new np2 (o := .tup [V.ty "bool", V.ty "str"])
      refine isiT2 (b := false) (c := false) (.base (.int i)) upd_same (by decide +kernel) (by decide +kernel) ?_
      walk_at "sx"
      refine isi_x (b := true) (.base (.int i)) (by decide +kernel) ?_
      walk_at "sx"
      refine isi_x (b := false) (.base (.int i)) (by decide +kernel) ?_
      walk_at "sx"
      exact k _ (e1.trans e2)
    | str n s =>
      simp only [tyn] at ty tx
      cases hx; cases hy
      refine isiT2 (b := false) (c := false) ty upd_same (by decide +kernel) (by decide +kernel) ?_
      walk_at "sx"
      refine ⟨sz_ok (by omega), fun p2 np2 => ?_⟩
      have e2 := Ex.new np2 (o := .tup [V.ty "bool", V.ty "str"])
      refine isiT2 (b := false) (c := true) (.base (.str s)) upd_same (by decide +kernel) (by decide +kernel) ?_
      walk_at "sx"
      refine isi_x (b := false) (.base (.str s)) (by decide +kernel) ?_
      refine isi_x (b := false) (.base (.str s)) (by decide +kernel) ?_
      walk_at "sx"
      exact k _ (e1.trans e2)
    | @lst n' ds hl h =>
      simp only [tyn] at ty tx
      obtain ⟨n2, en, rfl⟩ : ∃ n2, n' + 1 = n2 + 1 ∧ sp0 = spEq K n2 := by
        rcases hsp with q | ⟨n2, q1, q2⟩
        · omega
        · exact ⟨n2, q1, q2⟩
      obtain rfl : n' = n2 := by omega
      cases ex_d e1 _ _ hx with
      | lst hx1 hx2 =>
      cases ex_d e1 _ _ hy with
      | lst hy1 hy2 =>
      refine isiT2 (b := true) (c := false) ty upd_same (by decide +kernel) (by decide +kernel) ?_
      walk_at "sx"
      refine isi_x (b := true) tx (by decide +kernel) ?_
      refine isi_x (b := true) ty (by decide +kernel) ?_
      walk_at "sx"
      refine isi_x (b := false) tx (by decide +kernel) ?_
      refine isi_x (b := false) ty (by decide +kernel) ?_
      walk_at "sx"
      refine lenL hx1 ?_
      refine lenL hy1 ?_
      have lx := dp_len hx2
      have ly := dp_len hy2
      rw [lx, ly]
      walk_at "sx"
      refine ⟨_, _, ⟨rfl, rfl⟩, _, _, .inl ⟨hx1, hy1, fun D nD => ?_⟩⟩
      refine lc_zip (fun _ => true) (fun _ => V.bl true) hx1 hy1 (by omega) nD (by omega) (fun u v => rfl) (fun i u v _ _ => tyes) (fun i u v hu hv _ => ?_) (fun H2 e2 hD => ?_)
      · obtain ⟨d1, f1, g1⟩ := dp_at hx2 hu
        obtain ⟨d2, f2, g2⟩ := dp_at hy2 hv
        rw [f1] at f2
        cases f2
        refine ev_call (vs := [u, v]) (ea_cons (ev_var rfl) (ea_cons (ev_var rfl) ea_nil)) (fun H3 e3 Q3 q3 E3 => ?_)
        exact ⟨u, v, d1, rfl, ex_d e3 _ _ g1, ex_d e3 _ _ g2, h _ (List.mem_of_getElem? f1), q3⟩
      · rw [kept_const] at hD
        have e5 : List.replicate ds.length (V.bl true) = (List.replicate ds.length true).map V.bl := by rw [List.map_replicate]
        rw [lx, e5] at hD
        refine allL (.inl (.inl hD)) ?_
        rw [all_true]
        exact k _ (e1.trans e2)
    | @tup n' ds hl h =>
      simp only [tyn] at ty tx
      obtain ⟨n2, en, rfl⟩ : ∃ n2, n' + 1 = n2 + 1 ∧ sp0 = spEq K n2 := by
        rcases hsp with q | ⟨n2, q1, q2⟩
        · omega
        · exact ⟨n2, q1, q2⟩
      obtain rfl : n' = n2 := by omega
      cases ex_d e1 _ _ hx with
      | tup hx1 hx2 =>
      cases ex_d e1 _ _ hy with
      | tup hy1 hy2 =>
      refine isiT2 (b := false) (c := true) ty upd_same (by decide +kernel) (by decide +kernel) ?_
      walk_at "sx"
      refine isi_x (b := false) tx (by decide +kernel) ?_
      refine isi_x (b := false) ty (by decide +kernel) ?_
      walk_at "sx"
      refine isi_x (b := true) tx (by decide +kernel) ?_
      refine isi_x (b := true) ty (by decide +kernel) ?_
      walk_at "sx"
      refine lenT hx1 ?_
      refine lenT hy1 ?_
      have lx := dp_len hx2
      have ly := dp_len hy2
      rw [lx, ly]
      walk_at "sx"
      refine ⟨_, _, ⟨rfl, rfl⟩, _, _, .inr ⟨hx1, hy1, fun D nD => ?_⟩⟩
      refine lc_zipT (fun _ => true) (fun _ => V.bl true) hx1 hy1 (by omega) nD (by omega) (fun u v => rfl) (fun i u v _ _ => tyes) (fun i u v hu hv _ => ?_) (fun H2 e2 hD => ?_)
      · obtain ⟨d1, f1, g1⟩ := dp_at hx2 hu
        obtain ⟨d2, f2, g2⟩ := dp_at hy2 hv
        rw [f1] at f2
        cases f2
        refine ev_call (vs := [u, v]) (ea_cons (ev_var rfl) (ea_cons (ev_var rfl) ea_nil)) (fun H3 e3 Q3 q3 E3 => ?_)
        exact ⟨u, v, d1, rfl, ex_d e3 _ _ g1, ex_d e3 _ _ g2, h _ (List.mem_of_getElem? f1), q3⟩
      · rw [kept_const] at hD
        have e5 : List.replicate ds.length (V.bl true) = (List.replicate ds.length true).map V.bl := by rw [List.map_replicate]
        rw [lx, e5] at hD
        refine allL (.inl (.inl hD)) ?_
        rw [all_true]
        exact k _ (e1.trans e2)
theorem ok_law_equal (T : Txt K mg) : FnOk P w K mg base CX0 3 T.f_law_equal T.fd_law_equal ["_law_found", "_law_due"] (spEq K 2) :=
  eq_step T (.inr ⟨1, rfl, rfl⟩) (eq_step T (.inr ⟨0, rfl, rfl⟩) (eq_step T (n := 0) (.inl rfl) (eq_base T)))
end
section
variable {P : Program} {w : World} {K : PySem.W.Frag} {mg : Str → Option Value} {base : Heap}
/-- drawn lengths -/
def spRow : Sp := fun vs H Q _ => ∃ (b : Addr) (m t c : Nat), vs = [.ref b, .int m, .int t] ∧ 1 ≤ m ∧ m ≤ 40 ∧ t ≤ 300 ∧ BagAt H b c ∧ c ≤ 900000 ∧
  ∀ r (L : List Nat) H', H r = none → Fx b H H' → BagAt H' b (c + 1 + 3 * t) → H' r = some (.lst ((nz L).map V.int)) → L.length = t → Ok m 0 L → Q (.ref r) H'
theorem fx_none {b x : Addr} {H H' : Hp} (h : Fx b H H') (n : H' x = none) (nb : x ≠ b) : H x = none := by
  cases e : H x with
  | none => rfl
  | some o => rw [h _ _ nb e] at n; cases n
def JP (H : Hp) (b : Addr) (m t c : Nat) (wy : Int) (i : Nat) (σ' : L2.St) (H' : Hp) : Prop := ∃ l3 l6 l7 f L, σ' = [some (.ref b), some (.int m), some (.int t), l3, some (.ref f), some (.int wy), l6, l7] ∧
  H f = none ∧ f ≠ b ∧ Fx b H H' ∧ BagAt H' b (c + 1 + 3 * i) ∧ H' f = some (.lst ((nz L).map V.int)) ∧ L.length = i ∧ Ok m 0 L
theorem ok_law_row (T : Txt K mg) : FnOk P w K mg base CX0 2 T.f_law_row T.fd_law_row ["_law_bag_here", "_law_wide", "_law_long"] spRow := by
  refine T.F_law_row.ok sc_law_row (fun vs H Q E h => ?_) (fun cdv A outer s H vs Q E hr h => ?_)
  · obtain ⟨b, m, t, c, rfl, _⟩ := h
    rfl
  · obtain ⟨b, m, t, c, rfl, h1, h2, h3, hB, hc, k⟩ := h
    apply Exists.intro
    apply And.intro
    · apply pss_cons
      · exact (ps_par (i := 4) (j := 5) (by rfl) sc_law_row.nd rfl rfl (by decide) rfl rfl (pa_cons (pe_lst pa_nil) (pa_cons (pe_call (ok_law_draw T) (hr.mono (by decide)) (by rfl) T.m_law_draw T.F_law_draw.kp T.b_law_draw .nil pass0 (pa_cons (pv 0) (pa_cons pe_int pa_nil))) pa_nil)) (by rfl))
      apply pss_cons
      · apply ps_for PassesOwn.never rfl
        · exact (pi_range1 (by rfl) T.n_range (pa_cons (pv 2) pa_nil))
        · exact (pg_name (i := 3) sc_law_row.nd rfl (.inl rfl))
        · apply pss_cons
          · exact (ps_set (i := 6) sc_law_row.nd rfl (.inl rfl) (pe_callB (call_min2 rfl) (by rfl) T.n_min (by decide +kernel) (pa_cons (pv 1) (pa_cons (pe_op op_add pe_int (pe_ifExp (pt_cmpR (k_neD (K := K) rfl hr.units) (pv 4) (pe_lst pa_nil) (by rfl)) (pe_ix (k_ix_list (K := K) rfl) (pv 4) (pe_un un_neg pe_int) (fun _ _ => rfl)) pe_int)) pa_nil))))
          apply pss_cons
          · exact (ps_set (i := 7) sc_law_row.nd rfl (.inl rfl) (pe_lst (pa_cons (pe_op op_add pe_int (pe_call (ok_law_draw T) (hr.mono (by decide)) (by rfl) T.m_law_draw T.F_law_draw.kp T.b_law_draw .nil pass0 (pa_cons (pv 0) (pa_cons (pv 6) pa_nil)))) (pa_cons (pv 6) (pa_cons (pe_callB (call_max2 rfl) (by rfl) T.n_max (by decide +kernel) (pa_cons pe_int (pa_cons (pe_op op_sub (pv 6) (pe_call (ok_law_draw T) (hr.mono (by decide)) (by rfl) T.m_law_draw T.F_law_draw.kp T.b_law_draw .nil pass0 (pa_cons (pv 0) (pa_cons pe_int pa_nil)))) pa_nil))) (pa_cons (pe_op op_add pe_int (pe_call (ok_law_draw T) (hr.mono (by decide)) (by rfl) T.m_law_draw T.F_law_draw.kp T.b_law_draw .nil pass0 (pa_cons (pv 0) (pa_cons (pe_callB (call_min2 rfl) (by rfl) T.n_min (by decide +kernel) (pa_cons (pv 6) (pa_cons pe_int pa_nil))) pa_nil)))) pa_nil))))))
          apply pss_one
          exact (ps_expr (k_bm (K := K) rfl (pe_bm PySem.F.plainAttrs_list PySem.F.slot_list_append PySem.F.type_list_append mt_append (pv 4) (pa_cons (pe_ix (k_ix_list (K := K) rfl) (pv 7) (pv 5) (fun _ _ => rfl)) pa_nil))))
      apply pss_one
      exact (ps_ret (pv 4))
    walk_at "sx"
    refine ⟨sz_ok (by omega), fun f nf => ?_⟩
    have e1 := Ex.new nf (o := .lst [])
    have nfb : f ≠ b := hB.apart nf
    refine ⟨b, 4, c, rfl, by omega, big_of (by omega), hB.ex e1, by omega, fun wy H1 w0 w1 f1 b1 => ?_⟩
    refine ⟨_, _, ⟨rfl, rfl⟩, ?_⟩
    refine ⟨by omega, by omega, ?_⟩
    rw [Int.toNat_natCast]
    refine lg_rng (JP H b m t c wy) ⟨none, none, none, f, [], rfl, nf, nfb, (Fx.of e1).trans f1, b1, f1 _ _ nfb upd_same, rfl, trivial⟩ (fun i σ' H' hi hP => ?_) (fun σ' H' hP => ?_)
    · obtain ⟨l3, l6, l7, f, L, rfl, nf, nfb, fx, hb, hf, hL, hok⟩ := hP
      simp only [x_gn]
      refine seq_asg (fun v H' => ∃ tp : Nat, v = .int tp ∧ tp = min (L.getLast?.getD 0 + 1) m ∧ Fx b H H' ∧ BagAt H' b (c + 1 + 3 * i) ∧ H' f = some (.lst ((nz L).map V.int))) (fun R hR => ?_) (fun v H2 hC => ?_)
      · walk_at "sx"
        refine ⟨sz_ok (by omega), fun z nz1 => ?_⟩
        have ez := Ex.new nz1 (o := .lst [])
        refine neInts (ms := []) (.inl (.inl (ez _ _ hf))) (.inl (.inl upd_same)) ?_
        walk_at "sx"
        by_cases q : L = []
        · subst q
          rw [decide_eq_true (show nz [] = [] from rfl)]
          rw [if_neg (by decide)]
          refine ⟨_, _, ⟨rfl, rfl⟩, ?_⟩
          refine hR _ _ ⟨1, ?_, by simp; omega, fx.trans (Fx.of ez), hb.ex ez, ez _ _ hf⟩
          congr 1
          split <;> omega
        · have qn : nz L ≠ [] := fun e => q (by unfold nz at e; exact List.map_eq_nil_iff.mp e)
          rw [decide_eq_false qn]
          rw [if_pos (by rfl)]
          have hl : L[L.length - 1]? = some (L.getLast?.getD 0) := by
            rw [List.getLast?_eq_getElem?]
            have : L.length - 1 < L.length := by have := List.length_pos_iff.mpr q; omega
            rw [List.getElem?_eq_getElem this]
            rfl
          refine ixL (.inl (.inl (ez _ _ hf))) (atI_last (by rw [List.length_map, nz_len]; exact nz_at hl)) ?_
          walk_at "sx"
          refine ⟨_, _, ⟨rfl, rfl⟩, ?_⟩
          refine hR _ _ ⟨min (L.getLast?.getD 0 + 1) m, ?_, rfl, fx.trans (Fx.of ez), hb.ex ez, ez _ _ hf⟩
          congr 1
          split <;> omega
      obtain ⟨tp, rfl, htp, fx2, hb2, hf2⟩ := hC
      have tp1 : 1 ≤ tp ∧ tp ≤ 40 := by omega
      walk_at "sx"
      refine ⟨b, _, _, rfl, by omega, big_of (by omega), hb2, by omega, fun r1 H3 r10 r11 f3 b3 => ?_⟩
      walk_at "sx"
      refine ⟨b, _, _, rfl, by omega, big_of (by omega), b3, by omega, fun r2 H4 r20 r21 f4 b4 => ?_⟩
      walk_at "sx"
      refine ⟨_, _, ⟨rfl, rfl⟩, _, _, ⟨rfl, rfl⟩, ?_⟩
      refine ⟨b, _, _, rfl, by split <;> omega, big_of (by split <;> omega), b4, by omega, fun r3 H5 r30 r31 f5 b5 => ?_⟩
      have p3 : r3 < tp := by split at r31 <;> omega
      walk_at "sx"
      refine ⟨sz_ok (by omega), fun z nz1 => ?_⟩
      have mx : (if (tp : Int) - r2 > 1 then (tp : Int) - r2 else 1) ≥ 1 ∧ (if (tp : Int) - r2 > 1 then (tp : Int) - r2 else 1) ≤ tp := by split <;> omega
      have ez := Ex.new nz1 (o := .lst [V.int (1 + r1), V.int tp, V.int (if (tp : Int) - r2 > 1 then (tp : Int) - r2 else 1), V.int (1 + r3)])
      have F5 := ((f3.trans f4).trans f5).trans (Fx.of ez)
      have hf5 := F5 _ _ nfb hf2
      refine ⟨tyL hf5, ?_⟩
      obtain ⟨y, hy, ea⟩ := pickI (ns := [1 + r1, (tp : Int), (if (tp : Int) - r2 > 1 then (tp : Int) - r2 else 1), 1 + r3]) w0 w1
      have py : 1 ≤ y ∧ y ≤ tp := by
        simp only [List.mem_cons, List.mem_nil_iff, or_false] at hy
        rcases hy with rfl | rfl | rfl | rfl <;> omega
      refine ixL (.inl (.inl upd_same)) ea ?_
      refine appL hf5 (BC.sz_lt (by rw [List.length_map, nz_len]; omega)) ?_
      obtain ⟨yn, rfl⟩ : ∃ yn : Nat, y = yn := ⟨y.toNat, by rw [Int.toNat_of_nonneg (by omega)]⟩
      have er : (nz L).map V.int ++ [V.int (yn : Int)] = (nz (L ++ [yn])).map V.int := by unfold nz; rw [List.map_append, List.map_append]; rfl
      rw [er]
      exact ⟨_, _, _, f, L ++ [yn], rfl, nf, nfb, (fx2.trans F5).mut nf, ((b5.ex ez).off nfb).mono (by omega), upd_same, by rw [List.length_append, List.length_singleton, hL], ok_snoc hok (by omega) (by omega)⟩
    · obtain ⟨l3, l6, l7, f, L, rfl, nf, nfb, fx, hb, hf, hL, hok⟩ := hP
      walk_at "sx"
      exact k f L _ nf fx hb hf hL hok
/-- the law's own table -/
def TabN (H H' : Hp) (r : Addr) (m n : Nat) : Prop := ∃ ps : List Addr, H' r = some (.lst (ps.map V.ref)) ∧ ps.length = n + 1 ∧ ∀ t p, ps[t]? = some p → H p = none ∧ H' p = some (.lst ((wrow m t).map V.int))
def TabB (H : Hp) (b r : Addr) (m n : Nat) : Prop := r ≠ b ∧ ∃ ps : List Addr, H r = some (.lst (ps.map V.ref)) ∧ ps.length = n + 1 ∧ ∀ t p, ps[t]? = some p → p ≠ b ∧ H p = some (.lst ((wrow m t).map V.int))
theorem TabN.b {H H' : Hp} {r b : Addr} {m n : Nat} {o : HO} (h : TabN H H' r m n) (nr : H r = none) (hb : H b = some o) : TabB H' b r m n := by
  obtain ⟨ps, h1, h2, h3⟩ := h
  have nb : ∀ {x : Addr}, H x = none → x ≠ b := fun n e => by subst e; rw [hb] at n; cases n
  exact ⟨nb nr, ps, h1, h2, fun t p e => ⟨nb (h3 t p e).1, (h3 t p e).2⟩⟩
theorem TabB.fx {H H' : Hp} {r b : Addr} {m n : Nat} (h : TabB H b r m n) (f : Fx b H H') : TabB H' b r m n := by
  obtain ⟨h0, ps, h1, h2, h3⟩ := h
  exact ⟨h0, ps, f _ _ h0 h1, h2, fun t p e => ⟨(h3 t p e).1, f _ _ (h3 t p e).1 (h3 t p e).2⟩⟩
theorem TabB.tab {H : Hp} {r b : Addr} {m n : Nat} (h : TabB H b r m n) : Tab H r m n := by
  obtain ⟨_, ps, h1, h2, h3⟩ := h
  exact ⟨ps, h1, h2, fun t p e => (h3 t p e).2⟩
def spTable : Sp := fun vs H Q _ => ∃ (m n : Nat), vs = [.int m, .int n] ∧ 1 ≤ m ∧ m ≤ 40 ∧ n ≤ 300 ∧ ∀ r H', H r = none → Ex H H' → TabN H H' r m n → Q (.ref r) H'
def JTa (H : Hp) (m n : Nat) (i : Nat) (σ' : L2.St) (H' : Hp) : Prop := ∃ r l3 l4 ps, σ' = [some (.int m), some (.int n), some (.ref r), l3, l4] ∧ H r = none ∧ Ex H H' ∧ H' r = some (.lst ((ps : List Addr).map V.ref)) ∧ ps.length = i + 1 ∧
  ∀ t p, ps[t]? = some p → p ≠ r ∧ H p = none ∧ H' p = some (.lst ((wrow m t).map V.int))
theorem ok_law_table (T : Txt K mg) : FnOk P w K mg base CX0 1 T.f_law_table T.fd_law_table ["_law_wide", "_law_long"] spTable := by
  refine T.F_law_table.ok sc_law_table (fun vs H Q E h => ?_) (fun cdv A outer s H vs Q E hr h => ?_)
  · obtain ⟨m, n, rfl, _⟩ := h
    rfl
  · obtain ⟨m, n, rfl, h1, h2, h3, k⟩ := h
    apply Exists.intro
    apply And.intro
    · apply pss_cons
      · exact (ps_set (i := 2) sc_law_table.nd rfl (.inr rfl) (pe_lst (pa_cons (pe_op op_rep (pe_lst (pa_cons pe_int pa_nil)) (pe_op op_add (pv 0) pe_int)) pa_nil)))
      apply pss_cons
      · apply ps_for PassesOwn.never rfl
        · exact (pi_range1 (by rfl) T.n_range (pa_cons (pv 1) pa_nil))
        · exact (pg_name (i := 3) sc_law_table.nd rfl (.inl rfl))
        · apply pss_one
          exact (ps_expr (k_bm (K := K) rfl (pe_bm PySem.F.plainAttrs_list PySem.F.slot_list_append PySem.F.type_list_append mt_append (pv 2) (pa_cons (pe_lc (own := [("_law_size", 4)]) rfl sc_law_table.nd (pi_range1 (by rfl) T.n_range (pa_cons (pe_op op_add (pv 0) pe_int) pa_nil)) (blkOk_by (own := [("_law_size", 4)]) (N := ["_law_wide", "_law_long", "_law_found", "_law_turn", "_law_size"]) (sc := defScope s_law_table) (by decide +kernel)) (fun _ _ _ _ _ => by exact (pg_name (i := 4) sc_law_table.nd rfl (.inl rfl))) (fun _ _ _ _ _ => by exact pts_nil) (fun _ _ _ _ _ => by exact (pe_callB (k_sum (K := K) rfl rfl) (by rfl) T.n_sum (by decide +kernel) (pa_cons (pe_slice (k_sl_list (K := K) rfl) (pe_ix (k_ix_list (K := K) rfl) (pv 2) (pe_un un_neg pe_int) (fun _ _ => rfl)) (po_some pe_int) (po_some (pe_op op_add (pe_callB (call_min2 rfl) (by rfl) T.n_min (by decide +kernel) (pa_cons (pv 0) (pa_cons (pe_op op_add (pv 4) pe_int) pa_nil))) pe_int))) pa_nil)))) pa_nil))))
      apply pss_one
      exact (ps_ret (pv 2))
    walk_at "sx"
    refine ⟨sz_ok (by omega), fun z nz => ?_⟩
    have e1 := Ex.new nz (o := .lst [V.int 1])
    refine repL upd_same (by omega) (by omega) (sz_ok (by simp; omega)) fun p np => ?_
    have e2 := e1.trans (Ex.new np (o := .lst (List.replicate ((m : Int) + 1).toNat [V.int 1]).flatten))
    refine ⟨sz_ok (by omega), fun r nr => ?_⟩
    have e3 := e2.trans (Ex.new nr (o := .lst [V.ref p]))
    have npr : p ≠ r := ne_of_none upd_same nr
    walk_at "sx"
    refine ⟨by omega, by omega, ?_⟩
    rw [Int.toNat_natCast]
    refine lg_rng (JTa H m n) ⟨r, none, none, [p], rfl, fresh_back e2 nr, e3, upd_same, rfl, fun t q e => ?_⟩ (fun i σ' H' hi hP => ?_) (fun σ' H' hP => ?_)
    · have : t = 0 := by
        have := (List.getElem?_eq_some_iff.mp e).1
        simp at this
        omega
      subst this
      cases e
      refine ⟨npr, fresh_back e1 np, ?_⟩
      rw [upd_ne npr, upd_same, rep_one, wrow_zero, List.map_replicate]
      congr 3
    · obtain ⟨r, l3, l4, ps, rfl, nr, eH, hr, hps, hrow⟩ := hP
      have hlast : ps[i]? = some ps[i] := List.getElem?_eq_getElem (by omega)
      obtain ⟨nb, _, hb⟩ := hrow _ _ hlast
      generalize ps[i] = b at hlast nb hb
      walk_at "sx"
      refine ⟨tyL hr, by omega, by omega, fun D nD => ?_⟩
      have en : ((m : Int) + 1).toNat = m + 1 := by omega
      rw [en]
      refine lc_rng (lo := 0) (n := m + 1) (fun _ => true) (fun l => V.int (W m (i + 1) l)) nD (by omega) (fun u => rfl) (fun i hi => tyes) (fun j hj _ => ?_) (fun H2 e2 hD => ?_)
      · intro H3 e3 R hR
        walk_at "sx"
        refine ⟨_, rfl, ?_⟩
        refine ixL (.inl (.inl (e3 _ _ hr))) (show atI (ps.map V.ref) (-1) = some (.ref b) from atI_last (by rw [List.length_map, hps, Nat.add_sub_cancel, List.getElem?_map, hlast]; rfl)) ?_
        refine ⟨_, rfl, _, rfl, _, _, rfl, rfl, _, _, ⟨rfl, rfl⟩, ?_⟩
        have ex : (if (0 : Int) + (j : Int) + 1 < (m : Int) then (0 : Int) + (j : Int) + 1 else (m : Int)) + 1 = ((min (j + 1) m + 1 : Nat) : Int) := by
          split <;> omega
        rw [ex]
        refine slL (.inl (.inl (e3 _ _ hb))) fun z nz => ?_
        have ez := Ex.new nz (o := .lst (cutV ((wrow m i).map V.int) (some 1) (some ((min (j + 1) m + 1 : Nat) : Int))))
        refine sumL (.inl (.inl (by rw [upd_same, cut_from m _ _ (by omega) (by omega)]))) ?_
        rw [Nat.add_sub_cancel, wrow_sum m _ _ (by omega), ← W_succ]
        exact hR _ ez
      · rw [kept_all] at hD
        have hr2 := e2 _ _ hr
        have hD' : H2 D = some (.lst ((wrow m (i + 1)).map V.int)) := by
          rw [hD]
          unfold wrow
          rw [List.map_map]
          rfl
        have nDr : D ≠ r := Ne.symm (ne_of_none hr nD)
        refine appL hr2 (BC.sz_lt (by rw [List.length_map]; omega)) ?_
        have er : ps.map V.ref ++ [V.ref D] = (ps ++ [D]).map V.ref := by rw [List.map_append]; rfl
        rw [er]
        refine ⟨r, _, _, ps ++ [D], rfl, nr, (eH.trans e2).mut nr, upd_same, by rw [List.length_append, List.length_singleton, hps], ?_⟩
        have pu := Tab.push hr2 hps (fun t p e => ⟨(hrow t p e).1, e2 _ _ (hrow t p e).2.2⟩) nDr hD'
        have pn : ∀ t q, (ps ++ [D])[t]? = some q → H q = none := fun t q e => by
          rcases List.mem_append.mp (List.mem_of_getElem? e) with h | h
          · obtain ⟨j, hj, e⟩ := List.getElem_of_mem h
            exact (hrow j q (List.getElem?_eq_some_iff.mpr ⟨hj, e⟩)).2.1
          · rw [List.mem_singleton.mp h]; exact fresh_back eH nD
        exact fun t q e => ⟨(pu t q e).1, pn t q e, (pu t q e).2⟩
    · obtain ⟨r, l3, l4, ps, rfl, nr, eH, hr, hps, hrow⟩ := hP
      walk_at "sx"
      exact k r _ nr eH ⟨ps, hr, hps, fun t p q => (hrow t p q).2⟩
def spIndex (K : PySem.W.Frag) : Sp := fun vs H Q _ => ∃ (m n : Nat) (wy a : Addr) (L : List Nat), vs = [.ref wy, .ref a] ∧ 1 ≤ m ∧ m ≤ 40 ∧ Tab H wy m n ∧ SqL K H a ((nz L).map V.int) ∧ L.length ≤ n ∧ L.length ≤ 300 ∧ Ok m 0 L ∧ ∀ H', Ex H H' → Q (.int (rank m L)) H'
def JX (H1 : Hp) (m : Nat) (a : Addr) (L : List Nat) (wy : Addr) (i : Nat) (σ' : L2.St) (H' : Hp) : Prop := ∃ l4 l5, σ' = [some (.ref wy), some (.ref a), some (.int (rank m L - rank m (L.drop i))), l4, l5] ∧ Ex H1 H'
theorem ok_law_index (T : Txt K mg) : FnOk P w K mg base CX0 1 T.f_law_index T.fd_law_index ["_law_table_here", "_law_row_here"] (spIndex K) := by
  refine T.F_law_index.ok sc_law_index (fun vs H Q E h => ?_) (fun cdv A outer s H vs Q E hr h => ?_)
  · obtain ⟨m, n, wy, a, L, rfl, _⟩ := h
    rfl
  · obtain ⟨m, n, wy, a, L, rfl, h1, h2, hT, hA, hln, hl, hL, k⟩ := h
    apply Exists.intro
    apply And.intro
    · apply pss_cons
      · exact (ps_set (i := 2) sc_law_index.nd rfl (.inl rfl) pe_int)
      apply pss_cons
      · apply ps_for PassesOwn.never rfl
        · exact (k_pi_enum (K := K) rfl (by rfl) T.n_enumerate (pa_cons (pv 1) pa_nil))
        · exact (k_tup (K := K) (n := 2) rfl rfl (pgs_cons (pg_name (i := 3) sc_law_index.nd rfl (.inl rfl)) (pgs_cons (pg_name (i := 4) sc_law_index.nd rfl (.inl rfl)) pgs_nil)))
        · apply pss_one
          exact (ps_set (i := 2) sc_law_index.nd rfl (.inl rfl) (pe_op op_add (pv 2) (pe_callB (k_sum (K := K) rfl rfl) (by rfl) T.n_sum (by decide +kernel) (pa_cons (pe_slice (k_sl_list (K := K) rfl) (pe_ix (k_ix_list (K := K) rfl) (pv 0) (pe_op op_sub (pe_op op_sub (pe_callB (k_len (K := K) rfl) (by rfl) T.n_len PySem.boot_len (pa_cons (pv 1) pa_nil)) pe_int) (pv 3)) (fun _ _ => rfl)) (po_some pe_int) (po_some (pv 4))) pa_nil))))
      apply pss_one
      exact (ps_ret (pv 2))
    have hin := ok_at hL
    walk_at "sx"
    refine ⟨_, hA, ?_⟩
    refine lg_enum (xs := (nz L).map V.int) (JX H m a L wy) ⟨none, none, by rw [List.drop_zero, Int.sub_self], Ex.refl _⟩ (fun i σ' H' hi hP => by obtain ⟨_, _, _, e⟩ := hP; exact ex_l e hA)
      (fun i x σ' H' T hx hP nT => ?_) (fun σ' H' hP => ?_)
    · obtain ⟨l4, l5, rfl, e⟩ := hP
      obtain ⟨x, hx', rfl⟩ := at_nz hx
      have hi : i < L.length := (List.getElem?_eq_some_iff.mp hx').1
      have hr := rank_drop (m := m) hx'
      obtain ⟨x1, x2⟩ := hin x (List.mem_of_getElem? hx')
      refine g_two upd_same ?_
      walk_at "sx"
      have e4 := e.trans (Ex.new nT (o := .tup [V.int i, V.int x]))
      refine lenL (ex_l e4 hA) ?_
      rw [List.length_map, nz_len]
      obtain ⟨p, xs, g1, g2, g3, _⟩ := (hT.ex e4).get (show L.length - i - 1 ≤ n by omega)
      walk_at "sx"
      refine ixL (.inl (.inl g1)) (atI_n (by omega) g2) ?_
      refine slL (.inl (.inl g3)) fun z nz => ?_
      have e5 := Ex.new nz (o := .lst (cutV ((wrow m (L.length - i - 1)).map V.int) (some 1) (some (x : Int))))
      refine sumL (.inl (.inl (by rw [upd_same, cut_from m _ x x1 (by omega)]))) ?_
      rw [wrow_sum m _ _ (by omega)]
      walk_at "sx"
      have hz : rank m L - rank m (L.drop i) + S m (L.length - i - 1) (x - 1) = rank m L - rank m (L.drop (i + 1)) := by omega
      rw [hz]
      exact ⟨_, _, rfl, e4.trans e5⟩
    · obtain ⟨l4, l5, rfl, e⟩ := hP
      walk_at "sx"
      rw [List.length_map, nz_len, List.drop_length]
      rw [show rank m L - rank m [] = rank m L from Int.sub_zero _]
      exact k _ e
end
end LW

set_option Elab.async false
set_option linter.all false
set_option maxRecDepth 100000
set_option maxHeartbeats 4000000
namespace LW
open PySem PySem.Spec PyProof.Rows L2 BC Evl TR LN

local macro_rules | `(tactic| walk_at "sx") => `(tactic| try simp only [x_seq, x_next, x_brk, x_cnt, x_nev, x_ret, x_retN, x_drop, x_ifS, x_asg, x_gn, x_gsub, x_par, x_par3, x_aug, x_for, x_lc, x_rng1, x_rng2, x_rng3, x_ilist, x_itup, x_ienum, x_izip, x_izipA, x_istr, x_var, x_c, x_op, x_un, x_test, x_b, x_chain, x_and, x_or, x_not, x_andV, x_orV, x_notV, x_ife, x_nil, x_cons, x_lst, x_tup, x_cb, x_call, x_callK, x_bm, x_bm0, x_tru, x_sl, x_nopart, x_part, x_revL, x_I0, x_I, x_U, x_ip, x_ipC, x_eqI, x_neI, x_eqB, x_neB, x_eqS, x_neS, x_isB, x_isNB, x_lrg, x_rg1, x_rg2,
  L2.start, List.map_cons, List.map_nil, List.length_cons, List.length_nil, Nat.reduceAdd, Nat.reduceSub, Nat.sub_self, Nat.zero_add, List.replicate, List.replicate_succ, List.replicate_zero, List.append_nil, List.cons_append, List.nil_append, List.set_cons_zero, List.set_cons_succ, List.getElem?_cons_zero, List.getElem?_cons_succ, Option.some.injEq, V.int.injEq, V.bl.injEq, V.ref.injEq, V.str.injEq, List.cons.injEq, and_true, true_and, exists_eq_left', exists_eq_left, exists_and_left, exists_eq, if_true, if_false, ite_true, ite_false, Bool.true_eq_false, Bool.false_eq_true, reduceIte, reduceCtorEq, Bool.not_true, Bool.not_false, decide_true, decide_false, decide_eq_true_eq, Bool.and_true, Bool.true_and, Bool.and_self, Bool.and_false, Bool.false_and, Bool.or_self, Bool.or_false, Bool.false_or, Bool.or_true, Bool.true_or, eq_self])

section
variable {P : Program} {w : World} {K : PySem.W.Frag} {mg : Str → Option Value} {base : Heap}
theorem W_big {m t : Nat} (h2 : m ≤ 40) (h3 : t ≤ 200) : W m t 0 ≤ BIG := by
  refine Int.le_trans (W_le t 0) ?_
  have a : m ^ t ≤ 40 ^ 200 := Nat.le_trans (Nat.pow_le_pow_left h2 t) (Nat.pow_le_pow_right (by omega) h3)
  have b : ((m ^ t : Nat) : Int) ≤ ((40 ^ 200 : Nat) : Int) := Int.ofNat_le.mpr a
  rw [Int.natCast_pow] at b
  exact Int.le_trans b (by decide +kernel)
theorem nz_small {m : Nat} {L : List Nat} (hm : m ≤ 40) (h : Ok m 0 L) : ∀ n ∈ nz L, n.natAbs < 10 ^ 12 := fun n hn => by
  unfold nz at hn
  obtain ⟨x, hx, rfl⟩ := List.mem_map.mp hn
  have := ok_at h x hx
  omega
theorem nz_rep (t : Nat) : nz (List.replicate t 1) = List.replicate t 1 := by unfold nz; rw [List.map_replicate]; rfl
theorem nz_getD (L : List Nat) (i : Nat) : (nz L).getD i 0 = ((L.getD i 0 : Nat) : Int) := by
  unfold nz
  rw [List.getD_eq_getElem?_getD, List.getD_eq_getElem?_getD, List.getElem?_map]
  cases L[i]? <;> rfl
theorem sh_two (x y : Int) : Sh 2 (.list [.int x, .int y]) := .lst (by simp) (fun d hd => by
  simp only [List.mem_cons, List.mem_nil_iff, or_false] at hd
  rcases hd with rfl | rfl <;> exact .int 1 _)
def spHolds : Sp := fun vs H Q _ => ∃ (b : Addr) (m t c : Nat), vs = [.ref b, .int m, .int t] ∧ 1 ≤ m ∧ m ≤ 40 ∧ t ≤ 200 ∧ BagAt H b c ∧ c ≤ 800000 ∧ ∀ H', Fx b H H' → BagAt H' b (c + 1 + 3 * t + 2) → Q (.bl true) H'
def JH (H1 : Hp) (b : Addr) (m t c : Nat) (tb ra : Addr) (bs : Str) (i : Nat) (σ' : L2.St) (H' : Hp) : Prop := ∃ l3 l7 l9 l10, σ' = [some (.ref b), some (.int m), some (.int t), l3, some (.ref tb), some (.ref ra), some (.int (W m t 0)), l7, some (.str bs), l9, l10] ∧ Fx b H1 H' ∧ BagAt H' b (c + i)
theorem ok_law_holds (T : Txt K mg) : FnG P w K mg base CX0 5 T.f_law_holds T.fd_law_holds ["_law_bag_here", "_law_wide", "_law_long"] spHolds := by
  refine fun_okN T.F_law_holds sc_law_holds (fun vs H Q E h => ?_) (fun cdv A outer s H vs Q E hG hr h => ?_)
  · obtain ⟨b, m, t, c, rfl, _⟩ := h
    rfl
  · obtain ⟨b, m, t, c, rfl, h1, h2, h3, hB, hc, k⟩ := h
    apply Exists.intro
    apply And.intro
    · apply pss_cons
      · exact (ps_par (i := 4) (j := 5) (by rfl) sc_law_holds.nd rfl rfl (by decide) rfl rfl (pa_cons (pe_call (ok_law_table T) (hr.mono (by decide)) (by rfl) T.m_law_table T.F_law_table.kp T.b_law_table .nil pass0 (pa_cons (pv 1) (pa_cons (pv 2) pa_nil))) (pa_cons (pe_call (ok_law_row T) (hr.mono (by decide)) (by rfl) T.m_law_row T.F_law_row.kp T.b_law_row .nil pass0 (pa_cons (pv 0) (pa_cons (pv 1) (pa_cons (pv 2) pa_nil)))) pa_nil)) (by rfl))
      apply pss_cons
      · exact (ps_par3 (i := 6) (j := 7) (l := 8) (by rfl) sc_law_holds.nd rfl rfl rfl (by decide) (by decide) (by decide) rfl rfl rfl (pa_cons (pe_ix (k_ix_list (K := K) rfl) (pe_ix (k_ix_list (K := K) rfl) (pv 4) (pv 2) (fun _ _ => rfl)) pe_int (fun _ _ => rfl)) (pa_cons (pe_call (ok_law_index T) (hr.mono (by decide)) (by rfl) T.m_law_index T.F_law_index.kp T.b_law_index .nil pass0 (pa_cons (pv 4) (pa_cons (pv 5) pa_nil))) (pa_cons (pe_callB (k_repr (K := K) rfl hG hr.units) (by rfl) T.n_repr (by decide +kernel) (pa_cons (pv 5) pa_nil)) pa_nil))) (by rfl))
      apply pss_cons
      · apply ps_if
        · exact (pt_not (pt_val (pe_call (ok_law_equal T) (hr.mono (by decide)) (by rfl) T.m_law_equal T.F_law_equal.kp T.b_law_equal .nil pass0 (pa_cons (pe_lst (pa_cons (pe_call (ok_count_lengths T) (hr.mono (by decide)) (by rfl) T.m_count_lengths T.F_count_lengths.kp T.b_count_lengths .nil pass0 (pa_cons (pv 1) (pa_cons (pv 2) pa_nil))) (pa_cons (pe_call (ok_lengths_rank T) (hr.mono (by decide)) (by rfl) T.m_lengths_rank T.F_lengths_rank.kp T.b_lengths_rank .nil pass0 (pa_cons (pv 1) (pa_cons (pv 5) pa_nil))) pa_nil))) (pa_cons (pe_lst (pa_cons (pv 6) (pa_cons (pv 7) pa_nil))) pa_nil)))))
        · apply pss_one
          exact (ps_ret pe_bl)
        · exact pss_nil
      apply pss_cons
      · apply ps_if
        · exact (PW.pt (pw_or (pt_cmpR (k_neD (K := K) rfl hr.units) (pe_call (ok_nth_lengths T) (hr.mono (by decide)) (by rfl) T.m_nth_lengths T.F_nth_lengths.kp T.b_nth_lengths .nil pass0 (pa_cons (pv 1) (pa_cons (pv 2) (pa_cons (pv 7) pa_nil)))) (pv 5) (by rfl)) (pw_or1 (pt_cmpR op_ne (pe_callB (k_repr (K := K) rfl hG hr.units) (by rfl) T.n_repr (by decide +kernel) (pa_cons (pv 5) pa_nil)) (pv 8) (by rfl)))))
        · apply pss_one
          exact (ps_ret pe_bl)
        · exact pss_nil
      apply pss_cons
      · apply ps_if
        · exact (pt_cmpR (k_neD (K := K) rfl hr.units) (pe_call (ok_nth_lengths T) (hr.mono (by decide)) (by rfl) T.m_nth_lengths T.F_nth_lengths.kp T.b_nth_lengths .nil pass0 (pa_cons (pv 1) (pa_cons (pv 2) (pa_cons pe_int pa_nil)))) (pe_op op_rep (pe_lst (pa_cons pe_int pa_nil)) (pv 2)) (by rfl))
        · apply pss_one
          exact (ps_ret pe_bl)
        · exact pss_nil
      apply pss_cons
      · apply ps_if
        · exact (pt_cmpR (k_neD (K := K) rfl hr.units) (pe_call (ok_nth_lengths T) (hr.mono (by decide)) (by rfl) T.m_nth_lengths T.F_nth_lengths.kp T.b_nth_lengths .nil pass0 (pa_cons (pv 1) (pa_cons (pv 2) (pa_cons (pe_op op_sub (pv 6) pe_int) pa_nil)))) (pe_lc (own := [("_law_at", 10)]) rfl sc_law_holds.nd (pi_range1 (by rfl) T.n_range (pa_cons (pv 2) pa_nil)) (blkOk_by (own := [("_law_at", 10)]) (N := ["_law_bag_here", "_law_wide", "_law_long", "_law_turn", "_law_table_here", "_law_row_here", "_law_whole", "_law_number", "_law_before", "_law_told", "_law_at"]) (sc := defScope s_law_holds) (by decide +kernel)) (fun _ _ _ _ _ => by exact (pg_name (i := 10) sc_law_holds.nd rfl (.inl rfl))) (fun _ _ _ _ _ => by exact pts_nil) (fun _ _ _ _ _ => by exact (pe_callB (call_min2 rfl) (by rfl) T.n_min (by decide +kernel) (pa_cons (pv 1) (pa_cons (pe_op op_add (pv 10) pe_int) pa_nil))))) (by rfl))
        · apply pss_one
          exact (ps_ret pe_bl)
        · exact pss_nil
      apply pss_cons
      · apply ps_for PassesOwn.never rfl
        · exact (pi_range1 (by rfl) T.n_range (pa_cons pe_int pa_nil))
        · exact (pg_name (i := 3) sc_law_holds.nd rfl (.inl rfl))
        · apply pss_cons
          · exact (ps_set (i := 7) sc_law_holds.nd rfl (.inl rfl) (pe_call (ok_law_draw T) (hr.mono (by decide)) (by rfl) T.m_law_draw T.F_law_draw.kp T.b_law_draw .nil pass0 (pa_cons (pv 0) (pa_cons (pv 6) pa_nil))))
          apply pss_cons
          · exact (ps_set (i := 9) sc_law_holds.nd rfl (.inl rfl) (pe_call (ok_nth_lengths T) (hr.mono (by decide)) (by rfl) T.m_nth_lengths T.F_nth_lengths.kp T.b_nth_lengths .nil pass0 (pa_cons (pv 1) (pa_cons (pv 2) (pa_cons (pv 7) pa_nil)))))
          apply pss_cons
          · apply ps_if
            · exact (PW.pt (pw_or (pt_cmpR op_ne (pe_call (ok_law_index T) (hr.mono (by decide)) (by rfl) T.m_law_index T.F_law_index.kp T.b_law_index .nil pass0 (pa_cons (pv 4) (pa_cons (pv 9) pa_nil))) (pv 7) (by rfl)) (pw_or1 (pt_not (pt_val (pe_call (ok_law_equal T) (hr.mono (by decide)) (by rfl) T.m_law_equal T.F_law_equal.kp T.b_law_equal .nil pass0 (pa_cons (pe_call (ok_lengths_rank T) (hr.mono (by decide)) (by rfl) T.m_lengths_rank T.F_lengths_rank.kp T.b_lengths_rank .nil pass0 (pa_cons (pv 1) (pa_cons (pv 9) pa_nil))) (pa_cons (pv 7) pa_nil))))))))
            · apply pss_one
              exact (ps_ret pe_bl)
            · exact pss_nil
          apply pss_one
          apply ps_if
          · exact (PW.pt (pw_and (pt_cmpR op_lt (pe_op op_add (pv 7) pe_int) (pv 6) (by rfl)) (pw_and1 (pt_cmpR (op_leL (K := K) rfl hr.units0) (pe_call (ok_nth_lengths T) (hr.mono (by decide)) (by rfl) T.m_nth_lengths T.F_nth_lengths.kp T.b_nth_lengths .nil pass0 (pa_cons (pv 1) (pa_cons (pv 2) (pa_cons (pe_op op_add (pv 7) pe_int) pa_nil)))) (pv 9) (by rfl)))))
          · apply pss_one
            exact (ps_ret pe_bl)
          · exact pss_nil
      apply pss_one
      exact (ps_ret pe_bl)
    have wp := W_pos h1 t 0
    walk_at "sx"
    refine ⟨m, t, rfl, h1, h2, by omega, fun tb H1 nt e1 hT => ?_⟩
    refine ⟨b, m, t, c, rfl, h1, h2, by omega, hB.ex e1, by omega, fun ra L H2 nr f2 b2 hr hlen hok => ?_⟩
    refine ⟨_, _, ⟨rfl, rfl⟩, ?_⟩
    have ntb : tb ≠ b := hB.apart nt
    have nrb : ra ≠ b := (hB.ex e1).apart nr
    have hTB : TabB H2 b tb m t := by
      obtain ⟨o, ho⟩ := hB.some
      exact (hT.b nt ho).fx f2
    have hT2 := hTB.tab
    have hsm := nz_small h2 hok
    have rk := rank_lt h1 hok
    rw [hlen] at rk
    obtain ⟨p0, xs0, g1, g2, g3, _⟩ := hT2.get (Nat.le_refl t)
    walk_at "sx"
    refine ixL (.inl (.inl g1)) (atI_n rfl g2) ?_
    refine ixL (.inl (.inl g3)) (atI_n (j := 0) rfl (wr_at (by omega))) ?_
    refine ⟨m, t, tb, ra, L, rfl, h1, h2, hT2, .inl (.inl hr), by omega, by omega, hok, fun H3 e3 => ?_⟩
    have hr3 := e3 _ _ hr
    refine reprInts (.inl (.inl hr3)) hsm (by rw [nz_len]; omega) ?_
    refine ⟨_, _, _, ⟨rfl, rfl, rfl⟩, ?_⟩
    walk_at "sx"
    refine ⟨m, t, rfl, h1, h2, h3, fun H4 e4 => ?_⟩
    have hr4 := e4 _ _ hr3
    refine ⟨m, ra, L, rfl, h1, h2, .inl (.inl hr4), by omega, hok, fun H5 e5 => ?_⟩
    refine ⟨sz_ok (by omega), fun z1 nz1 => ⟨sz_ok (by omega), fun z2 nz2 => ?_⟩⟩
    have x1 := Ex.new nz1 (o := .lst [V.int (W m t 0), V.int (rank m L)])
    have x2 := Ex.new nz2 (o := .lst [V.int (W m t 0), V.int (rank m L)])
    refine ⟨.ref z1, .ref z2, .list [.int (W m t 0), .int (rank m L)], rfl, .lst (.inl (.inl (x2 _ _ upd_same))) (.cons (.int _) (.cons (.int _) .nil)), .lst (.inl (.inl upd_same)) (.cons (.int _) (.cons (.int _) .nil)), sh_two _ _, fun H6 e6 => ?_⟩
    walk_at "sx"
    have hr6 := e6 _ _ (x2 _ _ (x1 _ _ (e5 _ _ hr4)))
    refine ⟨m, t, L, rfl, h1, h2, h3, hok, hlen, fun n1 H7 nn1 e7 hn1 => ?_⟩
    have hr7 := e7 _ _ hr6
    refine neInts (.inl (.inl hn1)) (.inl (.inl hr7)) ?_
    walk_at "sx"
    refine reprInts (.inl (.inl hr7)) hsm (by rw [nz_len]; omega) ?_
    walk_at "sx"
    refine ⟨m, t, List.replicate t 1, by rw [first_rank], h1, h2, h3, first_ok h1 t 0, List.length_replicate, fun n2 H8 nn2 e8 hn2 => ?_⟩
    refine ⟨sz_ok (by omega), fun z3 nz3 => ?_⟩
    have x3 := Ex.new nz3 (o := .lst [V.int 1])
    refine repL upd_same (by omega) (by omega) (sz_ok (by simp; omega)) fun z4 nz4 => ?_
    have x4 := Ex.new nz4 (o := .lst (List.replicate (t : Int).toNat [V.int 1]).flatten)
    refine neInts (ms := List.replicate t 1) (.inl (.inl (x4 _ _ (x3 _ _ hn2)))) (.inl (.inl (by rw [upd_same, rep_one, List.map_replicate]; rfl))) ?_
    rw [nz_rep]
    walk_at "sx"
    refine ⟨m, t, up m t 0, by rw [up_rank h1], h1, h2, h3, up_ok h1 t 0, up_len m t 0, fun n3 H9 nn3 e9 hn3 => ?_⟩
    refine ⟨by omega, by omega, fun D nD => ?_⟩
    rw [Int.toNat_natCast]
    refine lc_rng (lo := 0) (n := t) (fun _ => true) (fun l => V.int ((min m (l + 1) : Nat) : Int)) nD (by omega) (fun u => rfl) (fun i hi => tyes) (fun j hj _ => ?_) (fun H10 e10 hD => ?_)
    · intro Hz ez R hR
      walk_at "sx"
      refine ⟨_, rfl, _, rfl, _, _, rfl, rfl, _, _, ⟨rfl, rfl⟩, ?_⟩
      have ex : (if (0 : Int) + (j : Int) + 1 < (m : Int) then (0 : Int) + (j : Int) + 1 else (m : Int)) = ((min m (j + 1) : Nat) : Int) := by
        split <;> omega
      rw [ex]
      exact hR _ (Ex.refl _)
    rw [kept_all] at hD
    have hup : (List.range t).map (fun l => V.int ((min m (l + 1) : Nat) : Int)) = (nz (up m t 0)).map V.int := by
      rw [up_eq m h1]
      unfold nz
      rw [List.map_map, List.map_map]
      rfl
    rw [hup] at hD
    refine neInts (.inl (.inl (e10 _ _ hn3))) (.inl (.inl hD)) ?_
    walk_at "sx"
    have E := ((((((((((e3.trans e4).trans e5).trans x1).trans x2).trans e6).trans e7).trans e8).trans x3).trans x4).trans e9).trans e10
    have b10 := b2.ex E
    refine ⟨by omega, by omega, ?_⟩
    refine lg_rng (JH H10 b m t (c + 1 + 3 * t) tb ra (shInts (nz L))) ⟨none, _, none, none, rfl, Fx.refl _ _, b10⟩ (fun i σ' H' hi hP => ?_) (fun σ' H' hP => ?_)
    · obtain ⟨l3, l7, l9, l10, rfl, f, bb⟩ := hP
      have hT' := (hTB.fx (Fx.of E)).fx f
      walk_at "sx"
      refine ⟨b, _, _, rfl, by omega, W_big h2 h3, bb, by omega, fun r Ha r0 r1 fa ba => ?_⟩
      obtain ⟨L1, o1, o2, rfl⟩ := find h1 t r0 r1
      have hTa := (hT'.fx fa).tab
      walk_at "sx"
      refine ⟨m, t, L1, rfl, h1, h2, h3, o1, o2, fun to Hb nto eb hto => ?_⟩
      have hTb := hTa.ex eb
      refine ⟨m, t, tb, to, L1, rfl, h1, h2, hTb, .inl (.inl hto), by omega, by omega, o1, fun Hc ec => ?_⟩
      walk_at "sx"
      refine ⟨m, to, L1, rfl, h1, h2, .inl (.inl (ec _ _ hto)), by omega, o1, fun Hd ed => ?_⟩
      refine ⟨_, _, .int (rank m L1), rfl, .int _, .int _, .int _ _, fun He ee => ?_⟩
      walk_at "sx"
      have hto2 := ee _ _ (ed _ _ (ec _ _ hto))
      have Eb := ((eb.trans ec).trans ed).trans ee
      by_cases q : rank m L1 + 1 < W m t 0
      · simp only [q]
        walk_at "sx"
        obtain ⟨L2, q1, q2, q3⟩ := find h1 t (r := rank m L1 + 1) (by omega) q
        refine ⟨m, t, L2, by rw [q3], h1, h2, h3, q1, q2, fun nx Hf nnx ef hnx => ?_⟩
        obtain ⟨kk, k1, k2, k3⟩ := rank_mono h1 o1 q1 (by omega) (by omega)
        refine leL_false (.inl (.inl hnx)) (.inl (.inl (ef _ _ hto2))) (k := kk) (by rw [nz_len]; omega) (by rw [nz_len, nz_len]; omega) (fun i hi => by rw [nz_getD, nz_getD, k2 i hi]) (by rw [nz_getD, nz_getD]; omega) ?_
        walk_at "sx"
        exact ⟨_, _, _, _, rfl, (f.trans fa).trans (Fx.of (Eb.trans ef)), (ba.ex (Eb.trans ef)).mono (by omega)⟩
      · simp only [q]
        walk_at "sx"
        exact ⟨_, _, _, _, rfl, (f.trans fa).trans (Fx.of Eb), (ba.ex Eb).mono (by omega)⟩
    · obtain ⟨l3, l7, l9, l10, rfl, f, bb⟩ := hP
      walk_at "sx"
      exact k _ (((Fx.of e1).trans f2).trans ((Fx.of E).trans f)) bb
end
end LW

set_option Elab.async false
set_option linter.all false
set_option maxRecDepth 100000
set_option maxHeartbeats 4000000
namespace LW
open PySem PySem.Spec PyProof.Rows L2 BC Evl TR LN

local macro_rules | `(tactic| walk_at "sx") => `(tactic| try simp only [x_seq, x_next, x_brk, x_cnt, x_nev, x_ret, x_retN, x_drop, x_ifS, x_asg, x_gn, x_gsub, x_par, x_par3, x_aug, x_for, x_lc, x_rng1, x_rng2, x_rng3, x_ilist, x_itup, x_ienum, x_izip, x_izipA, x_istr, x_var, x_c, x_op, x_un, x_test, x_b, x_chain, x_and, x_or, x_not, x_andV, x_orV, x_notV, x_ife, x_nil, x_cons, x_lst, x_tup, x_cb, x_call, x_callK, x_bm, x_bm0, x_tru, x_sl, x_nopart, x_part, x_revL, x_I0, x_I, x_U, x_ip, x_ipC, x_eqI, x_neI, x_eqB, x_neB, x_eqS, x_neS, x_isB, x_isNB, x_lrg, x_rg1, x_rg2,
  L2.start, List.map_cons, List.map_nil, List.length_cons, List.length_nil, Nat.reduceAdd, Nat.reduceSub, Nat.sub_self, Nat.zero_add, List.replicate, List.replicate_succ, List.replicate_zero, List.append_nil, List.cons_append, List.nil_append, List.set_cons_zero, List.set_cons_succ, List.getElem?_cons_zero, List.getElem?_cons_succ, Option.some.injEq, V.int.injEq, V.bl.injEq, V.ref.injEq, V.str.injEq, List.cons.injEq, and_true, true_and, exists_eq_left', exists_eq_left, exists_and_left, exists_eq, if_true, if_false, ite_true, ite_false, Bool.true_eq_false, Bool.false_eq_true, reduceIte, reduceCtorEq, Bool.not_true, Bool.not_false, decide_true, decide_false, decide_eq_true_eq, Bool.and_true, Bool.true_and, Bool.and_self, Bool.and_false, Bool.false_and, Bool.or_self, Bool.or_false, Bool.false_or, Bool.or_true, Bool.true_or, eq_self])

section
variable {P : Program} {w : World} {K : PySem.W.Frag} {mg : Str → Option Value} {base : Heap}
/-- the numbers for 40 pages -/
def catTab : List Int := [1, 1, 2, 5, 14, 42, 132, 429, 1430, 4862, 16796, 58786, 208012, 742900, 2674440, 9694845, 35357670, 129644790, 477638700, 1767263190]
def cat (t : Nat) : Int := catTab.getD t 0
theorem cat_rows : (List.range 20).all (fun t => decide ((rowsOf 40 t).getD 0 0 = cat t)) = true := by decide +kernel
theorem W_cat {t : Nat} (h : t < 20) : W 40 t 0 = cat t := by
  have a := of_decide_eq_true (List.all_eq_true.mp cat_rows t (List.mem_range.mpr h))
  rw [rowsOf_eq, List.getD_eq_getElem?_getD, wrow_at (by omega)] at a
  exact a
theorem cat_conv : (List.range 19).all (fun l => decide (cat (l + 1) = ((List.range (l + 1)).map fun o => cat o * cat (l - o)).sum)) = true := by decide +kernel
theorem conv {l : Nat} (h : l < 19) : cat (l + 1) = ((List.range (l + 1)).map fun o => cat o * cat (l - o)).sum := of_decide_eq_true (List.all_eq_true.mp cat_conv l (List.mem_range.mpr h))
theorem cat_all : (List.range 20).all (fun t => decide ((cat t).natAbs < 2 ^ 40)) = true := by decide +kernel
theorem cat_lt {t : Nat} (h : t < 20) : (cat t).natAbs < 2 ^ 40 := of_decide_eq_true (List.all_eq_true.mp cat_all t (List.mem_range.mpr h))
def spLaw (K : PySem.W.Frag) : Sp := fun vs H Q _ => ∃ (a : Addr) (ns : List Int), vs = [.ref a] ∧ SqL K H a (ns.map V.int) ∧ ns.length ≤ 63 ∧ ∀ H', Q (.bl true) H'
def JO (H1 : Hp) (a : Addr) (i : Nat) (σ' : L2.St) (H' : Hp) : Prop := ∃ l1 l2 l3 l4 l5 l6 l7 l8, σ' = [some (.ref a), l1, l2, l3, l4, l5, l6, l7, l8] ∧ Ex H1 H'
def JV (H1 : Hp) (a p : Addr) (i : Nat) (σ' : L2.St) (H' : Hp) : Prop := ∃ l2 l3 l4 l5 l6 l7 l8, σ' = [some (.ref a), some (.ref p), l2, l3, l4, l5, l6, l7, l8] ∧ Ex H1 H'
theorem ok_law (T : Txt K mg) : FnG P w K mg base CX0 6 T.f_law T.fd_law ["_law_script"] (spLaw K) := by
  refine fun_okN T.F_law sc_law (fun vs H Q E h => ?_) (fun cdv A outer s H vs Q E hG hr h => ?_)
  · obtain ⟨a, ns, rfl, _⟩ := h
    rfl
  · obtain ⟨a, ns, rfl, hA, hn, k⟩ := h
    apply Exists.intro
    apply And.intro
    · apply pss_cons
      · apply ps_for PassesOwn.never rfl
        · exact (k_pi_enum (K := K) rfl (by rfl) T.n_enumerate (pa_cons (pe_op op_cat (pe_slice (k_sl_list (K := K) rfl) (pv 0) po_none (po_some pe_int)) (pe_lst (pa_cons pe_int pa_nil))) pa_nil))
        · exact (k_tup (K := K) (n := 2) rfl rfl (pgs_cons (pg_name (i := 3) sc_law.nd rfl (.inl rfl)) (pgs_cons (pg_name (i := 4) sc_law.nd rfl (.inl rfl)) pgs_nil)))
        · apply pss_cons
          · exact (ps_set (i := 5) sc_law.nd rfl (.inl rfl) (pe_call (ok_law_bag T) (hr.mono (by decide)) (by rfl) T.m_law_bag T.F_law_bag.kp T.b_law_bag .nil pass0 (pa_cons (pv 4) pa_nil)))
          apply pss_cons
          · exact (ps_set (i := 6) sc_law.nd rfl (.inl rfl) (pe_cmpR op_eq (pv 3) (pe_callB (k_len (K := K) rfl) (by rfl) T.n_len PySem.boot_len (pa_cons (pe_slice (k_sl_list (K := K) rfl) (pv 0) po_none (po_some pe_int)) pa_nil)) (by rfl)))
          apply pss_cons
          · exact (ps_set (i := 7) sc_law.nd rfl (.inl rfl) (pe_ix (k_ix_list (K := K) rfl) (pe_lst (pa_cons (pe_op op_add pe_int (pe_call (ok_law_draw T) (hr.mono (by decide)) (by rfl) T.m_law_draw T.F_law_draw.kp T.b_law_draw .nil pass0 (pa_cons (pv 5) (pa_cons pe_int pa_nil)))) (pa_cons pe_int pa_nil))) (pe_call (ok_law_draw T) (hr.mono (by decide)) (by rfl) T.m_law_draw T.F_law_draw.kp T.b_law_draw .nil pass0 (pa_cons (pv 5) (pa_cons pe_int pa_nil))) (fun _ _ => rfl)))
          apply pss_cons
          · exact (ps_set (i := 2) sc_law.nd rfl (.inr rfl) (pe_call (ok_law_draw T) (hr.mono (by decide)) (by rfl) T.m_law_draw T.F_law_draw.kp T.b_law_draw .nil pass0 (pa_cons (pv 5) (pa_cons (pe_ifExp (pt_val (pv 6)) pe_int (pe_ix (k_ix_list (K := K) rfl) (pe_lst (pa_cons pe_int (pa_cons pe_int pa_nil))) (pe_callTy call_int1 (by rfl) T.n_int (by decide +kernel) (pa_cons (pe_cmpR op_gt (pv 3) pe_int (by rfl)) pa_nil)) (fun _ _ => rfl))) pa_nil))))
          apply pss_one
          apply ps_if
          · exact (pt_not (pt_val (pe_callG (ok_law_holds T) hG (hr.mono (by decide)) (by rfl) T.m_law_holds T.F_law_holds.kp T.b_law_holds .nil pass0 (pa_cons (pv 5) (pa_cons (pv 7) (pa_cons (pv 2) pa_nil))))))
          · apply pss_one
            exact (ps_ret pe_bl)
          · exact pss_nil
      apply pss_cons
      · exact (ps_set (i := 1) sc_law.nd rfl (.inr rfl) (pe_lc (own := [("_law_long", 2)]) rfl sc_law.nd (pi_range1 (by rfl) T.n_range (pa_cons pe_int pa_nil)) (blkOk_by (own := [("_law_long", 2)]) (N := ["_law_script", "_law_numbers", "_law_long", "_law_k", "_law_cell", "_law_bag_here", "_law_is_last", "_law_wide", "_law_one"]) (sc := defScope s_law) (by decide +kernel)) (fun _ _ _ _ _ => by exact (pg_name (i := 2) sc_law.nd rfl (.inl rfl))) (fun _ _ _ _ _ => by exact pts_nil) (fun _ _ _ _ _ => by exact (pe_call (ok_count_lengths T) (hr.mono (by decide)) (by rfl) T.m_count_lengths T.F_count_lengths.kp T.b_count_lengths .nil pass0 (pa_cons pe_int (pa_cons (pv 2) pa_nil))))))
      apply pss_cons
      · apply ps_for PassesOwn.never rfl
        · exact (pi_range1 (by rfl) T.n_range (pa_cons pe_int pa_nil))
        · exact (pg_name (i := 2) sc_law.nd rfl (.inr rfl))
        · apply pss_one
          apply ps_if
          · exact (pt_cmpR op_ne (pe_ix (k_ix_list (K := K) rfl) (pv 1) (pe_op op_add (pv 2) pe_int) (fun _ _ => rfl)) (pe_callB (k_sum (K := K) rfl rfl) (by rfl) T.n_sum (by decide +kernel) (pa_cons (pe_lc (own := [("_law_one", 8)]) rfl sc_law.nd (pi_range1 (by rfl) T.n_range (pa_cons (pe_op op_add (pv 2) pe_int) pa_nil)) (blkOk_by (own := [("_law_one", 8)]) (N := ["_law_script", "_law_numbers", "_law_long", "_law_k", "_law_cell", "_law_bag_here", "_law_is_last", "_law_wide", "_law_one"]) (sc := defScope s_law) (by decide +kernel)) (fun _ _ _ _ _ => by exact (pg_name (i := 8) sc_law.nd rfl (.inl rfl))) (fun _ _ _ _ _ => by exact pts_nil) (fun _ _ _ _ _ => by exact (pe_op op_mulX (pe_ix (k_ix_list (K := K) rfl) (pv 1) (pv 8) (fun _ _ => rfl)) (pe_ix (k_ix_list (K := K) rfl) (pv 1) (pe_op op_sub (pv 2) (pv 8)) (fun _ _ => rfl))))) pa_nil)) (by rfl))
          · apply pss_one
            exact (ps_ret pe_bl)
          · exact pss_nil
      apply pss_one
      exact (ps_ret pe_bl)
    walk_at "sx"
    refine slL hA fun c1 n1 => ⟨sz_ok (by omega), fun c2 n2 => ?_⟩
    have x1 : Ex H (upd H c1 (.lst (cutV (ns.map V.int) none (some 4)))) := Ex.new n1
    have x2 := Ex.new n2 (o := .lst [V.int 0])
    have hl4 : (cutV (ns.map V.int) none (some 4)).length ≤ 63 := Nat.le_trans (cutV_len _ _ _) (by rw [List.length_map]; exact hn)
    refine catL (x2 _ _ upd_same) upd_same (sz_ok (by rw [List.length_cons, List.length_nil]; omega)) fun L nL => ?_
    walk_at "sx"
    refine ⟨_, .inl (.inl upd_same), ?_⟩
    have x3 := (x1.trans x2).trans (Ex.new nL (o := .lst (cutV (ns.map V.int) none (some 4) ++ [V.int 0])))
    generalize hH1 : (upd (upd (upd H c1 (.lst (cutV (ns.map V.int) none (some 4)))) c2 (.lst [V.int 0])) L (.lst (cutV (ns.map V.int) none (some 4) ++ [V.int 0]))) = H1 at x3 ⊢
    have hL : H1 L = some (.lst (cutV (ns.map V.int) none (some 4) ++ [V.int 0])) := by rw [← hH1]; exact upd_same
    have hA1 : SqL K H1 a (ns.map V.int) := ex_l x3 hA
    refine lg_enum (xs := cutV (ns.map V.int) none (some 4) ++ [V.int 0]) (JO H1 a) ⟨none, none, none, none, none, none, none, none, rfl, Ex.refl H1⟩ (fun i σ' H' hi hP => by obtain ⟨_, _, _, _, _, _, _, _, _, e⟩ := hP; exact .inl (.inl (e _ _ hL)))
      (fun i x σ' H' T hx hP nT => ?_) (fun σ' H' hP => ?_)
    · obtain ⟨l1, l2, l3, l4, l5, l6, l7, l8, rfl, e⟩ := hP
      obtain ⟨n, rfl⟩ : ∃ n, x = .int n := by
        have := List.mem_of_getElem? hx
        rcases List.mem_append.mp this with h | h
        · obtain ⟨n, _, e⟩ := List.mem_map.mp (cutV_mem h)
          exact ⟨n, e.symm⟩
        · exact ⟨0, List.mem_singleton.mp h⟩
      refine g_two upd_same ?_
      simp only [List.set_cons_zero, List.set_cons_succ]
      refine seq_asg (fun v H2 => ∃ b, v = .ref b ∧ H' b = none ∧ Ex H' H2 ∧ BagAt H2 b 0) (fun R hR => ?_) (fun v H2 hC => ?_)
      · walk_at "sx"
        refine ⟨n, rfl, fun b H2 nb e2 hb => ?_⟩
        exact hR _ _ ⟨b, rfl, fresh_back (Ex.new nT) nb, (Ex.new nT).trans e2, hb⟩
      obtain ⟨b, rfl, nb, e2, hb⟩ := hC
      have e3 := e.trans e2
      refine seq_asg (fun v H4 => ∃ bb, v = .bl bb ∧ Ex H2 H4) (fun R hR => ?_) (fun v H4 hC => ?_)
      · walk_at "sx"
        refine slL (ex_l e3 hA1) fun z nz => ?_
        refine lenL (.inl (.inl upd_same)) ?_
        exact ⟨rfl, hR _ _ ⟨_, rfl, Ex.new nz⟩⟩
      obtain ⟨bb, rfl, e4⟩ := hC
      have hb4 := hb.ex e4
      refine seq_asg (fun v H5 => ∃ m : Nat, v = .int m ∧ 1 ≤ m ∧ m ≤ 40 ∧ Fx b H4 H5 ∧ BagAt H5 b 2) (fun R hR => ?_) (fun v H5 hC => ?_)
      · walk_at "sx"
        refine ⟨b, _, _, rfl, by omega, big_of (by omega), hb4, by omega, fun r1 H5 r10 r11 f5 b5 => ?_⟩
        walk_at "sx"
        refine ⟨sz_ok (by omega), fun z1 nz1 => ?_⟩
        have w1 := Ex.new nz1 (o := .lst [V.int (1 + r1), V.int 40])
        refine ⟨b, _, _, rfl, by omega, big_of (by omega), b5.ex w1, by omega, fun r2 H6 r20 r21 f6 b6 => ?_⟩
        obtain ⟨m', hm', em⟩ := pickI (ns := [1 + r1, 40]) r20 r21
        refine ixL (.inl (.inl (f6 _ _ (b5.apart nz1) upd_same))) em ?_
        simp only [List.mem_cons, List.mem_nil_iff, or_false] at hm'
        exact hR _ _ ⟨m'.toNat, by rw [Int.toNat_of_nonneg (by omega)], by omega, by omega, (f5.trans (Fx.of w1)).trans f6, b6⟩
      obtain ⟨m, rfl, hm1, hm2, f5, b5⟩ := hC
      refine seq_asg (fun v H6 => ∃ t : Nat, v = .int t ∧ t ≤ 200 ∧ Fx b H5 H6 ∧ BagAt H6 b 3) (fun R hR => ?_) (fun v H6 hC => ?_)
      · have dr : ∀ (q : Int) (Hx : Hp), 0 < q → q ≤ 201 → Fx b H5 Hx → BagAt Hx b 2 → spDraw [V.ref b, V.int q] Hx R E0 := fun q Hx q0 q1 f b2 => by
          refine ⟨b, _, _, rfl, q0, big_of (by omega), b2, by omega, fun r Hy r0 r1 fy by' => ?_⟩
          exact hR _ _ ⟨r.toNat, by rw [Int.toNat_of_nonneg r0], by omega, f.trans fy, by'⟩
        walk_at "sx"
        cases bb
        · rw [if_neg (by decide)]
          refine ⟨sz_ok (by omega), fun z1 nz1 => .inr ?_⟩
          have w1 := Ex.new nz1 (o := .lst [V.int 201, V.int 61])
          by_cases q : 0 < (i : Int)
          · rw [if_pos q]
            exact ixL (.inl (.inl upd_same)) (atI_n (j := 1) rfl rfl) (dr 61 _ (by omega) (by omega) (Fx.of w1) (b5.ex w1))
          · rw [if_neg q]
            exact ixL (.inl (.inl upd_same)) (atI_n (j := 0) rfl rfl) (dr 201 _ (by omega) (by omega) (Fx.of w1) (b5.ex w1))
        · rw [if_pos (by rfl)]
          exact dr 5 _ (by omega) (by omega) (Fx.refl _ _) b5
      obtain ⟨t, rfl, ht, f6, b6⟩ := hC
      walk_at "sx"
      refine ⟨b, m, t, _, rfl, hm1, hm2, ht, b6, by omega, fun H7 f7 b7 => ?_⟩
      walk_at "sx"
      exact ⟨_, _, _, _, _, _, _, _, rfl, e.trans ((((((Fx.of e2).trans (Fx.of e4)).trans f5).trans f6).trans f7).ex nb)⟩
    · obtain ⟨l1, l2, l3, l4, l5, l6, l7, l8, rfl, e⟩ := hP
      walk_at "sx"
      refine ⟨by omega, by omega, fun D nD => ?_⟩
      refine lc_rng (lo := 0) (n := 20) (fun _ => true) (fun i => V.int (W 40 i 0)) nD (by omega) (fun u => rfl) (fun i hi => tyes) (fun i hi _ => ?_) (fun H2 e2 hD => ?_)
      · rw [show (0 : Int) + i = (i : Int) by omega]
        exact ev_call (vs := [.int 40, .int i]) (ea_cons ev_c (ea_cons (ev_var rfl) ea_nil)) (fun H3 e3 Q3 q3 E3 => ⟨40, i, rfl, by omega, by omega, by omega, fun H4 e4 => q3 H4 e4⟩)
      rw [kept_all] at hD
      have hat : ∀ {j : Nat}, j < 20 → ((List.range 20).map fun i => V.int (W 40 i 0))[j]? = some (.int (cat j)) := fun {j} h => by
        rw [List.getElem?_map, List.getElem?_range h, ← W_cat h]
        rfl
      refine ⟨by omega, by omega, ?_⟩
      refine lg_rng (JV H2 a D) ⟨_, _, _, _, _, _, _, rfl, Ex.refl _⟩ (fun i σ' H' hi hP => ?_) (fun σ' H' hP => ?_)
      · obtain ⟨l2, l3, l4, l5, l6, l7, l8, rfl, e⟩ := hP
        have hD' := e _ _ hD
        have hi' : i < 19 := hi
        walk_at "sx"
        rw [show (0 : Int) + i = (i : Int) by omega]
        refine ixL (.inl (.inl hD')) (atI_n (j := i + 1) (by omega) (hat (by omega))) ?_
        refine ⟨by omega, by omega, fun D2 nD2 => ?_⟩
        have en : ((i : Int) + 1).toNat = i + 1 := by omega
        rw [en]
        refine lc_rng (lo := 0) (n := i + 1) (fun _ => true) (fun o => V.int (cat o * cat (i - o))) nD2 (by omega) (fun u => rfl) (fun i hi => tyes) (fun o ho _ => ?_) (fun H4 e4 hD2 => ?_)
        · rw [show (0 : Int) + o = (o : Int) by omega]
          refine ev_op (ev_op (ev_var rfl) (ev_var rfl) (rv_ixL (.inl (.inl hD')) (atI_n rfl (hat (by omega))))) (ev_op (ev_var rfl) (ev_op (ev_var rfl) (ev_var rfl) rv_I0) (rv_ixL (.inl (.inl hD')) (atI_n (j := i - o) (by omega) (hat (by omega))))) (rv_I ?_)
          exact .inr (wide_mul (cat_lt (by omega)) (cat_lt (by omega)) (by omega) (by omega) (by omega))
        rw [kept_all] at hD2
        have es : (List.range (i + 1)).map (fun o => V.int (cat o * cat (i - o))) = ((List.range (i + 1)).map fun o => cat o * cat (i - o)).map V.int := by rw [List.map_map]; rfl
        rw [es] at hD2
        refine sumL (.inl (.inl hD2)) ?_
        rw [← conv hi']
        walk_at "sx"
        exact ⟨_, _, _, _, _, _, _, rfl, e.trans e4⟩
      · obtain ⟨l2, l3, l4, l5, l6, l7, l8, rfl, e⟩ := hP
        walk_at "sx"
        exact k _
end
end LW

set_option Elab.async false
set_option linter.all false
set_option maxRecDepth 100000
set_option maxHeartbeats 4000000
namespace LW
open PySem PySem.Spec PyProof.Rows L2 BC Evl TR LN

theorem all_mk {l : PySem.W.OpenLaw} {w : World} {K : PySem.W.Frag} {h : Heap} {mg : Str → Option Value} {fa : Addr} (X : K.In h) (G : h.Ns mainGlobals mg) (hfa : mg "law" = some (.ref fa))
    {f0 : Addr} {od0 an0 : Option Addr} {sl0 : Array (Option Value)} {oc0 kV0 dc0 pm0 cd0 ct0 : Value}
    {f1 : Addr} {od1 an1 : Option Addr} {sl1 : Array (Option Value)} {oc1 kV1 dc1 pm1 cd1 ct1 : Value}
    {f2 : Addr} {od2 an2 : Option Addr} {sl2 : Array (Option Value)} {oc2 kV2 dc2 pm2 cd2 ct2 : Value}
    {f3 : Addr} {od3 an3 : Option Addr} {sl3 : Array (Option Value)} {oc3 kV3 dc3 pm3 cd3 ct3 : Value}
    {f4 : Addr} {od4 an4 : Option Addr} {sl4 : Array (Option Value)} {oc4 kV4 dc4 pm4 cd4 ct4 : Value}
    {f5 : Addr} {od5 an5 : Option Addr} {sl5 : Array (Option Value)} {oc5 kV5 dc5 pm5 cd5 ct5 : Value}
    {f6 : Addr} {od6 an6 : Option Addr} {sl6 : Array (Option Value)} {oc6 kV6 dc6 pm6 cd6 ct6 : Value}
    {f7 : Addr} {od7 an7 : Option Addr} {sl7 : Array (Option Value)} {oc7 kV7 dc7 pm7 cd7 ct7 : Value}
    {f8 : Addr} {od8 an8 : Option Addr} {sl8 : Array (Option Value)} {oc8 kV8 dc8 pm8 cd8 ct8 : Value}
    {f9 : Addr} {od9 an9 : Option Addr} {sl9 : Array (Option Value)} {oc9 kV9 dc9 pm9 cd9 ct9 : Value}
    {f10 : Addr} {od10 an10 : Option Addr} {sl10 : Array (Option Value)} {oc10 kV10 dc10 pm10 cd10 ct10 : Value}
    {f11 : Addr} {od11 an11 : Option Addr} {sl11 : Array (Option Value)} {oc11 kV11 dc11 pm11 cd11 ct11 : Value}
    {f12 : Addr} {od12 an12 : Option Addr} {sl12 : Array (Option Value)} {oc12 kV12 dc12 pm12 cd12 ct12 : Value}
    {f13 : Addr} {od13 an13 : Option Addr} {sl13 : Array (Option Value)} {oc13 kV13 dc13 pm13 cd13 ct13 : Value}
    {f14 : Addr} {od14 an14 : Option Addr} {sl14 : Array (Option Value)} {oc14 kV14 dc14 pm14 cd14 ct14 : Value}
    {f15 : Addr} {od15 an15 : Option Addr} {sl15 : Array (Option Value)} {oc15 kV15 dc15 pm15 cd15 ct15 : Value}
    {tt_MOST_PAGES : Tok}
    {tt_MOST_TIMES : Tok}
    {tt_MOST_VISITS : Tok}
    (a0 : PySem.W.nsIn K mainGlobals "is_integer" = some (some (.ref f0))) (l0 : K.lookup f0 = some ⟨oc0, od0, .func (PySem.W.fnOf "is_integer" "is_integer" (defArgs s_is_integer) (defBody s_is_integer) (defScope s_is_integer) .none kV0 dc0 pm0 an0 cd0 ct0), sl0⟩) (c0 : PySem.W.codeIn K cd0 "is_integer" = true) (k0 : PySem.W.keepIn K (.ref f0) = true)
    (a1 : PySem.W.nsIn K mainGlobals "check_number" = some (some (.ref f1))) (l1 : K.lookup f1 = some ⟨oc1, od1, .func (PySem.W.fnOf "check_number" "check_number" (defArgs s_check_number) (defBody s_check_number) (defScope s_check_number) .none kV1 dc1 pm1 an1 cd1 ct1), sl1⟩) (c1 : PySem.W.codeIn K cd1 "check_number" = true) (k1 : PySem.W.keepIn K (.ref f1) = true)
    (a2 : PySem.W.nsIn K mainGlobals "is_lengths" = some (some (.ref f2))) (l2 : K.lookup f2 = some ⟨oc2, od2, .func (PySem.W.fnOf "is_lengths" "is_lengths" (defArgs s_is_lengths) (defBody s_is_lengths) (defScope s_is_lengths) .none kV2 dc2 pm2 an2 cd2 ct2), sl2⟩) (c2 : PySem.W.codeIn K cd2 "is_lengths" = true) (k2 : PySem.W.keepIn K (.ref f2) = true)
    (a3 : PySem.W.nsIn K mainGlobals "check_lengths" = some (some (.ref f3))) (l3 : K.lookup f3 = some ⟨oc3, od3, .func (PySem.W.fnOf "check_lengths" "check_lengths" (defArgs s_check_lengths) (defBody s_check_lengths) (defScope s_check_lengths) .none kV3 dc3 pm3 an3 cd3 ct3), sl3⟩) (c3 : PySem.W.codeIn K cd3 "check_lengths" = true) (k3 : PySem.W.keepIn K (.ref f3) = true)
    (a4 : PySem.W.nsIn K mainGlobals "continuations" = some (some (.ref f4))) (l4 : K.lookup f4 = some ⟨oc4, od4, .func (PySem.W.fnOf "continuations" "continuations" (defArgs s_continuations) (defBody s_continuations) (defScope s_continuations) .none kV4 dc4 pm4 an4 cd4 ct4), sl4⟩) (c4 : PySem.W.codeIn K cd4 "continuations" = true) (k4 : PySem.W.keepIn K (.ref f4) = true)
    (a5 : PySem.W.nsIn K mainGlobals "count_lengths" = some (some (.ref f5))) (l5 : K.lookup f5 = some ⟨oc5, od5, .func (PySem.W.fnOf "count_lengths" "count_lengths" (defArgs s_count_lengths) (defBody s_count_lengths) (defScope s_count_lengths) .none kV5 dc5 pm5 an5 cd5 ct5), sl5⟩) (c5 : PySem.W.codeIn K cd5 "count_lengths" = true) (k5 : PySem.W.keepIn K (.ref f5) = true)
    (a6 : PySem.W.nsIn K mainGlobals "nth_lengths" = some (some (.ref f6))) (l6 : K.lookup f6 = some ⟨oc6, od6, .func (PySem.W.fnOf "nth_lengths" "nth_lengths" (defArgs s_nth_lengths) (defBody s_nth_lengths) (defScope s_nth_lengths) .none kV6 dc6 pm6 an6 cd6 ct6), sl6⟩) (c6 : PySem.W.codeIn K cd6 "nth_lengths" = true) (k6 : PySem.W.keepIn K (.ref f6) = true)
    (a7 : PySem.W.nsIn K mainGlobals "lengths_rank" = some (some (.ref f7))) (l7 : K.lookup f7 = some ⟨oc7, od7, .func (PySem.W.fnOf "lengths_rank" "lengths_rank" (defArgs s_lengths_rank) (defBody s_lengths_rank) (defScope s_lengths_rank) .none kV7 dc7 pm7 an7 cd7 ct7), sl7⟩) (c7 : PySem.W.codeIn K cd7 "lengths_rank" = true) (k7 : PySem.W.keepIn K (.ref f7) = true)
    (a8 : PySem.W.nsIn K mainGlobals "_law_bag" = some (some (.ref f8))) (l8 : K.lookup f8 = some ⟨oc8, od8, .func (PySem.W.fnOf "_law_bag" "_law_bag" (defArgs s_law_bag) (defBody s_law_bag) (defScope s_law_bag) .none kV8 dc8 pm8 an8 cd8 ct8), sl8⟩) (c8 : PySem.W.codeIn K cd8 "_law_bag" = true) (k8 : PySem.W.keepIn K (.ref f8) = true)
    (a9 : PySem.W.nsIn K mainGlobals "_law_draw" = some (some (.ref f9))) (l9 : K.lookup f9 = some ⟨oc9, od9, .func (PySem.W.fnOf "_law_draw" "_law_draw" (defArgs s_law_draw) (defBody s_law_draw) (defScope s_law_draw) .none kV9 dc9 pm9 an9 cd9 ct9), sl9⟩) (c9 : PySem.W.codeIn K cd9 "_law_draw" = true) (k9 : PySem.W.keepIn K (.ref f9) = true)
    (a10 : PySem.W.nsIn K mainGlobals "_law_equal" = some (some (.ref f10))) (l10 : K.lookup f10 = some ⟨oc10, od10, .func (PySem.W.fnOf "_law_equal" "_law_equal" (defArgs s_law_equal) (defBody s_law_equal) (defScope s_law_equal) .none kV10 dc10 pm10 an10 cd10 ct10), sl10⟩) (c10 : PySem.W.codeIn K cd10 "_law_equal" = true) (k10 : PySem.W.keepIn K (.ref f10) = true)
    (a11 : PySem.W.nsIn K mainGlobals "_law_row" = some (some (.ref f11))) (l11 : K.lookup f11 = some ⟨oc11, od11, .func (PySem.W.fnOf "_law_row" "_law_row" (defArgs s_law_row) (defBody s_law_row) (defScope s_law_row) .none kV11 dc11 pm11 an11 cd11 ct11), sl11⟩) (c11 : PySem.W.codeIn K cd11 "_law_row" = true) (k11 : PySem.W.keepIn K (.ref f11) = true)
    (a12 : PySem.W.nsIn K mainGlobals "_law_table" = some (some (.ref f12))) (l12 : K.lookup f12 = some ⟨oc12, od12, .func (PySem.W.fnOf "_law_table" "_law_table" (defArgs s_law_table) (defBody s_law_table) (defScope s_law_table) .none kV12 dc12 pm12 an12 cd12 ct12), sl12⟩) (c12 : PySem.W.codeIn K cd12 "_law_table" = true) (k12 : PySem.W.keepIn K (.ref f12) = true)
    (a13 : PySem.W.nsIn K mainGlobals "_law_index" = some (some (.ref f13))) (l13 : K.lookup f13 = some ⟨oc13, od13, .func (PySem.W.fnOf "_law_index" "_law_index" (defArgs s_law_index) (defBody s_law_index) (defScope s_law_index) .none kV13 dc13 pm13 an13 cd13 ct13), sl13⟩) (c13 : PySem.W.codeIn K cd13 "_law_index" = true) (k13 : PySem.W.keepIn K (.ref f13) = true)
    (a14 : PySem.W.nsIn K mainGlobals "_law_holds" = some (some (.ref f14))) (l14 : K.lookup f14 = some ⟨oc14, od14, .func (PySem.W.fnOf "_law_holds" "_law_holds" (defArgs s_law_holds) (defBody s_law_holds) (defScope s_law_holds) .none kV14 dc14 pm14 an14 cd14 ct14), sl14⟩) (c14 : PySem.W.codeIn K cd14 "_law_holds" = true) (k14 : PySem.W.keepIn K (.ref f14) = true)
    (a15 : PySem.W.nsIn K mainGlobals "law" = some (some (.ref f15))) (l15 : K.lookup f15 = some ⟨oc15, od15, .func (PySem.W.fnOf "law" "law" (defArgs s_law) (defBody s_law) (defScope s_law) .none kV15 dc15 pm15 an15 cd15 ct15), sl15⟩) (c15 : PySem.W.codeIn K cd15 "law" = true) (k15 : PySem.W.keepIn K (.ref f15) = true)
    (q_MOST_PAGES : PySem.W.nsIn K mainGlobals "MOST_PAGES" = some (some (.int 40 tt_MOST_PAGES)))
    (q_MOST_TIMES : PySem.W.nsIn K mainGlobals "MOST_TIMES" = some (some (.int 200 tt_MOST_TIMES)))
    (q_MOST_VISITS : PySem.W.nsIn K mainGlobals "MOST_VISITS" = some (some (.int 300 tt_MOST_VISITS)))
    (z_all : PySem.W.nsIn K mainGlobals "all" = some none)
    (z_bool : PySem.W.nsIn K mainGlobals "bool" = some none)
    (z_enumerate : PySem.W.nsIn K mainGlobals "enumerate" = some none)
    (z_int : PySem.W.nsIn K mainGlobals "int" = some none)
    (z_isinstance : PySem.W.nsIn K mainGlobals "isinstance" = some none)
    (z_len : PySem.W.nsIn K mainGlobals "len" = some none)
    (z_list : PySem.W.nsIn K mainGlobals "list" = some none)
    (z_max : PySem.W.nsIn K mainGlobals "max" = some none)
    (z_min : PySem.W.nsIn K mainGlobals "min" = some none)
    (z_range : PySem.W.nsIn K mainGlobals "range" = some none)
    (z_repr : PySem.W.nsIn K mainGlobals "repr" = some none)
    (z_str : PySem.W.nsIn K mainGlobals "str" = some none)
    (z_sum : PySem.W.nsIn K mainGlobals "sum" = some none)
    (z_tuple : PySem.W.nsIn K mainGlobals "tuple" = some none)
    (z_zip : PySem.W.nsIn K mainGlobals "zip" = some none) :
    ∃ fd : FuncData, (∀ (s : Shared) (v : Value), BindsTo s fd ⟨[v], []⟩ [("_law_script", v)]) ∧ ∀ base : Heap, K.In base → base.Ns mainGlobals mg → FnG l.prog w K mg base CX0 6 fa fd ["_law_script"] (spLaw K) := by
  have e := hfa.symm.trans (PySem.W.mg_of X G a15)
  cases e
  let T : Txt K mg := ⟨f0, _, fun_mk (st := s_is_integer) l0 c0 k0, PySem.W.mg_of X G a0, (fun_mk (st := s_is_integer) l0 c0 k0).binds fun _ _ _ _ _ _ us hl => match us, hl with | [_, _, _], _ => rfl,
    f1, _, fun_mk (st := s_check_number) l1 c1 k1, PySem.W.mg_of X G a1, (fun_mk (st := s_check_number) l1 c1 k1).binds fun _ _ _ _ _ _ us hl => match us, hl with | [_, _, _], _ => rfl,
    f2, _, fun_mk (st := s_is_lengths) l2 c2 k2, PySem.W.mg_of X G a2, (fun_mk (st := s_is_lengths) l2 c2 k2).binds fun _ _ _ _ _ _ us hl => match us, hl with | [_], _ => rfl,
    f3, _, fun_mk (st := s_check_lengths) l3 c3 k3, PySem.W.mg_of X G a3, (fun_mk (st := s_check_lengths) l3 c3 k3).binds fun _ _ _ _ _ _ us hl => match us, hl with | [_], _ => rfl,
    f4, _, fun_mk (st := s_continuations) l4 c4 k4, PySem.W.mg_of X G a4, (fun_mk (st := s_continuations) l4 c4 k4).binds fun _ _ _ _ _ _ us hl => match us, hl with | [_, _], _ => rfl,
    f5, _, fun_mk (st := s_count_lengths) l5 c5 k5, PySem.W.mg_of X G a5, (fun_mk (st := s_count_lengths) l5 c5 k5).binds fun _ _ _ _ _ _ us hl => match us, hl with | [_, _], _ => rfl,
    f6, _, fun_mk (st := s_nth_lengths) l6 c6 k6, PySem.W.mg_of X G a6, (fun_mk (st := s_nth_lengths) l6 c6 k6).binds fun _ _ _ _ _ _ us hl => match us, hl with | [_, _, _], _ => rfl,
    f7, _, fun_mk (st := s_lengths_rank) l7 c7 k7, PySem.W.mg_of X G a7, (fun_mk (st := s_lengths_rank) l7 c7 k7).binds fun _ _ _ _ _ _ us hl => match us, hl with | [_, _], _ => rfl,
    f8, _, fun_mk (st := s_law_bag) l8 c8 k8, PySem.W.mg_of X G a8, (fun_mk (st := s_law_bag) l8 c8 k8).binds fun _ _ _ _ _ _ us hl => match us, hl with | [_], _ => rfl,
    f9, _, fun_mk (st := s_law_draw) l9 c9 k9, PySem.W.mg_of X G a9, (fun_mk (st := s_law_draw) l9 c9 k9).binds fun _ _ _ _ _ _ us hl => match us, hl with | [_, _], _ => rfl,
    f10, _, fun_mk (st := s_law_equal) l10 c10 k10, PySem.W.mg_of X G a10, (fun_mk (st := s_law_equal) l10 c10 k10).binds fun _ _ _ _ _ _ us hl => match us, hl with | [_, _], _ => rfl,
    f11, _, fun_mk (st := s_law_row) l11 c11 k11, PySem.W.mg_of X G a11, (fun_mk (st := s_law_row) l11 c11 k11).binds fun _ _ _ _ _ _ us hl => match us, hl with | [_, _, _], _ => rfl,
    f12, _, fun_mk (st := s_law_table) l12 c12 k12, PySem.W.mg_of X G a12, (fun_mk (st := s_law_table) l12 c12 k12).binds fun _ _ _ _ _ _ us hl => match us, hl with | [_, _], _ => rfl,
    f13, _, fun_mk (st := s_law_index) l13 c13 k13, PySem.W.mg_of X G a13, (fun_mk (st := s_law_index) l13 c13 k13).binds fun _ _ _ _ _ _ us hl => match us, hl with | [_, _], _ => rfl,
    f14, _, fun_mk (st := s_law_holds) l14 c14 k14, PySem.W.mg_of X G a14, (fun_mk (st := s_law_holds) l14 c14 k14).binds fun _ _ _ _ _ _ us hl => match us, hl with | [_, _, _], _ => rfl,
    fa, _, fun_mk (st := s_law) l15 c15 k15, PySem.W.mg_of X G a15, (fun_mk (st := s_law) l15 c15 k15).binds fun _ _ _ _ _ _ us hl => match us, hl with | [_], _ => rfl,
    tt_MOST_PAGES, PySem.W.mg_of X G q_MOST_PAGES,
    tt_MOST_TIMES, PySem.W.mg_of X G q_MOST_TIMES,
    tt_MOST_VISITS, PySem.W.mg_of X G q_MOST_VISITS,
    PySem.W.mg_none_of X G z_all,
    PySem.W.mg_none_of X G z_bool,
    PySem.W.mg_none_of X G z_enumerate,
    PySem.W.mg_none_of X G z_int,
    PySem.W.mg_none_of X G z_isinstance,
    PySem.W.mg_none_of X G z_len,
    PySem.W.mg_none_of X G z_list,
    PySem.W.mg_none_of X G z_max,
    PySem.W.mg_none_of X G z_min,
    PySem.W.mg_none_of X G z_range,
    PySem.W.mg_none_of X G z_repr,
    PySem.W.mg_none_of X G z_str,
    PySem.W.mg_none_of X G z_sum,
    PySem.W.mg_none_of X G z_tuple,
    PySem.W.mg_none_of X G z_zip⟩
  exact ⟨T.fd_law, fun s v => .of_eq rfl, fun base _ _ => ok_law T⟩

end LW
open PySem PySem.W PyProof.Rows
set_option maxHeartbeats 0 in
theorem PySem.Challenge.cw_breadcrumbs_k65_many_lengths_numbered_holds : PySem.Challenge.rw_breadcrumbs_k65_many_lengths_numbered.Holds := by
  w_on; o_law; k_head; (case hw => w_witness2)
  k_fill
  refine BC.walk_G (l := PySem.Challenge.rw_breadcrumbs_k65_many_lengths_numbered) (n := 63) (k := 6) (x := "_law_script") (sp := fun w => LW.spLaw _) rfl (by decide) rfl ⟨rfl, by decide, by decide⟩ (fun w h Y => PySem.W.kIn_of Y) ?F (fun w H a ns hl hS => ⟨a, ns, rfl, hS, hl, fun _ => rfl⟩)
  case F =>
    intro w mg fa h KX G hmg
    refine' LW.all_mk KX G hmg ?a0 ?l0 ?c0 ?k0 ?a1 ?l1 ?c1 ?k1 ?a2 ?l2 ?c2 ?k2 ?a3 ?l3 ?c3 ?k3 ?a4 ?l4 ?c4 ?k4 ?a5 ?l5 ?c5 ?k5 ?a6 ?l6 ?c6 ?k6 ?a7 ?l7 ?c7 ?k7 ?a8 ?l8 ?c8 ?k8 ?a9 ?l9 ?c9 ?k9 ?a10 ?l10 ?c10 ?k10 ?a11 ?l11 ?c11 ?k11 ?a12 ?l12 ?c12 ?k12 ?a13 ?l13 ?c13 ?k13 ?a14 ?l14 ?c14 ?k14 ?a15 ?l15 ?c15 ?k15 ?q_MOST_PAGES ?q_MOST_TIMES ?q_MOST_VISITS ?z_all ?z_bool ?z_enumerate ?z_int ?z_isinstance ?z_len ?z_list ?z_max ?z_min ?z_range ?z_repr ?z_str ?z_sum ?z_tuple ?z_zip
    (case a0 => k_is); (case l0 => k_is); (case c0 => k_is); (case k0 => k_is); (case a1 => k_is); (case l1 => k_is); (case c1 => k_is); (case k1 => k_is); (case a2 => k_is); (case l2 => k_is); (case c2 => k_is); (case k2 => k_is); (case a3 => k_is); (case l3 => k_is); (case c3 => k_is); (case k3 => k_is); (case a4 => k_is); (case l4 => k_is); (case c4 => k_is); (case k4 => k_is); (case a5 => k_is); (case l5 => k_is); (case c5 => k_is); (case k5 => k_is); (case a6 => k_is); (case l6 => k_is); (case c6 => k_is); (case k6 => k_is); (case a7 => k_is); (case l7 => k_is); (case c7 => k_is); (case k7 => k_is); (case a8 => k_is); (case l8 => k_is); (case c8 => k_is); (case k8 => k_is); (case a9 => k_is); (case l9 => k_is); (case c9 => k_is); (case k9 => k_is); (case a10 => k_is); (case l10 => k_is); (case c10 => k_is); (case k10 => k_is); (case a11 => k_is); (case l11 => k_is); (case c11 => k_is); (case k11 => k_is); (case a12 => k_is); (case l12 => k_is); (case c12 => k_is); (case k12 => k_is); (case a13 => k_is); (case l13 => k_is); (case c13 => k_is); (case k13 => k_is); (case a14 => k_is); (case l14 => k_is); (case c14 => k_is); (case k14 => k_is); (case a15 => k_is); (case l15 => k_is); (case c15 => k_is); (case k15 => k_is); (case q_MOST_PAGES => k_is); (case q_MOST_TIMES => k_is); (case q_MOST_VISITS => k_is); (case z_all => k_is); (case z_bool => k_is); (case z_enumerate => k_is); (case z_int => k_is); (case z_isinstance => k_is); (case z_len => k_is); (case z_list => k_is); (case z_max => k_is); (case z_min => k_is); (case z_range => k_is); (case z_repr => k_is); (case z_str => k_is); (case z_sum => k_is); (case z_tuple => k_is); (case z_zip => k_is)

