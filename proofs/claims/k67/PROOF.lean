import PyProof.Rows.All
import Wide.All
import OpenK.AllK
import Wide.FinOn
import HandS.ForMost
import HandS.IsInst
import HandS.Style
import HandS.Wide
import HandS.Evl
import HandS.Zip
import HandS.SortKw
import HandS.Conv
import HandS.TupLe
import HandS.RaiseMore
import HandS.Defaults
import KE.DataCmp
import HandS.More
import PySem.Challenge.RW_breadcrumbs_k67_many_visits_with_lengths
set_option Elab.async false
set_option linter.all false
set_option maxRecDepth 100000
set_option maxHeartbeats 4000000
namespace BC
open PySem PySem.Spec PyProof.Rows L2
section
variable {X : Cx}
/-- a power of a number of any size that matters here -/
def CPowX (i j : Int) : Prop := 0 ≤ j ∧ j ≤ 1000 ∧ i.natAbs.log2 < 100000
theorem op_powX : OpR X (binaryOp .Pow) (rI CPowX fun i j => .int (i ^ j.toNat)) := opI fun i j _ _ _ _ _ hc q => by
  obtain ⟨h0, h1, h2⟩ := hc
  refine pow_int h0 ?_ q
  have hb : Builtin.Int.intBits i ≤ 100000 := by
    unfold Builtin.Int.intBits
    split <;> omega
  have h3 : (Builtin.Int.intBits i : Int) * j ≤ 100000 * j := Int.mul_le_mul_of_nonneg_right (by omega) h0
  omega
/-- a product: one factor small, or both of bounded size -/
def CMulX (i j : Int) : Prop := CMul i j ∨ CMulW i j
theorem op_mulX : OpR X (binaryOp .Mult) (rI CMulX fun i j => .int (i * j)) := opI fun _ _ _ _ _ _ _ hc q => by
  rcases hc with hc | hc
  · exact mul_int q hc.ok
  · exact mul_int q hc.ok
theorem op_fdivX : OpR X (binaryOp .FloorDiv) (rI CDivW fun i j => .int (i / j)) := op_fdivW
theorem op_modX : OpR X (binaryOp .Mod) (rI (fun _ j => 0 < j) fun i j => .int (i % j)) := opI fun i j _ _ _ _ _ hc q => by
  refine mod_int' (show j ≠ 0 by omega) ?_
  rw [Int.fmod_eq_emod_of_nonneg i (by omega)]
  exact q
def ipC (C : Int → Int → Prop) (f : Int → Int → Int) : TIp := fun x y H Q => ∃ i j, x = .int i ∧ y = .int j ∧ C i j ∧ Q (.int (f i j)) H
theorem ip_mulX : PIp X .Mult (ipC CMulX fun i j => i * j) := by
  intro pins s σ H x y v u Q I r1 r2 h
  obtain ⟨i, j, rfl, rfl, hc, q⟩ := h
  obtain ⟨t, rfl⟩ := r1
  obtain ⟨t', rfl⟩ := r2
  have ok : IntMulOk i j := by
    rcases hc with hc | hc
    · exact hc.ok
    · exact hc.ok
  exact imul_int ⟨.int (i * j), H, I.tok _, ⟨_, rfl⟩, q⟩ ok
end
end BC

/-! ### readings opened one construct at a time: full applications alone, so that what stands in a loop is left closed -/
namespace BC
open PySem PySem.Spec PyProof.Rows L2
section
variable {K : PySem.W.Frag} {σ : L2.St} {H : Hp} {Q : VK} {QT : Bool → Hp → Prop} {QA : List V → Hp → Prop} {D : Ends} {ta tb tc : TE} {t u : TT} {a : TA} {r r' : R2} {i j : Nat} {v x y : V} {s1 s2 : TS} {g : TG} {QG : L2.St → Hp → Prop}
def LoopG (J : It) (g : TG) (tb : TS) : TS := fun D σ H => ∃ W : Nat → Nat → L2.St → Hp → Prop, (∃ m, W 0 m σ H) ∧ ∀ i m σ H, W i m σ H →
  (J.stop i H ∧ D.nx σ H) ∨ (J.go i H ∧ ∃ N : L2.St → Hp → Prop, (∀ σ' H', N σ' H' → ∃ m', m' < m ∧ W (i + 1) m' σ' H') ∧ ∀ x H', J.yld i H x H' → g x σ H' fun σ2 H2 => tb { D with nx := N, ct := N, bk := D.nx } σ2 H2)
def LcG (J : It) (g : TG) (tt : TT) (te : TE) (vs : List Nat) (σ : L2.St) (Dl : Addr) (H1 : Hp) (Q : VK) : Prop := ∃ W : Nat → Nat → Hp → Prop, (∃ m, W 0 m (upd H1 Dl (.lst []))) ∧ ∀ i m H, W i m H →
  (J.stop i H ∧ Q (.ref Dl) H) ∨ (J.go i H ∧ ∃ Nx : Hp → Prop, (∀ H', Nx H' → ∃ m', m' < m ∧ W (i + 1) m' H') ∧ ∀ x H', J.yld i H x H' → g x (wipe σ vs) H' fun σ2 H2 => wipe σ2 vs = wipe σ vs ∧ tt σ2 H2 fun b H3 =>
    if b = true then te σ2 H3 fun y H4 => ∃ acc, H4 Dl = some (.lst acc) ∧ acc.length < sizeLine ∧ Nx (upd H4 Dl (.lst (acc ++ [y]))) else Nx H3)
theorem x_seq : tSeq s1 s2 D σ H = s1 { D with nx := s2 D } σ H := rfl
theorem x_next : tNext D σ H = D.nx σ H := rfl
theorem x_brk : tBreak D σ H = D.bk σ H := rfl
theorem x_cnt : tCont D σ H = D.ct σ H := rfl
theorem x_nev : tNever D σ H = False := rfl
theorem x_ret : tRet ta D σ H = ta σ H D.rt := rfl
theorem x_retN : tRetN D σ H = D.rt .non H := rfl
theorem x_drop : tDrop ta D σ H = ta σ H (fun _ H1 => D.nx σ H1) := rfl
theorem x_ifS : tIfS t s1 s2 D σ H = t σ H (fun b H1 => if b = true then s1 D σ H1 else s2 D σ H1) := rfl
theorem x_asg : tAsg ta g D σ H = ta σ H (fun x H1 => g x σ H1 D.nx) := rfl
theorem x_gn : gName i v σ H QG = QG (σ.set i (some v)) H := rfl
theorem x_gsub {o ix : TE} {st : TSet} : gSub o ix st v σ H QG = o σ H (fun o H1 => ix σ H1 fun i H2 => st o i v H2 fun H3 => QG σ H3) := rfl
theorem x_par : tPar i j a D σ H = a σ H (fun vs H1 => ∃ v w, vs = [v, w] ∧ D.nx ((σ.set i (some v)).set j (some w)) H1) := rfl
theorem x_par3 {l : Nat} : tPar3 i j l a D σ H = a σ H (fun vs H1 => ∃ u v w, vs = [u, v, w] ∧ D.nx (((σ.set i (some u)).set j (some v)).set l (some w)) H1) := rfl
theorem x_aug {ti : TIp} : tAug i ta ti D σ H = ∃ x, σ[i]? = some (some x) ∧ ta σ H fun y H1 => ti x y H1 fun z H2 => D.nx (σ.set i (some z)) H2 := rfl
theorem x_for {wi : TI} : tFor wi g s1 D σ H = wi σ H (fun J H1 => LoopG J g s1 D σ H1) := rfl
theorem x_lc {wi : TI} {vs : List Nat} : tLc wi g t ta vs σ H Q = wi σ H (fun J H1 => ∀ Dl, H1 Dl = none → LcG J g t ta vs σ Dl H1 Q) := rfl
theorem x_rng1 {R : It → Hp → Prop} : iRng1 a σ H R = a σ H (fun vs H1 => ∃ j : Int, vs = [.int j] ∧ -(2 ^ 62) ≤ j ∧ j < 2 ^ 62 ∧ R (Itr 0 j.toNat) H1) := rfl
theorem x_rng2 {R : It → Hp → Prop} : iRng2 a σ H R = a σ H (fun vs H1 => ∃ i j : Int, vs = [.int i, .int j] ∧ (-(2 ^ 62) ≤ i ∧ i < 2 ^ 62 ∧ -(2 ^ 62) ≤ j ∧ j < 2 ^ 62) ∧ R (Itr i (j - i).toNat) H1) := rfl
theorem x_rng3 {R : It → Hp → Prop} : iRng3 a σ H R = a σ H (fun vs H1 => ∃ (i j c : Int) (n : Nat), vs = [.int i, .int j, .int c] ∧ RgC i j c n ∧ R (Itc i c n) H1) := rfl
theorem x_ilist {R : It → Hp → Prop} : iList K ta σ H R = ta σ H (fun x H1 => ∃ a, x = .ref a ∧ (∃ xs, SqL K H1 a xs) ∧ R (Itl K a) H1) := rfl
theorem x_itup {R : It → Hp → Prop} : iTup K ta σ H R = ta σ H (fun x H1 => ∃ a, x = .ref a ∧ (∃ xs, SqT K H1 a xs) ∧ R (Itt K a) H1) := rfl
theorem x_ienum {R : It → Hp → Prop} : iEnum K a σ H R = a σ H (fun vs H1 => ∃ a xs, vs = [.ref a] ∧ SqL K H1 a xs ∧ R (Ite K a) H1) := rfl
theorem x_izip {R : It → Hp → Prop} : iZip K a σ H R = a σ H (fun vs H1 => ∃ a b xs ys, vs = [.ref a, .ref b] ∧ SqL K H1 a xs ∧ SqL K H1 b ys ∧ R (Itz K a b) H1) := rfl
theorem x_istr {R : It → Hp → Prop} : iStr ta σ H R = ta σ H (fun v H1 => ∃ x, v = .str x ∧ R (Its x) H1) := rfl
theorem x_var : tVar i σ H Q = ∃ v, σ[i]? = some (some v) ∧ Q v H := rfl
theorem x_c : tC v σ H Q = Q v H := rfl
theorem x_op : tOp r ta tb σ H Q = ta σ H (fun x H1 => tb σ H1 fun y H2 => r x y H2 Q) := rfl
theorem x_un {ru : V → Hp → VK → Prop} : tUn ru ta σ H Q = ta σ H (fun x H1 => ru x H1 Q) := rfl
theorem x_test : tTest ta σ H QT = ta σ H (fun x H' => ∃ k, x = .bl k ∧ QT k H') := rfl
theorem x_b : tB ta σ H QT = ta σ H (fun x H' => ∃ k, x = .bl k ∧ QT k H') := rfl
theorem x_chain : tChain r r' ta tb tc σ H Q = ta σ H (fun x H1 => tb σ H1 fun y H2 => r x y H2 fun z H3 => ∃ k, z = .bl k ∧ (if k = true then tc σ H3 fun w' H4 => r' y w' H4 Q else Q (.bl false) H3)) := rfl
theorem x_and : tAnd t u σ H QT = t σ H (fun c H1 => if c = true then u σ H1 QT else QT false H1) := rfl
theorem x_or : tOr t u σ H QT = t σ H (fun c H1 => if c = true then QT true H1 else u σ H1 QT) := rfl
theorem x_not : tNot t σ H QT = t σ H (fun c H1 => QT (!c) H1) := rfl
theorem x_andV : tAndV ta tb σ H Q = ta σ H (fun x H1 => ∃ c, x = .bl c ∧ if c = true then tb σ H1 Q else Q (.bl false) H1) := rfl
theorem x_orV : tOrV ta tb σ H Q = ta σ H (fun x H1 => ∃ c, x = .bl c ∧ if c = true then Q (.bl true) H1 else tb σ H1 Q) := rfl
theorem x_notV : tNotV ta σ H Q = ta σ H (fun x H1 => ∃ c, x = .bl c ∧ Q (.bl (!c)) H1) := rfl
theorem x_ife : tIf t ta tb σ H Q = t σ H (fun c H1 => if c = true then ta σ H1 Q else tb σ H1 Q) := rfl
theorem x_nil : tNil σ H QA = QA [] H := rfl
theorem x_cons {rest : TA} : tCons ta rest σ H QA = ta σ H (fun x H1 => rest σ H1 fun xs H2 => QA (x :: xs) H2) := rfl
theorem x_lst : tLst a σ H Q = a σ H (fun xs H1 => xs.length ≤ sizeLine ∧ ∀ p, H1 p = none → Q (.ref p) (upd H1 p (.lst xs))) := rfl
theorem x_tup : tTup a σ H Q = a σ H (fun xs H1 => xs.length ≤ sizeLine ∧ ∀ p, H1 p = none → Q (.ref p) (upd H1 p (.tup xs))) := rfl
theorem x_cb {rc : List V → Hp → VK → Prop} : tCB rc a σ H Q = a σ H (fun vs H1 => rc vs H1 Q) := rfl
theorem x_call {sp : Sp} {dvs : List V} {E : XK} : tCall sp dvs E a σ H Q = a σ H (fun vs H1 => sp (vs ++ dvs) H1 Q E) := rfl
theorem x_callK {sp : Sp} {gV : List V → List V → List V} {E : XK} {b : TA} : tCallK sp gV E a b σ H Q = a σ H (fun vs H1 => b σ H1 fun zs H2 => sp (gV vs zs) H2 Q E) := rfl
theorem x_bm {T : String} {rm : V → List V → Hp → VK → Prop} : tBM K T rm ta a σ H Q = ta σ H (fun x H1 => tyV K T x H1 ∧ a σ H1 fun xs H2 => rm x xs H2 Q) := rfl
theorem x_bm0 {T : String} {rm : V → List V → Hp → VK → Prop} : tBM0 K T rm ta σ H Q = ta σ H (fun x H1 => tyV K T x H1 ∧ rm x [] H1 Q) := rfl
theorem x_sl {rs : V → Option Int → Option Int → Hp → VK → Prop} {tl th : TO} : tSl rs ta tl th σ H Q = ta σ H (fun x H1 => tl σ H1 fun l H2 => th σ H2 fun u H3 => rs x l u H3 Q) := rfl
theorem x_nopart {QO : Option Int → Hp → Prop} : tNoPart σ H QO = QO none H := rfl
theorem x_part {QO : Option Int → Hp → Prop} : tPart ta σ H QO = ta σ H (fun x H1 => ∃ i, x = .int i ∧ QO (some i) H1) := rfl
theorem x_revL : tRevL K ta σ H Q = ta σ H (fun x H1 => ∃ a xs, x = .ref a ∧ SqL K H1 a xs ∧ ∀ p, H1 p = none → Q (.ref p) (upd H1 p (.lst xs.reverse))) := rfl
theorem x_I0 {f : Int → Int → V} {m n : Int} : rI0 f (.int m) (.int n) H Q ↔ Q (f m n) H := ⟨fun ⟨i, j, e1, e2, q⟩ => by cases e1; cases e2; exact q, fun q => ⟨m, n, rfl, rfl, q⟩⟩
theorem x_I {C : Int → Int → Prop} {f : Int → Int → V} {m n : Int} : rI C f (.int m) (.int n) H Q ↔ C m n ∧ Q (f m n) H := ⟨fun ⟨i, j, e1, e2, q⟩ => by cases e1; cases e2; exact q, fun q => ⟨m, n, rfl, rfl, q⟩⟩
theorem x_U {f : Int → V} {m : Int} : rU f (.int m) H Q ↔ Q (f m) H := ⟨fun ⟨i, e1, q⟩ => by cases e1; exact q, fun q => ⟨m, rfl, q⟩⟩
theorem x_ip {f : Int → Int → Int} {m n : Int} : ipI f (.int m) (.int n) H Q ↔ Q (.int (f m n)) H := ⟨fun ⟨i, j, e1, e2, q⟩ => by cases e1; cases e2; exact q, fun q => ⟨m, n, rfl, rfl, q⟩⟩
theorem x_ipC {C : Int → Int → Prop} {f : Int → Int → Int} {m n : Int} : ipC C f (.int m) (.int n) H Q ↔ C m n ∧ Q (.int (f m n)) H := ⟨fun ⟨i, j, e1, e2, q⟩ => by cases e1; cases e2; exact q, fun q => ⟨m, n, rfl, rfl, q⟩⟩
theorem x_eqI {m n : Int} : rEq (.int m) (.int n) H Q ↔ Q (.bl (decide (m = n))) H := by
  unfold rEq
  rw [show scal (V.int m) (V.int n) = true from rfl]
  by_cases e : m = n
  · subst e; simp
  · simp [e]
theorem x_neI {m n : Int} : rNe (.int m) (.int n) H Q ↔ Q (.bl (!decide (m = n))) H := by
  unfold rNe
  rw [show scal (V.int m) (V.int n) = true from rfl]
  by_cases e : m = n
  · subst e; simp
  · simp [e]
end
/-! ### the rules that speak of the written part, by its own name -/
section
variable {X : Cx} {K : PySem.W.Frag}
theorem k_pi_list {tg l : Expr} {tl : TE} (hK : X.K = K) (hl : PE X l tl) : PI X tg l (iList K tl) := by subst hK; exact pi_list hl
theorem k_pi_tup {tg l : Expr} {tl : TE} (hK : X.K = K) (hl : PE X l tl) : PI X tg l (iTup K tl) := by subst hK; exact pi_tup hl
theorem k_pi_enum {e : Expr} {ta : TA} {p pos tpos : Pos} {elts : List Expr} {kk : Nat} (hK : X.K = K) (hg : Gl X "enumerate") (hm : X.mg "enumerate" = none) (ha : PA X [e] ta) (hs : starEach [e] X.env = [(false, eval e X.env)] := by rfl) : PI X (.Tuple elts kk tpos) (.Call (.Name "enumerate" p) [e] [] pos) (iEnum K ta) := by subst hK; exact pi_enum hg hm ha hs
theorem k_pi_zip {e e2 : Expr} {ta : TA} {p pos tpos : Pos} {elts : List Expr} {kk : Nat} (hK : X.K = K) (hg : Gl X "zip") (hm : X.mg "zip" = none) (ha : PA X [e, e2] ta)
    (hs : starEach [e, e2] X.env = (false, eval e X.env) :: starEach [e2] X.env := by rfl) (hpl : (backTo pos (starEach [e2] X.env)).any (·.1) = false := by rfl) : PI X (.Tuple elts kk tpos) (.Call (.Name "zip" p) [e, e2] [] pos) (iZip K ta) := by subst hK; exact pi_zip hg hm ha hs hpl
theorem k_ix_list (hK : X.K = K) : IxR X (rIxL K) := by subst hK; exact ix_list
theorem k_ix_tup (hK : X.K = K) : IxR X (rIxT K) := by subst hK; exact ix_tup
theorem k_sl_list (hK : X.K = K) : SlR X (rSlL K) := by subst hK; exact sl_list
theorem k_in (hK : X.K = K) : OpR X (compareOp .In) (rIn K false) := by subst hK; exact op_in_seq
theorem k_notIn (hK : X.K = K) : OpR X (compareOp .NotIn) (rIn K true) := by subst hK; exact op_notIn_seq
theorem k_eqD (hK : X.K = K) (hu : X.A.units + 64 < cLine) : OpR X (compareOp .Eq) (rEqD K) := by subst hK; exact op_eqD hu
theorem k_neD (hK : X.K = K) (hu : X.A.units + 64 < cLine) : OpR X (compareOp .NotEq) (rNeD K) := by subst hK; exact op_neD hu
def rLen (K : PySem.W.Frag) : List V → Hp → VK → Prop := fun xs H Q => ∃ p ys, xs = [.ref p] ∧ (SqL K H p ys ∨ SqT K H p ys) ∧ Q (.int ys.length) H
def rListOf (K : PySem.W.Frag) : List V → Hp → VK → Prop := fun xs H Q => ∃ p ys, xs = [.ref p] ∧ (SqL K H p ys ∨ SqT K H p ys) ∧ ∀ l, H l = none → Q (.ref l) (upd H l (.lst ys))
def rTupOf (K : PySem.W.Frag) : List V → Hp → VK → Prop := fun xs H Q => ∃ p ys, xs = [.ref p] ∧ ((SqL K H p ys ∧ ∀ l, H l = none → Q (.ref l) (upd H l (.tup ys))) ∨ (SqT K H p ys ∧ Q (.ref p) H))
theorem k_len (hK : X.K = K) : CallR X (.builtin "len") (rLen K) := by subst hK; exact call_len_seq
theorem k_listOf (hK : X.K = K) : CallR X (.type "list") (rListOf K) := by subst hK; exact call_list_of
theorem k_tupOf (hK : X.K = K) : CallR X (.type "tuple") (rTupOf K) := by subst hK; exact call_tuple_of
theorem k_isi (hK : X.K = K) : CallR X (.builtin "isinstance") (rIsi K) := by subst hK; exact call_isi
theorem k_sum (hK : X.K = K) (hc : X.calm = true) : CallR X (.builtin "sum") (rSum K) := by subst hK; exact cr_sum hc
theorem k_all (hK : X.K = K) (hc : X.calm = true) : CallR X (.builtin "all") (rAll K) := by subst hK; exact cr_all hc
theorem k_any (hK : X.K = K) (hc : X.calm = true) : CallR X (.builtin "any") (rAny K) := by subst hK; exact cr_any hc
theorem k_sorted (hK : X.K = K) : CallR X (.builtin "sorted") (rSorted K) := by subst hK; exact cr_sorted
def tTruK (K : PySem.W.Frag) (ta : TE) : TT := fun σ H Q => ta σ H fun x H' => ∃ k, TruV K x H' k ∧ Q k H'
theorem k_truth {a : Expr} {ta : TE} (hK : X.K = K) (ha : PE X a ta) (he : ∀ whole, isTrue a X.env whole = (do let v ← whole; standAt a.pos; holding [v] (truthy v))) : PT X a (tTruK K ta) := by subst hK; exact pt_truth ha he
theorem k_tup {es : List Expr} {k n : Nat} {pos : Pos} {t : TGs} (hK : X.K = K) (hc : X.calm = true) (h : PGs X es t)
    (hn : (assignEach es X.env).length = n := by rfl) (hst : (assignEach es X.env).findIdx? (·.1) = none := by rfl) : PG X (.Tuple es k pos) (gTup K n t) := by subst hK; exact pg_tup hc h hn hst
theorem k_bm0 {T : String} {to : TE} {r : V → List V → Hp → VK → Prop} {e : Expr} (hK : X.K = K) (h : PE X e (tBM0 X.K T r to)) : PE X e (tBM0 K T r to) := by subst hK; exact h
theorem k_bm {T : String} {to : TE} {ta : TA} {r : V → List V → Hp → VK → Prop} {e : Expr} (hK : X.K = K) (h : PE X e (tBM X.K T r to ta)) : PE X e (tBM K T r to ta) := by subst hK; exact h
theorem k_rev {e : Expr} {te : TE} {k : Nat} {p1 p2 p3 pos : Pos} (hK : X.K = K) (he : PE X e te) : PE X (.Subscript e (.Slice none none (some (.UnaryOp .USub (.Constant (.int 1) k p1) p2)) p3) pos) (tRevL K te) := by subst hK; exact pe_revL he
theorem k_index (hK : X.K = K) : MtR X "list.index" (rIndex K) := by subst hK; exact mt_index
end
section
variable {K : PySem.W.Frag} {σ : L2.St} {H : Hp} {ta : TE} {QT : Bool → Hp → Prop}
theorem x_tru : tTruK K ta σ H QT = ta σ H (fun x H' => ∃ k, TruV K x H' k ∧ QT k H') := rfl
end
/-! ### loops -/
section
variable {K : PySem.W.Frag} {σ : L2.St} {H : Hp} {D : Ends} {g : TG} {tb : TS}
theorem lg_rng {lo : Int} {n : Nat} (Pv : Nat → L2.St → Hp → Prop) (h0 : Pv 0 σ H)
    (hs : ∀ i σ H, i < n → Pv i σ H → g (.int (lo + i)) σ H fun σ2 H2 => tb { D with nx := Pv (i + 1), ct := Pv (i + 1), bk := D.nx } σ2 H2) (hd : ∀ σ H, Pv n σ H → D.nx σ H) : LoopG (Itr lo n) g tb D σ H := for_range Pv h0 hs hd
theorem lg_rngC {lo c : Int} {n : Nat} (Pv : Nat → L2.St → Hp → Prop) (h0 : Pv 0 σ H)
    (hs : ∀ i σ H, i < n → Pv i σ H → g (.int (lo + (i : Nat) * c)) σ H fun σ2 H2 => tb { D with nx := Pv (i + 1), ct := Pv (i + 1), bk := D.nx } σ2 H2) (hd : ∀ σ H, Pv n σ H → D.nx σ H) : LoopG (Itc lo c n) g tb D σ H := for_rangeC Pv h0 hs hd
theorem lg_list {a : Addr} {xs : List V} (Pv : Nat → L2.St → Hp → Prop) (h0 : Pv 0 σ H) (hl : ∀ i σ H, i ≤ xs.length → Pv i σ H → SqL K H a xs)
    (hs : ∀ i x σ H, xs[i]? = some x → Pv i σ H → g x σ H fun σ2 H2 => tb { D with nx := Pv (i + 1), ct := Pv (i + 1), bk := D.nx } σ2 H2) (hd : ∀ σ H, Pv xs.length σ H → D.nx σ H) : LoopG (Itl K a) g tb D σ H := for_list Pv h0 hl hs hd
/-- enumerate over a list that stands still: each pair is a new tuple -/
theorem lg_enum {a : Addr} {xs : List V} (Pv : Nat → L2.St → Hp → Prop) (h0 : Pv 0 σ H) (hl : ∀ i σ H, i ≤ xs.length → Pv i σ H → SqL K H a xs)
    (hs : ∀ i x σ H T, xs[i]? = some x → Pv i σ H → H T = none → g (.ref T) σ (upd H T (.tup [.int (i : Nat), x])) fun σ2 H2 => tb { D with nx := Pv (i + 1), ct := Pv (i + 1), bk := D.nx } σ2 H2) (hd : ∀ σ H, Pv xs.length σ H → D.nx σ H) : LoopG (Ite K a) g tb D σ H := by
  refine ⟨fun i m σ H => m = xs.length - i ∧ i ≤ xs.length ∧ Pv i σ H, ⟨xs.length, by simp, Nat.zero_le _, h0⟩, ?_⟩
  rintro i m σ H ⟨rfl, hi, p⟩
  have q := hl i σ H hi p
  by_cases hlt : i < xs.length
  · refine .inr ⟨⟨xs, xs[i], q, by simp [hlt]⟩, Pv (i + 1), fun σ' H' p' => ⟨xs.length - (i + 1), by omega, rfl, hlt, p'⟩, fun x H' y => ?_⟩
    obtain ⟨T, x', rfl, hT, rfl, f⟩ := y
    exact hs i x' σ H T (f xs q) p hT
  · have e : i = xs.length := by omega
    subst e
    exact .inl ⟨⟨xs, q, Nat.le_refl _⟩, hd σ H p⟩
/-- a pair unpacked -/
theorem g_two {i j : Nat} {T : Addr} {x y : V} {QG : L2.St → Hp → Prop} (h : H T = some (.tup [x, y])) (q : QG ((σ.set i (some x)).set j (some y)) H) : gTup K 2 (gCons (gName i) (gCons (gName j) gNil)) (.ref T) σ H QG :=
  ⟨T, [x, y], rfl, .inl (.inl h), rfl, x, [y], rfl, y, [], rfl, rfl, q⟩
end
/-! ### comprehensions over lists whose elements are given by a function of the turn -/
section
variable {K : PySem.W.Frag} {σ : L2.St} {H1 : Hp} {g : TG} {tt : TT} {te : TE} {vs : List Nat} {Dl : Addr} {Q : VK}
theorem lc_g (n : Nat) {J : It} (Pv : Nat → Hp → Prop) (h0 : Pv 0 (upd H1 Dl (.lst []))) (hst : ∀ H, Pv n H → J.stop n H) (hgo : ∀ i H, i < n → Pv i H → J.go i H)
    (hs : ∀ i H x H', i < n → Pv i H → J.yld i H x H' → g x (wipe σ vs) H' fun σ2 H2 => wipe σ2 vs = wipe σ vs ∧ tt σ2 H2 fun b H3 =>
      if b = true then te σ2 H3 fun y H4 => ∃ acc, H4 Dl = some (.lst acc) ∧ acc.length < sizeLine ∧ Pv (i + 1) (upd H4 Dl (.lst (acc ++ [y]))) else Pv (i + 1) H3) (hd : ∀ H, Pv n H → Q (.ref Dl) H) : LcG J g tt te vs σ Dl H1 Q := by
  refine ⟨fun i m H => m = n - i ∧ i ≤ n ∧ Pv i H, ⟨n, by simp, Nat.zero_le _, h0⟩, ?_⟩
  rintro i m H ⟨rfl, hi, p⟩
  by_cases hlt : i < n
  · exact .inr ⟨hgo i H hlt p, Pv (i + 1), fun H' p' => ⟨n - (i + 1), by omega, rfl, hlt, p'⟩, fun x H' y => hs i H x H' hlt p y⟩
  · have e : i = n := by omega
    subst e
    exact .inl ⟨hst H p, hd H p⟩
end
/-! ### comprehensions that change nothing -/
section
variable {K : PySem.W.Frag} {σ : L2.St} {H1 : Hp} {g : TG} {tt : TT} {te : TE} {vs : List Nat} {Dl : Addr} {Q : VK}
def kept (n : Nat) (keep : Nat → Bool) (f : Nat → V) : List V := ((List.range n).filter keep).map f
theorem kept_yes {n : Nat} {k : Nat → Bool} {f : Nat → V} (h : k n = true) : kept (n + 1) k f = kept n k f ++ [f n] := by
  unfold kept
  rw [List.range_succ, List.filter_append, List.map_append]
  simp [h]
theorem kept_no {n : Nat} {k : Nat → Bool} {f : Nat → V} (h : k n = false) : kept (n + 1) k f = kept n k f := by
  unfold kept
  rw [List.range_succ, List.filter_append, List.map_append]
  simp [h]
theorem kept_len (n : Nat) (k : Nat → Bool) (f : Nat → V) : (kept n k f).length ≤ n := by
  unfold kept
  rw [List.length_map]
  exact Nat.le_trans (List.length_filter_le _ _) (by rw [List.length_range]; exact Nat.le_refl _)
theorem kept_all (n : Nat) (f : Nat → V) : kept n (fun _ => true) f = (List.range n).map f := by
  unfold kept
  rw [List.filter_eq_self.mpr (by simp)]
theorem lc_pure {J : It} (n : Nat) (item : Nat → L2.St) (keep : Nat → Bool) (f : Nat → V) (hD : H1 Dl = none) (hn : n ≤ 100000)
    (hst : ∀ H', Evl.Ex H1 H' → J.stop n H') (hgo : ∀ i H', i < n → Evl.Ex H1 H' → J.go i H')
    (hy : ∀ i H' x H'' (QG : L2.St → Hp → Prop), i < n → Evl.Ex H1 H' → J.yld i H' x H'' → (Evl.Ex H' H'' → QG (item i) H'') → g x (wipe σ vs) H'' QG)
    (hw : ∀ i, i < n → wipe (item i) vs = wipe σ vs) (ht : ∀ i, i < n → Evl.EvT tt (item i) H1 (keep i)) (he : ∀ i, i < n → keep i = true → Evl.Ev te (item i) H1 (f i))
    (hd : ∀ H', Evl.Ex H1 H' → H' Dl = some (.lst (kept n keep f)) → Q (.ref Dl) H') : LcG J g tt te vs σ Dl H1 Q := by
  refine lc_g n (fun i H' => Evl.Ex H1 H' ∧ H' Dl = some (.lst (kept i keep f))) ⟨Evl.Ex.new hD, upd_same⟩ (fun H' h => hst H' h.1) (fun i H' hi h => hgo i H' hi h.1) (fun i H' x H'' hi h y => ?_) (fun H' h => hd H' h.1 h.2)
  obtain ⟨e, hl⟩ := h
  refine hy i H' x H'' _ hi e y fun e2 => ⟨hw i hi, ht i hi H'' (e.trans e2) _ fun H3 e3 => ?_⟩
  have hl3 := e3 _ _ (e2 _ _ hl)
  cases hk : keep i with
  | false =>
    show (if false = true then _ else _)
    rw [if_neg Bool.false_ne_true, kept_no hk]
    exact ⟨(e.trans e2).trans e3, hl3⟩
  | true =>
    show (if true = true then _ else _)
    rw [if_pos rfl]
    refine he i hi hk H3 ((e.trans e2).trans e3) _ fun H4 e4 => ⟨_, e4 _ _ hl3, Nat.lt_of_lt_of_le (Nat.lt_of_le_of_lt (kept_len i keep f) hi) (Nat.le_trans hn (by decide)), ?_⟩
    rw [kept_yes hk]
    exact ⟨(((e.trans e2).trans e3).trans e4).mut hD, upd_same⟩
theorem tyes {σ : L2.St} {H : Hp} : Evl.EvT tYes σ H true := fun H1 _ _ q => q H1 (Evl.Ex.refl H1)
theorem lc_enum {a : Addr} {xs : List V} {j k : Nat} (keep : Nat → Bool) (f : Nat → V) (hx : SqL K H1 a xs) (hD : H1 Dl = none) (hn : xs.length ≤ 100000)
    (hw : ∀ u v : V, wipe (((wipe σ vs).set j (some u)).set k (some v)) vs = wipe σ vs)
    (ht : ∀ i x, xs[i]? = some x → Evl.EvT tt (((wipe σ vs).set j (some (.int (i : Nat)))).set k (some x)) H1 (keep i))
    (he : ∀ i x, xs[i]? = some x → keep i = true → Evl.Ev te (((wipe σ vs).set j (some (.int (i : Nat)))).set k (some x)) H1 (f i))
    (hd : ∀ H', Evl.Ex H1 H' → H' Dl = some (.lst (kept xs.length keep f)) → Q (.ref Dl) H') : LcG (Ite K a) (gTup K 2 (gCons (gName j) (gCons (gName k) gNil))) tt te vs σ Dl H1 Q := by
  refine lc_pure xs.length (fun i => ((wipe σ vs).set j (some (.int (i : Nat)))).set k (some (xs.getD i .non))) keep f hD hn (fun H' e => ⟨xs, Evl.ex_l e hx, Nat.le_refl _⟩) (fun i H' hi e => ⟨xs, xs[i], Evl.ex_l e hx, List.getElem?_eq_getElem hi⟩)
    (fun i H' x H'' QG hi e y q => ?_) (fun i hi => hw _ _) (fun i hi => ht i _ (by rw [List.getD_eq_getElem?_getD, List.getElem?_eq_getElem hi]; rfl)) (fun i hi => he i _ (by rw [List.getD_eq_getElem?_getD, List.getElem?_eq_getElem hi]; rfl)) hd
  obtain ⟨T, v, rfl, hT, rfl, hf⟩ := y
  have hv := hf xs (Evl.ex_l e hx)
  have e1 : xs.getD i .non = v := by rw [List.getD_eq_getElem?_getD, hv]; rfl
  refine g_two upd_same ?_
  have q2 := q (Evl.Ex.new hT)
  rw [e1] at q2
  exact q2
theorem lc_list {a : Addr} {xs : List V} {j : Nat} (keep : Nat → Bool) (f : Nat → V) (hx : SqL K H1 a xs) (hD : H1 Dl = none) (hn : xs.length ≤ 100000)
    (hw : ∀ u : V, wipe ((wipe σ vs).set j (some u)) vs = wipe σ vs)
    (ht : ∀ i x, xs[i]? = some x → Evl.EvT tt ((wipe σ vs).set j (some x)) H1 (keep i))
    (he : ∀ i x, xs[i]? = some x → keep i = true → Evl.Ev te ((wipe σ vs).set j (some x)) H1 (f i))
    (hd : ∀ H', Evl.Ex H1 H' → H' Dl = some (.lst (kept xs.length keep f)) → Q (.ref Dl) H') : LcG (Itl K a) (gName j) tt te vs σ Dl H1 Q := by
  refine lc_pure xs.length (fun i => (wipe σ vs).set j (some (xs.getD i .non))) keep f hD hn (fun H' e => ⟨xs, Evl.ex_l e hx, Nat.le_refl _⟩) (fun i H' hi e => ⟨xs, xs[i], Evl.ex_l e hx, List.getElem?_eq_getElem hi⟩)
    (fun i H' x H'' QG hi e y q => ?_) (fun i hi => hw _) (fun i hi => ht i _ (by rw [List.getD_eq_getElem?_getD, List.getElem?_eq_getElem hi]; rfl)) (fun i hi => he i _ (by rw [List.getD_eq_getElem?_getD, List.getElem?_eq_getElem hi]; rfl)) hd
  obtain ⟨rfl, hf⟩ := y
  have hv := hf xs (Evl.ex_l e hx)
  have e1 : xs.getD i .non = x := by rw [List.getD_eq_getElem?_getD, hv]; rfl
  show QG _ _
  rw [← e1]
  exact q (Evl.Ex.refl _)
theorem lc_rng {lo : Int} {n j : Nat} (keep : Nat → Bool) (f : Nat → V) (hD : H1 Dl = none) (hn : n ≤ 100000)
    (hw : ∀ u : V, wipe ((wipe σ vs).set j (some u)) vs = wipe σ vs)
    (ht : ∀ i, i < n → Evl.EvT tt ((wipe σ vs).set j (some (.int (lo + i)))) H1 (keep i))
    (he : ∀ i, i < n → keep i = true → Evl.Ev te ((wipe σ vs).set j (some (.int (lo + i)))) H1 (f i))
    (hd : ∀ H', Evl.Ex H1 H' → H' Dl = some (.lst (kept n keep f)) → Q (.ref Dl) H') : LcG (Itr lo n) (gName j) tt te vs σ Dl H1 Q := by
  refine lc_pure n (fun i => (wipe σ vs).set j (some (.int (lo + i)))) keep f hD hn (fun H' e => Nat.le_refl _) (fun i H' hi e => hi)
    (fun i H' x H'' QG hi e y q => ?_) (fun i hi => hw _) ht he hd
  obtain ⟨rfl, rfl⟩ := y
  exact q (Evl.Ex.refl _)
end
/-! ### operations on values -/
section
variable {K : PySem.W.Frag} {H : Hp} {Q : VK}
theorem isi_int {i : Int} {T : String} {b : Bool} (h : kitB "int" T = some b) (q : Q (.bl b) H) : rIsi K [.int i, .ty T] H Q :=
  ⟨.int i, .ty T, .type "int", .type T, b, rfl, .ty T, .base (.int i), kit_ty h, q⟩
theorem ixL {p : Addr} {xs : List V} {i : Int} {v : V} (h : SqL K H p xs) (hi : atI xs i = some v) (q : Q v H) : rIxL K (.ref p) (.int i) H Q := ⟨p, xs, i, v, rfl, rfl, h, hi, q⟩
theorem setL {p : Addr} {xs : List V} {i : Int} {j : Nat} {v : V} {R : Hp → Prop} (h : H p = some (.lst xs)) (hj : ixN xs.length i = some j) (q : R (upd H p (.lst (xs.set j v)))) : rSetL (.ref p) (.int i) v H R := ⟨p, xs, i, j, rfl, rfl, h, hj, q⟩
theorem repL {p : Addr} {xs : List V} {k : Int} (h : H p = some (.lst xs)) (h1 : -(2 ^ 63) ≤ k) (h2 : k < 2 ^ 63) (hz : xs.length * k.toNat ≤ sizeLine) (q : ∀ l, H l = none → Q (.ref l) (upd H l (.lst (List.replicate k.toNat xs).flatten))) : rRep (.ref p) (.int k) H Q := ⟨p, k, xs, rfl, rfl, h, h1, h2, hz, q⟩
theorem catL {p b : Addr} {xs ys : List V} (h : H p = some (.lst xs)) (hb : H b = some (.lst ys)) (hz : xs.length + ys.length ≤ sizeLine) (q : ∀ l, H l = none → Q (.ref l) (upd H l (.lst (xs ++ ys)))) : rCat (.ref p) (.ref b) H Q := ⟨p, b, xs, ys, rfl, rfl, h, hb, hz, q⟩
theorem sumL {p : Addr} {ns : List Int} (h : SqL K H p (ns.map V.int)) (q : Q (.int ns.sum) H) : rSum K [.ref p] H Q := ⟨p, ns, rfl, h, q⟩
theorem appL {p : Addr} {xs : List V} {y : V} (h : H p = some (.lst xs)) (hz : xs.length < sizeLine) (q : Q .non (upd H p (.lst (xs ++ [y])))) : rAppend (.ref p) [y] H Q := ⟨p, xs, y, rfl, rfl, h, hz, q⟩
theorem tyL {p : Addr} {xs : List V} (h : H p = some (.lst xs)) : tyV K "list" (.ref p) H := Or.inl ⟨rfl, _, Or.inl (Or.inl h)⟩
theorem atI_n {xs : List V} {i : Int} {j : Nat} {v : V} (e : i = (j : Int)) (h : xs[j]? = some v) : atI xs i = some v := by
  subst e
  have hj := (List.getElem?_eq_some_iff.mp h).1
  unfold atI ixN
  rw [if_pos (by omega), if_pos (by omega)]
  exact h
theorem ixN_n {n : Nat} {i : Int} {j : Nat} (e : i = (j : Int)) (h : j < n) : ixN n i = some j := by
  subst e
  unfold ixN
  rw [if_pos (by omega), if_pos (by omega)]
  rfl
theorem sz_ok {n : Nat} (h : n ≤ 100000) : n ≤ sizeLine := Nat.le_trans h (by decide)
theorem sz_lt {n : Nat} (h : n < 100000) : n < sizeLine := Nat.lt_of_lt_of_le h (by decide)
end
end BC

set_option Elab.async false
set_option linter.all false
set_option maxRecDepth 100000
set_option maxHeartbeats 4000000
namespace BC
open PySem PySem.Spec PyProof.Rows L2 Evl RZ
/-! ### all but the object at b stands -/
def Fx (b : Addr) (H H' : Hp) : Prop := ∀ a o, a ≠ b → H a = some o → H' a = some o
theorem Fx.refl (b : Addr) (H : Hp) : Fx b H H := fun _ _ _ h => h
theorem Fx.trans {b : Addr} {H H1 H2 : Hp} (x : Fx b H H1) (y : Fx b H1 H2) : Fx b H H2 := fun a o n h => y a o n (x a o n h)
theorem Fx.of {b : Addr} {H H' : Hp} (e : Ex H H') : Fx b H H' := fun a o _ h => e a o h
theorem Fx.put {b : Addr} {H : Hp} {o : HO} : Fx b H (upd H b o) := fun a u n h => by rw [upd_ne n]; exact h
theorem Fx.ex {b : Addr} {H H' : Hp} (x : Fx b H H') (h : H b = none) : Ex H H' := fun a o e => x a o (ne_of_none e h) e
theorem Fx.l {K : PySem.W.Frag} {b a : Addr} {H H' : Hp} {xs : List V} (x : Fx b H H') (n : a ≠ b) (h : SqL K H a xs) : SqL K H' a xs := by
  rcases h with h | h
  · rcases h with h | ⟨o, h⟩
    · exact .inl (.inl (x a _ n h))
    · exact .inl (.inr ⟨o, x a _ n h⟩)
  · exact .inr h
/-! ### lists -/
theorem cutV_mem {xs : List V} {lo hi : Option Int} {x : V} (h : x ∈ cutV xs lo hi) : x ∈ xs := by
  unfold cutV at h
  exact List.mem_of_mem_drop (List.mem_of_mem_take h)
theorem cutV_len (xs : List V) (lo hi : Option Int) : (cutV xs lo hi).length ≤ xs.length := by
  unfold cutV
  rw [List.length_take, List.length_drop]
  omega
theorem two_at0 {x y r : Int} {n : Nat} (h0 : 0 ≤ r) (h1 : r < 2) (hx0 : 0 ≤ x) (hx1 : x ≤ n) (hy0 : 0 ≤ y) (hy1 : y ≤ n) : ∃ m : Nat, m ≤ n ∧ atI [V.int x, V.int y] r = some (.int m) := by
  by_cases e : r = 0
  · exact ⟨x.toNat, by omega, by rw [Int.toNat_of_nonneg hx0]; exact atI_n (j := 0) e rfl⟩
  · exact ⟨y.toNat, by omega, by rw [Int.toNat_of_nonneg hy0]; exact atI_n (j := 1) (by omega) rfl⟩
theorem two_at {x y r : Int} {n : Nat} (h0 : 0 ≤ r) (h1 : r < 2) (hx0 : 1 ≤ x) (hx1 : x ≤ n) (hy0 : 1 ≤ y) (hy1 : y ≤ n) : ∃ m : Nat, 1 ≤ m ∧ m ≤ n ∧ atI [V.int x, V.int y] r = some (.int m) := by
  by_cases e : r = 0
  · exact ⟨x.toNat, by omega, by omega, by rw [Int.toNat_of_nonneg (by omega)]; exact atI_n (j := 0) e rfl⟩
  · exact ⟨y.toNat, by omega, by omega, by rw [Int.toNat_of_nonneg (by omega)]; exact atI_n (j := 1) (by omega) rfl⟩
/-- a written list read at a drawn place -/
theorem pick {xs : List V} {r : Int} (h0 : 0 ≤ r) (h1 : r < xs.length) : ∃ v, v ∈ xs ∧ atI xs r = some v := by
  have hj : r.toNat < xs.length := by omega
  exact ⟨xs[r.toNat], List.getElem_mem hj, atI_n (j := r.toNat) (by omega) (List.getElem?_eq_getElem hj)⟩
theorem rep_one (n : Nat) (v : V) : (List.replicate n [v]).flatten = List.replicate n v := by
  induction n with
  | zero => rfl
  | succ n ih => rw [List.replicate_succ, List.flatten_cons, ih]; rfl
theorem take_succ {xs : List V} {i : Nat} {v : V} (h : xs[i]? = some v) : xs.take (i + 1) = xs.take i ++ [v] := by
  rw [List.take_add_one, h]
  rfl
theorem log2_small {i : Int} {k : Nat} (hk : 0 < k) (h : i.natAbs < 2 ^ k) : i.natAbs.log2 < k := PySem.Flt.log2_lt_of hk h
/-! ### kinds -/
section
variable {X : Cx} {K : PySem.W.Frag} {H : Hp} {Q : VK}
theorem k_pi_zipA {e e2 : Expr} {ta : TA} {p pos tpos : Pos} {elts : List Expr} {kk : Nat} (hK : X.K = K) (hg : Gl X "zip") (hm : X.mg "zip" = none) (ha : PA X [e, e2] ta)
    (hs : starEach [e, e2] X.env = (false, eval e X.env) :: starEach [e2] X.env := by rfl) (hpl : (backTo pos (starEach [e2] X.env)).any (·.1) = false := by rfl) : PI X (.Tuple elts kk tpos) (.Call (.Name "zip" p) [e, e2] [] pos) (iZipA K ta) := by subst hK; exact pi_zipA hg hm ha hs hpl
theorem k_isiT (hK : X.K = K) : CallR X (.builtin "isinstance") (rIsiT K) := by subst hK; exact call_isiT
theorem tyx_l {a : Addr} {xs : List V} (h : SqL K H a xs) : TyX K H (.ref a) (.type "list") := by
  rcases h with (h | ⟨o, h⟩) | ⟨o, its, n, h, c, _⟩
  · exact .base (.lst h)
  · exact .base (.frz h)
  · exact .kList h c
theorem tyx_t {a : Addr} {xs : List V} (h : SqT K H a xs) : TyX K H (.ref a) (.type "tuple") := by
  rcases h with (h | ⟨o, h⟩) | ⟨o, its, n, h, c, _⟩
  · exact .base (.tup h)
  · exact .fTuple h
  · exact .kTuple h c
def tyn : PyData → String
  | .none => "NoneType"
  | .bool _ => "bool"
  | .int _ => "int"
  | .str _ => "str"
  | .list _ => "list"
  | .tuple _ => "tuple"
  | .dict _ => "dict"
theorem tyx_d {v : V} {d : PyData} (h : Dp K H v d) : TyX K H v (.type (tyn d)) := by
  cases h with
  | non => exact .base .non
  | bl b => exact .base (.bl b)
  | int i => exact .base (.int i)
  | str x => exact .base (.str x)
  | lst h _ => exact tyx_l h
  | tup h _ => exact tyx_t h
theorem isi_x {v : V} {A T : String} {b : Bool} (h : TyX K H v (.type A)) (hk : kitB A T = some b) (q : Q (.bl b) H) : rIsi K [v, .ty T] H Q :=
  ⟨v, .ty T, .type A, .type T, b, rfl, .ty T, h, kit_ty hk, q⟩
theorem kit_two {A B C : String} {b c : Bool} (h1 : kitB A B = some b) (h2 : kitB A C = some c) : PySem.W.kitAny K (.type A) [.type B, .type C] = some (b || c) := by
  refine kitAny_cons (kit_ty h1) (fun e => ?_) (fun e => by rw [e]; rfl)
  subst e
  refine kitAny_cons (kit_ty h2) (fun e => ?_) (fun e => by rw [e]; rfl)
  subst e
  exact kitAny_nil
theorem isiT2 {v : V} {p : Addr} {A B C : String} {b c : Bool} (h : TyX K H v (.type A)) (hp : H p = some (.tup [.ty B, .ty C])) (h1 : kitB A B = some b) (h2 : kitB A C = some c) (q : Q (.bl (b || c)) H) : rIsiT K [v, .ref p] H Q :=
  ⟨v, p, [.ty B, .ty C], .type A, [.type B, .type C], b || c, rfl, hp, .cons (.ty B) (.cons (.ty C) .nil), h, kit_two h1 h2, q⟩
theorem ex_d {H H' : Hp} (e : Ex H H') : ∀ (d : PyData) (v : V), Dp K H v d → Dp K H' v d
  | .none, _, h => by cases h; exact .non
  | .bool _, _, h => by cases h; exact .bl _
  | .int _, _, h => by cases h; exact .int _
  | .str _, _, h => by cases h; exact .str _
  | .dict _, _, h => by cases h
  | .list ds, _, h => by
    cases h with
    | lst h1 h2 => exact .lst (ex_l e h1) (all ds _ h2)
  | .tuple ds, _, h => by
    cases h with
    | tup h1 h2 => exact .tup (ex_t e h1) (all ds _ h2)
where
  all : ∀ (ds : List PyData) (vs : List V), DpAll K H vs ds → DpAll K H' vs ds
  | [], _, h => by cases h; exact .nil
  | d :: ds, _, h => by
    cases h with
    | cons h1 h2 => exact .cons (ex_d e d _ h1) (all ds _ h2)
theorem dp_len : ∀ {vs : List V} {ds : List PyData}, DpAll K H vs ds → vs.length = ds.length
  | _, _, .nil => rfl
  | _, _, .cons _ h => by rw [List.length_cons, List.length_cons, dp_len h]
theorem dp_at : ∀ {vs : List V} {ds : List PyData} {i : Nat} {v : V}, DpAll K H vs ds → vs[i]? = some v → ∃ d, ds[i]? = some d ∧ Dp K H v d
  | _, _, _, _, .nil, e => by simp at e
  | _, _, 0, _, .cons h _, e => by simp at e; subst e; exact ⟨_, rfl, h⟩
  | _, _, i + 1, _, .cons _ h, e => by
    obtain ⟨d, e1, e2⟩ := dp_at (i := i) h (by simpa using e)
    exact ⟨d, by simpa using e1, e2⟩
theorem dp_ints : ∀ ns : List Int, DpAll K H (ns.map V.int) (ns.map PyData.int)
  | [] => .nil
  | n :: ns => .cons (.int n) (dp_ints ns)
/-- data of so many levels, of moderate size -/
inductive Sh : Nat → PyData → Prop
  | non (n : Nat) : Sh n .none
  | bl (n : Nat) (b : Bool) : Sh n (.bool b)
  | int (n : Nat) (i : Int) : Sh n (.int i)
  | str (n : Nat) (x : Str) : Sh n (.str x)
  | lst {n : Nat} {ds : List PyData} (hl : ds.length ≤ 100000) (h : ∀ d ∈ ds, Sh n d) : Sh (n + 1) (.list ds)
  | tup {n : Nat} {ds : List PyData} (hl : ds.length ≤ 100000) (h : ∀ d ∈ ds, Sh n d) : Sh (n + 1) (.tuple ds)
theorem sh_ints (ns : List Int) (h : ns.length ≤ 100000) : Sh 1 (.list (ns.map PyData.int)) := .lst (by rw [List.length_map]; exact h) fun d hd => by
  obtain ⟨n, _, rfl⟩ := List.mem_map.mp hd
  exact .int 0 n
end
/-! ### more readings -/
section
variable {K : PySem.W.Frag} {σ : L2.St} {H H1 : Hp} {g : TG} {tt : TT} {te : TE} {vs : List Nat} {Dl : Addr} {Q : VK}
theorem x_eqB {m n : Bool} : rEq (.bl m) (.bl n) H Q ↔ Q (.bl (decide (m = n))) H := by
  unfold rEq
  rw [show scal (V.bl m) (V.bl n) = true from rfl]
  cases m <;> cases n <;> simp
theorem x_neB {m n : Bool} : rNe (.bl m) (.bl n) H Q ↔ Q (.bl (!decide (m = n))) H := by
  unfold rNe
  rw [show scal (V.bl m) (V.bl n) = true from rfl]
  cases m <;> cases n <;> simp
theorem x_eqS {m n : Str} : rEq (.str m) (.str n) H Q ↔ Q (.bl (decide (m = n))) H := by
  unfold rEq
  rw [show scal (V.str m) (V.str n) = true from rfl]
  by_cases e : m = n
  · subst e; simp
  · simp [e]
theorem x_neS {m n : Str} : rNe (.str m) (.str n) H Q ↔ Q (.bl (!decide (m = n))) H := by
  unfold rNe
  rw [show scal (V.str m) (V.str n) = true from rfl]
  by_cases e : m = n
  · subst e; simp
  · simp [e]
theorem allL {p : Addr} {bs : List Bool} (h : SqL K H p (bs.map V.bl)) (q : Q (.bl (bs.all id)) H) : rAll K [.ref p] H Q := ⟨p, bs, rfl, h, q⟩
theorem anyL {p : Addr} {bs : List Bool} (h : SqL K H p (bs.map V.bl)) (q : Q (.bl (bs.any id)) H) : rAny K [.ref p] H Q := ⟨p, bs, rfl, h, q⟩
theorem lenL {p : Addr} {xs : List V} (h : SqL K H p xs) (q : Q (.int (xs.length : Nat)) H) : rLen K [.ref p] H Q := ⟨p, xs, rfl, .inl h, q⟩
theorem lenT {p : Addr} {xs : List V} (h : SqT K H p xs) (q : Q (.int (xs.length : Nat)) H) : rLen K [.ref p] H Q := ⟨p, xs, rfl, .inr h, q⟩
theorem x_izipA {a : TA} {R : It → Hp → Prop} : iZipA K a σ H R = a σ H (fun vs H1 => ∃ a b xs ys, vs = [.ref a, .ref b] ∧ ((SqL K H1 a xs ∧ SqL K H1 b ys ∧ R (Itz K a b) H1) ∨ (SqT K H1 a xs ∧ SqT K H1 b ys ∧ R (ItzT K a b) H1))) := rfl
theorem eq_same {v : V} (h : scal v v = true) (q : Q (.bl true) H) : rEq v v H Q := ⟨h, by rw [decide_eq_true rfl]; exact q⟩
theorem g_three {i j l : Nat} {T : Addr} {x y z : V} {QG : L2.St → Hp → Prop} (h : H T = some (.tup [x, y, z])) (q : QG (((σ.set i (some x)).set j (some y)).set l (some z)) H) : gTup K 3 (gCons (gName i) (gCons (gName j) (gCons (gName l) gNil))) (.ref T) σ H QG :=
  ⟨T, [x, y, z], rfl, .inl (.inl h), rfl, x, [y, z], rfl, y, [z], rfl, z, [], rfl, rfl, q⟩
theorem lc_zip {a b : Addr} {xs ys : List V} {j k : Nat} (keep : Nat → Bool) (f : Nat → V) (hx : SqL K H1 a xs) (hy : SqL K H1 b ys) (he0 : xs.length = ys.length) (hD : H1 Dl = none) (hn : xs.length ≤ 100000)
    (hw : ∀ u v : V, wipe (((wipe σ vs).set j (some u)).set k (some v)) vs = wipe σ vs)
    (ht : ∀ i x y, xs[i]? = some x → ys[i]? = some y → Evl.EvT tt (((wipe σ vs).set j (some x)).set k (some y)) H1 (keep i))
    (he : ∀ i x y, xs[i]? = some x → ys[i]? = some y → keep i = true → Evl.Ev te (((wipe σ vs).set j (some x)).set k (some y)) H1 (f i))
    (hd : ∀ H', Evl.Ex H1 H' → H' Dl = some (.lst (kept xs.length keep f)) → Q (.ref Dl) H') : LcG (Itz K a b) (gTup K 2 (gCons (gName j) (gCons (gName k) gNil))) tt te vs σ Dl H1 Q := by
  have gx : ∀ i, i < xs.length → xs[i]? = some (xs.getD i .non) := fun i hi => by rw [List.getD_eq_getElem?_getD, List.getElem?_eq_getElem hi]; rfl
  have gy : ∀ i, i < xs.length → ys[i]? = some (ys.getD i .non) := fun i hi => by rw [List.getD_eq_getElem?_getD, List.getElem?_eq_getElem (by omega)]; rfl
  refine lc_pure xs.length (fun i => ((wipe σ vs).set j (some (xs.getD i .non))).set k (some (ys.getD i .non))) keep f hD hn (fun H' e => ⟨xs, ys, Evl.ex_l e hx, Evl.ex_l e hy, .inl (Nat.le_refl _)⟩)
    (fun i H' hi e => ⟨xs, ys, _, _, Evl.ex_l e hx, Evl.ex_l e hy, gx i hi, gy i hi⟩)
    (fun i H' x H'' QG hi e y q => ?_) (fun i hi => hw _ _) (fun i hi => ht i _ _ (gx i hi) (gy i hi)) (fun i hi => he i _ _ (gx i hi) (gy i hi)) hd
  obtain ⟨T, u, v, rfl, hT, rfl, hf, hf2⟩ := y
  have hu := hf xs (Evl.ex_l e hx)
  have hv := hf2 ys (Evl.ex_l e hy)
  have e1 : xs.getD i .non = u := by rw [List.getD_eq_getElem?_getD, hu]; rfl
  have e2 : ys.getD i .non = v := by rw [List.getD_eq_getElem?_getD, hv]; rfl
  refine g_two upd_same ?_
  have q2 := q (Evl.Ex.new hT)
  rw [e1, e2] at q2
  exact q2
theorem lc_zipT {a b : Addr} {xs ys : List V} {j k : Nat} (keep : Nat → Bool) (f : Nat → V) (hx : SqT K H1 a xs) (hy : SqT K H1 b ys) (he0 : xs.length = ys.length) (hD : H1 Dl = none) (hn : xs.length ≤ 100000)
    (hw : ∀ u v : V, wipe (((wipe σ vs).set j (some u)).set k (some v)) vs = wipe σ vs)
    (ht : ∀ i x y, xs[i]? = some x → ys[i]? = some y → Evl.EvT tt (((wipe σ vs).set j (some x)).set k (some y)) H1 (keep i))
    (he : ∀ i x y, xs[i]? = some x → ys[i]? = some y → keep i = true → Evl.Ev te (((wipe σ vs).set j (some x)).set k (some y)) H1 (f i))
    (hd : ∀ H', Evl.Ex H1 H' → H' Dl = some (.lst (kept xs.length keep f)) → Q (.ref Dl) H') : LcG (ItzT K a b) (gTup K 2 (gCons (gName j) (gCons (gName k) gNil))) tt te vs σ Dl H1 Q := by
  have gx : ∀ i, i < xs.length → xs[i]? = some (xs.getD i .non) := fun i hi => by rw [List.getD_eq_getElem?_getD, List.getElem?_eq_getElem hi]; rfl
  have gy : ∀ i, i < xs.length → ys[i]? = some (ys.getD i .non) := fun i hi => by rw [List.getD_eq_getElem?_getD, List.getElem?_eq_getElem (by omega)]; rfl
  refine lc_pure xs.length (fun i => ((wipe σ vs).set j (some (xs.getD i .non))).set k (some (ys.getD i .non))) keep f hD hn (fun H' e => ⟨xs, ys, Evl.ex_t e hx, Evl.ex_t e hy, .inl (Nat.le_refl _)⟩)
    (fun i H' hi e => ⟨xs, ys, _, _, Evl.ex_t e hx, Evl.ex_t e hy, gx i hi, gy i hi⟩)
    (fun i H' x H'' QG hi e y q => ?_) (fun i hi => hw _ _) (fun i hi => ht i _ _ (gx i hi) (gy i hi)) (fun i hi => he i _ _ (gx i hi) (gy i hi)) hd
  obtain ⟨T, u, v, rfl, hT, rfl, hf, hf2⟩ := y
  have hu := hf xs (Evl.ex_t e hx)
  have hv := hf2 ys (Evl.ex_t e hy)
  have e1 : xs.getD i .non = u := by rw [List.getD_eq_getElem?_getD, hu]; rfl
  have e2 : ys.getD i .non = v := by rw [List.getD_eq_getElem?_getD, hv]; rfl
  refine g_two upd_same ?_
  have q2 := q (Evl.Ex.new hT)
  rw [e1, e2] at q2
  exact q2
theorem all_true (n : Nat) : ((List.replicate n true).all id) = true := by
  induction n with
  | zero => rfl
  | succ n ih => rw [List.replicate_succ, List.all_cons, ih]; rfl
theorem kept_const (n : Nat) (v : V) : kept n (fun _ => true) (fun _ => v) = List.replicate n v := by
  rw [kept_all]
  apply List.ext_getElem?
  intro j
  rw [List.getElem?_map]
  by_cases h : j < n
  · rw [List.getElem?_range h, List.getElem?_replicate, if_pos h]
    rfl
  · rw [List.getElem?_eq_none (by rw [List.length_range]; omega), List.getElem?_eq_none (by rw [List.length_replicate]; omega)]
    rfl
end
end BC

set_option Elab.async false
set_option linter.all false
set_option maxRecDepth 100000
set_option maxHeartbeats 4000000
/-! repr of lists wants to know that no repr is under way around: promises that hold where nothing is guarded -/
namespace BC
open PySem PySem.Spec PyProof.Rows L2 Evl
/-- nothing is guarded around -/
def G0 (A : Around) : Prop := A.guards = some []
theorem G0.deeper {A : Around} (g : G0 A) (env : Env) : G0 (A.deeper env) := g
/-- FnOk where nothing is guarded around -/
structure FnG (P : Program) (w : World) (K : PySem.W.Frag) (mg : Str → Option Value) (base : Heap) (CX : CXT) (k : Nat) (f : Addr) (fd : FuncData) (ps : List Str) (sp : Sp) : Prop where
  size : ∀ vs H Q E, sp vs H Q E → vs.length = ps.length
  go : ∀ (A : Around) (outer : List Env) (s : Shared) (H : Hp) (args : Args) (us : List Value) (vs : List V) (Q : VK) (E : XK), G0 A → Room k A → Env0 P w K mg base A outer s H →
    BindsTo s fd args (ps.zip us) → Vals vs us → sp vs H Q E → codeAny (model P w) A (.call (.ref f) args) (CR CX outer P w H s Q E) s
section
variable {P : Program} {w : World} {K : PySem.W.Frag} {mg : Str → Option Value} {base : Heap} {CX : CXT} {k : Nat} {f : Addr} {fd : FuncData} {ps : List Str} {sp : Sp}
theorem FnG.of (F : FnOk P w K mg base CX k f fd ps sp) : FnG P w K mg base CX k f fd ps sp :=
  ⟨F.len, fun A outer s H args us vs Q E _ => F.run A outer s H args us vs Q E⟩
theorem FnG.up (F : FnG P w K mg base CX k f fd ps sp) {j : Nat} (h : k ≤ j) : FnG P w K mg base CX j f fd ps sp :=
  ⟨F.size, fun A outer s H args us vs Q E g hr => F.go A outer s H args us vs Q E g (hr.mono h)⟩
/-- the rule for a def -/
theorem fun_okG {x qual : Str} {st : Stmt} {N : List Str} (F : Fun K x qual st f fd) (S : FnScope N ps (defScope st)) (size : ∀ vs H Q E, sp vs H Q E → vs.length = ps.length)
    (body : ∀ (cdv : Value) (A : Around) (outer : List Env) (s : Shared) (H : Hp) (vs : List V) (Q : VK) (E : XK), G0 (A.deeper (envOfC qual (defScope st) s.heap.objs.size f cdv)) → Room k (A.deeper (envOfC qual (defScope st) s.heap.objs.size f cdv)) → sp vs H Q E →
      ∃ t, PSs (cxOf CX P w K mg base N qual (defScope st) f cdv A outer s H E) (defBody st) t ∧ t { nx := fun _ H' => Q .non H', rt := Q } (start N vs) H) : FnG P w K mg base CX (k + 1) f fd ps sp := by
  obtain ⟨oc, od, kV, doc, pm, an, cdv, ct, osl, rfl, lk, hcd⟩ := F.ex
  refine ⟨size, fun A outer s H args us vs Q E g room env bind vals prom => ?_⟩
  have inK : K.In s.heap := env.mod.kin.keeps fun b o q => (env.bs b o q).1
  have loose : s.heap.NoLimit := env.mod.nolimit.keeps fun b o q => (env.bs b o q).1
  have kinds : ∀ z ∈ ps.zip us, (defScope st).names.lookup z.1 = some .local ∨ ((defScope st).names.lookup z.1 = some .cell ∧ ((cellsFrom (s.heap.objs.size + 1) (defScope st).names []).lookup z.1).isSome = true) := by
    rintro ⟨n, v⟩ hz
    have hn := (List.of_mem_zip hz).1
    rcases S.par n hn with h | h
    · exact Or.inl h
    · exact Or.inr ⟨h, PySem.W.cellsFrom_some _ _ _ (Or.inl h)⟩
  refine codeAny_call_function room.depth (inK _ _ lk) rfl S.co S.gen rfl (PySem.W.codeRec_of inK hcd) (bind _ _ _ _ ?_)
  refine wpAny_newFunctionEnv_cells S.kind kinds fun env' e1 s1 into => ?_
  subst e1
  refine ⟨loose.keeps into.toInCall.keep, codeAny_func ?_⟩
  obtain ⟨t, deriv, read⟩ := body cdv A outer s H vs Q E (g.deeper _) (room.deeper _) prom
  have I := inv_start (CX := CX) (E := E) S room.hd env (size _ _ _ _ prom) vals into
  refine wpAny_mono (deriv.run [] s1 (start N vs) H _ I read) (fun flow s' ends => ?_) fun _ _ q => q
  have done : ∀ {σ2 : L2.St} {H2 : Hp} {v : V} {u : Value}, Inv (cxOf CX P w K mg base N qual (defScope st) f cdv A outer s H E) [] σ2 H2 s' → RelV v u → Q v H2 → CE outer P w H s Q u s' := by
    intro σ2 H2 v u J rel q
    exact ⟨v, H2, J.os, J.bare, J.base, J.hok, rel, q⟩
  match flow, ends with
  | .ret u, ends =>
    obtain ⟨v, σ2, H2, J, rel, q⟩ := ends
    exact done J rel q
  | .next, ends =>
    obtain ⟨σ2, H2, J, q⟩ := ends
    exact done (v := V.non) (u := Value.none) J rfl q
  | .brk, ends =>
    obtain ⟨_, _, _, q⟩ := ends
    exact q.elim
  | .cont, ends =>
    obtain ⟨_, _, _, q⟩ := ends
    exact q.elim
end
section
variable {X : Cx} {CX : CXT} {k : Nat} {f : Addr} {fd : FuncData} {ps : List Str} {sp : Sp} {dvs : List V} {ds : List Value} {E : XK} {x : Str} {p pos : Pos} {e : Expr} {es : List Expr} {t : TA}
theorem call_G {pins : List (Addr × Obj)} {σ : L2.St} {H : Hp} {s : Shared} {Q : VK} {us : List Value} {vs : List V} (F : FnG X.prog X.w X.K X.mg X.base CX k f fd ps sp) (g : G0 X.A) (hr : Room k X.A) (hb : Binds X.K fd ps ds) (hd : Vals dvs ds)
    (hx : Passes CX X E) (I : Inv X pins σ H s) (r : Vals vs us) (h : sp (vs ++ dvs) H Q E) : wpAny (model X.prog X.w) X.A (call (.ref f) us) (EP X pins σ Q) X.xe s := by
  have both : Vals (vs ++ dvs) (us ++ ds) := r.append hd
  have many : (us ++ ds).length = ps.length := both.length.symm.trans (F.size _ _ _ _ h)
  have run := F.go X.A X.stack s H ⟨us, []⟩ (us ++ ds) (vs ++ dvs) Q E g hr I.env0 (hb s us I.kIn many) both h
  refine wpAny_call (codeAny_mono run fun res s' q => ?_)
  match res, q with
  | .error err, q => exact hx pins σ H s err s' I q
  | .ok (.ret u), q => exact I.after q
theorem pe_callG (F : FnG X.prog X.w X.K X.mg X.base CX k f fd ps sp) (g : G0 X.A) (hr : Room k X.A) (hg : Gl X x) (hm : X.mg x = some (.ref f)) (hk : PySem.W.keepIn X.K (.ref f) = true) (hb : Binds X.K fd ps ds) (hd : Vals dvs ds) (hx : Passes CX X E)
    (ha : PA X (e :: es) t) (hdb : (x == ("__debug__" : Str)) = false := by decide) (he : starEach (e :: es) X.env = (false, eval e X.env) :: starEach es X.env := by rfl) (hpl : (backTo pos (starEach es X.env)).any (·.1) = false := by rfl) :
    PE X (.Call (.Name x p) (e :: es) [] pos) (tCall sp dvs E t) := by
  constructor
  intro pins s σ H Q I h
  have args := ha.run pos pins s σ H _ I h
  refine wpAny_Call_Name_kw (ld_glob I hg hm (PySem.W.callWith_K (h₀ := X.base) I.ok.mod.kin hk (thn args ?_) he hpl) hdb)
  rintro us s1 ⟨vs, H1, I1, r, q⟩
  exact ⟨I1.kIn, call_G F g hr hb hd hx I1 r q⟩
end

/-! ### the law's own call, for a promise of this kind -/
section
variable {P : Program} {w : World} {K : PySem.W.Frag} {mg mb : Str → Option Value} {k : Nat} {fa a : Addr} {fd : FuncData} {x : Str} {sp : Sp} {s : Shared} {vs : List Value} {ns : List Int}
/-- the abstract heap at the entry: the script alone, locked; or nothing, where the script is the module's own -/
def entryH (a : Addr) (vs : List Value) (ns : List Int) (own : Bool) : Hp := fun b => if own = false ∧ b = a then some (.frz { cls := .type "list", data := .seq vs.toArray } (.lst (ns.map V.int))) else none
theorem entry_other {own : Bool} {b : Addr} (h : b ≠ a) : entryH a vs ns own b = none := if_neg fun z => h z.2
theorem entry_own {b : Addr} : entryH a vs ns true b = none := if_neg fun z => nomatch z.1
theorem entry_at : entryH a vs ns false a = some (.frz { cls := .type "list", data := .seq vs.toArray } (.lst (ns.map V.int))) := if_pos ⟨rfl, rfl⟩
theorem entry_case {own : Bool} {b : Addr} {o : HO} (h : entryH a vs ns own b = some o) : own = false ∧ b = a ∧ o = .frz { cls := .type "list", data := .seq vs.toArray } (.lst (ns.map V.int)) := by
  unfold entryH at h
  by_cases q : own = false ∧ b = a
  · rw [if_pos q] at h
    exact ⟨q.1, q.2, (Option.some.inj h).symm⟩
  · rw [if_neg q] at h
    cases h
theorem law_goG (hK : K.In s.heap) (hns : s.heap.Ns mainGlobals mg) (hb : s.heap.Ns builtinsNs mb) (hbb : ∀ x : Str, x ≠ "__name__" → mb x = bootBuiltins x) (hlim : s.heap.NoLimit) (hg : s.gens = #[])
    (ha : s.heap.get? a = some { cls := .type "list", data := .seq vs.toArray }) (hi : IntsAre vs ns) (hl : ns.length ≤ sizeLine) (hr : Room k callerA)
    (F : ∀ base : Heap, K.In base → base.Ns mainGlobals mg → FnG P w K mg base CX0 k fa fd [x] sp) (bind : ∀ (s : Shared) (u : Value), BindsTo s fd ⟨[u], []⟩ [(x, u)])
    (prom : ∀ H : Hp, SqL K H a (ns.map V.int) → sp [.ref a] H (fun v _ => v = .bl true) fun _ _ _ => False) :
    codeAny (model P w) callerA (.call (.ref fa) ⟨[.ref a], []⟩) (fun r s' => r = .ok (.ret (.bool true)) ∧ OldK s.heap s'.heap ∧ s'.os = s.os ∧ AllBare s'.gens) s := by
  have rv := vals_ints hi
  have many := hi.length
  obtain ⟨own, hown⟩ : ∃ own : Bool, own = (K.lookup a).isSome := ⟨_, rfl⟩
  let H : Hp := entryH a vs ns own
  have reads : SqL K H a (ns.map V.int) := by
    cases q : K.lookup a with
    | none =>
      have e : own = false := by rw [hown, q]; rfl
      exact Or.inl (Or.inr ⟨_, by show entryH a vs ns own a = _; rw [e]; exact entry_at⟩)
    | some o =>
      have z := hK a o q
      rw [ha] at z
      cases z
      refine Or.inr ⟨_, vs.toArray, _, q, rfl, rfl, rfl, ?_, ?_⟩
      · rw [List.size_toArray, many]
        exact hl
      · exact rv
  have held : HOk P w H s.heap := fun b o q => by
    obtain ⟨_, rfl, rfl⟩ := entry_case q
    exact ⟨ha, by rw [List.length_map]; exact hl, vs, _, rv, ha⟩
  have spare : ∀ {b : Addr} {o : Obj}, s.heap.get? b = some o → (∀ u n, o.data ≠ .seq u n) → H b = none := fun {b o} e d => by
    cases q : H b with
    | none => rfl
    | some u =>
      obtain ⟨_, rfl, _⟩ := entry_case q
      rw [ha] at e
      cases e
      exact absurd rfl (d _ _)
  have nsT : ∀ {b : Addr} {m : Str → Option Value}, s.heap.Ns b m → (hidT s.heap H).Ns b m := by
    rintro b m ⟨o, es, ep, e, d, r⟩
    exact ⟨o, es, ep, hidT_get e (spare e fun u n z => by rw [d] at z; cases z), d, r⟩
  have kT : K.In (hidT s.heap H) := fun b o e => hidT_get (hK b o e) (by
    cases q : H b with
    | none => rfl
    | some u =>
      obtain ⟨z, rfl, _⟩ := entry_case q
      rw [hown, e] at z
      cases z)
  have module : Mod K mg (hidT s.heap H) := ⟨kT, nsT hns, ⟨mb, nsT hb, hbb⟩, by obtain ⟨mc, h1, h2⟩ := hlim; exact ⟨mc, nsT h1, h2⟩⟩
  have entry : Env0 P w K mg (hidT s.heap H) callerA [] s H :=
    ⟨rfl, module, fun b o e => of_hidT e, Nat.le_of_eq (hidT_size _ _), trivial, fun b z => (List.not_mem_nil z).elim, held, .of_eq hg⟩
  have ran := (F _ kT (nsT hns)).go callerA [] s H ⟨[.ref a], []⟩ [.ref a] [.ref a] _ _ rfl hr entry (bind s (.ref a)) (.cons rfl .nil) (prom H reads)
  refine codeAny_mono ran fun r s' q => ?_
  match r, q with
  | .ok (.ret u), q =>
    obtain ⟨v, H', os, bare, un, held', rel, fin⟩ := q
    obtain rfl : v = .bl true := fin
    obtain rfl : u = Value.bool true := rel
    refine ⟨rfl, OldK.of_keep fun b o e => ?_, os, bare⟩
    cases q : H b with
    | none => exact un.keep b o e q (fun z => (List.not_mem_nil z).elim) List.not_mem_nil
    | some u =>
      obtain ⟨_, rfl, rfl⟩ := entry_case q
      have z := (held' _ _ (un.frzs _ _ _ q)).1
      rw [ha] at e
      cases e
      exact z
theorem walk_G {l : PySem.W.OpenLaw} {n k : Nat} {q : Program} {loose : List Str} {XP : (Str → Option Value) → Heap → Prop} {YP : World → Heap → Prop} {d : DefRec} {K : Params → PySem.W.Frag} {sp : World → Sp} {x : Str}
    (hn : l.most = some n) (hn2 : n ≤ sizeLine) (hdf : d.params.defaults = []) (hr : Room k callerA) (hY : ∀ (w : World) (h : Heap), YP w h → (K w.params).In h)
    (F : ∀ (w : World) (mg : Str → Option Value) (fa : Addr) (h : Heap), (K w.params).In h → h.Ns mainGlobals mg → mg d.name = some (.ref fa) →
      ∃ fd : FuncData, (∀ (s : Shared) (u : Value), BindsTo s fd ⟨[u], []⟩ [(x, u)]) ∧ ∀ base : Heap, (K w.params).In base → base.Ns mainGlobals mg → FnG l.prog w (K w.params) mg base CX0 k fa fd [x] (sp w))
    (prom : ∀ (w : World) (H : Hp) (a : Addr) (ns : List Int), ns.length ≤ n → SqL (K w.params) H a (ns.map V.int) → sp w [.ref a] H (fun v _ => v = .bl true) fun _ _ _ => False) :
    PySem.W.WalkO q loose XP YP l.row.toRowW d [] (fun f vs => PySem.call f vs) := by
  refine Att.attach_call hn hdf ?_
  intro w s0 s1 mg mb fa o pm cd doc a vs ns G Y _ hd hcd hmg hobj hints hlen hg
  have inK := hY w _ Y
  obtain ⟨fd, bind, keep⟩ := F w mg fa _ inK G.T.g hmg
  exact law_goG inK G.T.g G.T.b G.T.builtins G.T.nolimit hg hobj hints (Nat.le_trans hlen hn2) hr keep bind fun H hS => prom w H a ns hlen hS
end
end BC

set_option Elab.async false
set_option linter.all false
set_option maxRecDepth 100000
set_option maxHeartbeats 4000000
/-! repr, keywords, more readings -/
namespace BC
open PySem PySem.Spec PyProof.Rows L2 Evl
section
variable {X : Cx} {K : PySem.W.Frag} {σ : L2.St} {H : Hp} {Q : VK}
/-- repr of lists, tuples and what lies in them -/
def rRepr (K : PySem.W.Frag) : List V → Hp → VK → Prop := fun xs H Q => ∃ a d, xs = [.ref a] ∧ Dp K H (.ref a) d ∧ d.showable = true ∧ d.depth ≤ 60 ∧ d.hasDict = false ∧ d.shown.length ≤ sizeLine ∧ Q (.str d.shown) H
theorem k_repr (hK : X.K = K) (g : G0 X.A) (hu : X.A.units + 64 < cLine) : CallR X (.builtin "repr") (rRepr K) := by
  subst hK
  intro pins s σ H xs us Q I r h
  obtain ⟨a, d, rfl, hd, h1, h2, h3, h4, q⟩ := h
  obtain ⟨u, rfl, rfl⟩ := vals1 r
  obtain ⟨as, rd⟩ := Dp.reads I d (.ref a) (.ref a) hd rfl
  exact repr_of_reads' rd h1 (PyData.noDict_hsm h3) g (by omega) (fun _ _ e => e) (fun h' u tk hk => ⟨.str _, H, I.kept hk, ⟨_, rfl⟩, q⟩) h4
def rIsB : R2 := fun x y H Q => ∃ a b, x = .bl a ∧ y = .bl b ∧ Q (.bl (decide (a = b))) H
def rIsNB : R2 := fun x y H Q => ∃ a b, x = .bl a ∧ y = .bl b ∧ Q (.bl (!decide (a = b))) H
theorem op_isB : OpR X (compareOp .Is) rIsB := op_is_bl
theorem op_isNB : OpR X (compareOp .IsNot) rIsNB := op_isnot_bl
theorem x_isB {a b : Bool} : rIsB (.bl a) (.bl b) H Q ↔ Q (.bl (decide (a = b))) H := ⟨fun ⟨i, j, e1, e2, q⟩ => by cases e1; cases e2; exact q, fun q => ⟨a, b, rfl, rfl, q⟩⟩
theorem x_isNB {a b : Bool} : rIsNB (.bl a) (.bl b) H Q ↔ Q (.bl (!decide (a = b))) H := ⟨fun ⟨i, j, e1, e2, q⟩ => by cases e1; cases e2; exact q, fun q => ⟨a, b, rfl, rfl, q⟩⟩
theorem x_lrg {te : L2.St → Hp → (Int → Int → Hp → Prop) → Prop} : tLstRg te σ H Q = te σ H fun a b H1 => RgOk a b ∧ ∀ q, H1 q = none → Q (.ref q) (upd H1 q (.lst (rgV a b))) := rfl
theorem x_rg1 {ta : TE} {R : Int → Int → Hp → Prop} : tRg1 ta σ H R = ta σ H fun x H1 => ∃ n, x = .int n ∧ R 0 n H1 := rfl
theorem x_rg2 {ta tb : TE} {R : Int → Int → Hp → Prop} : tRg2 ta tb σ H R = ta σ H fun x H1 => tb σ H1 fun y H2 => ∃ i j, x = .int i ∧ y = .int j ∧ R i j H2 := rfl
end
theorem Fx.mut {b r : Addr} {H H' : Hp} {o : HO} (f : Fx b H H') (n : H r = none) : Fx b H (upd H' r o) := fun a u na h => by rw [upd_ne (ne_of_none h n)]; exact f a u na h
theorem fx_none {b x : Addr} {H H' : Hp} (h : Fx b H H') (n : H' x = none) (nb : x ≠ b) : H x = none := by
  cases e : H x with
  | none => rfl
  | some o => rw [h _ _ nb e] at n; cases n
/-- a promise that asks for more -/
theorem weak {P : Program} {w : World} {K : PySem.W.Frag} {mg : Str → Option Value} {base : Heap} {CX : CXT} {k : Nat} {f : Addr} {fd : FuncData} {ps : List Str} {sp sp' : Sp} (F : FnOk P w K mg base CX k f fd ps sp) (h : ∀ vs H Q E, sp' vs H Q E → sp vs H Q E) : FnOk P w K mg base CX k f fd ps sp' :=
  ⟨fun vs H Q E q => F.len vs H Q E (h _ _ _ _ q), fun A outer s H args us vs Q E hr env bind vals q => F.run A outer s H args us vs Q E hr env bind vals (h _ _ _ _ q)⟩
/-! ### a cut: what stands after one statement -/
section
variable {σ : L2.St} {H : Hp} {D : Ends} {ta : TE} {s1 s2 : TS} {i : Nat}
theorem seq_asg (C : V → Hp → Prop) (h1 : ∀ R : VK, (∀ v H', C v H' → R v H') → ta σ H R) (h2 : ∀ v H', C v H' → s2 D (σ.set i (some v)) H') : tSeq (tAsg ta (gName i)) s2 D σ H := h1 _ h2
theorem seq_cut (C : L2.St → Hp → Prop) (h1 : ∀ N : L2.St → Hp → Prop, (∀ σ' H', C σ' H' → N σ' H') → s1 { D with nx := N } σ H) (h2 : ∀ σ' H', C σ' H' → s2 D σ' H') : tSeq s1 s2 D σ H := h1 _ h2
end
/-! ### keywords -/
def kg {α : Type} (d : α) (a b : Nat) (perm : List Nat) (us ws : List α) : List α := if us.length = a ∧ ws.length = b then perm.map fun i => (us ++ ws).getD i d else []
theorem vals_getD : ∀ {vs : List V} {us : List Value}, Vals vs us → ∀ i, RelV (vs.getD i .non) (us.getD i .none)
  | [], [], .nil, _ => rfl
  | _ :: _, _ :: _, .cons h _, 0 => h
  | _ :: _, _ :: _, .cons _ r, i + 1 => vals_getD r i
theorem vals_perm {vs : List V} {us : List Value} (r : Vals vs us) : ∀ p : List Nat, Vals (p.map fun i => vs.getD i .non) (p.map fun i => us.getD i .none)
  | [] => .nil
  | i :: p => .cons (vals_getD r i) (vals_perm r p)
theorem kg_rel {a b : Nat} {p : List Nat} {vs : List V} {us : List Value} {zs : List V} {ws : List Value} (r : Vals vs us) (z : Vals zs ws) : Vals (kg .non a b p vs zs) (kg .none a b p us ws) := by
  unfold kg
  rw [r.length, z.length]
  split
  · exact vals_perm (r.append z) p
  · exact .nil
theorem kg_mk {K : PySem.W.Frag} {fd : FuncData} {q : Str} {ps ks : List Str} {a b : Nat} {p : List Nat} (h : ∀ us ws : List Value, us.length = a → ws.length = b → bindArgs fd ⟨us, ks.zip ws⟩ = pure ((q :: ps).zip (p.map fun i => (us ++ ws).getD i .none))) :
    KBinds K fd (q :: ps) ks (kg .none a b p) (kg .non a b p) := by
  refine ⟨fun s us ws _ hl => ?_, kg_rel⟩
  unfold kg at hl ⊢
  split at hl
  · next c =>
    rw [if_pos c]
    exact .of_eq (h us ws c.1 c.2)
  · cases hl
theorem fun_okN {P : Program} {w : World} {K : PySem.W.Frag} {mg : Str → Option Value} {base : Heap} {CX : CXT} {k : Nat} {f : Addr} {fd : FuncData} {ps : List Str} {sp : Sp} {x qual : Str} {st : Stmt} {N : List Str} (F : Fun K x qual st f fd) (S : FnScope N ps (defScope st)) (size : ∀ vs H Q E, sp vs H Q E → vs.length = ps.length)
    (body : ∀ (cdv : Value) (A : Around) (outer : List Env) (s : Shared) (H : Hp) (vs : List V) (Q : VK) (E : XK), G0 (A.deeper (envOfC qual (defScope st) s.heap.objs.size f cdv)) → Room k (A.deeper (envOfC qual (defScope st) s.heap.objs.size f cdv)) → sp vs H Q E →
      ∃ t, PSs (cxOf CX P w K mg base N qual (defScope st) f cdv A outer s H E).nox (defBody st) t ∧ t { nx := fun _ H' => Q .non H', rt := Q } (start N vs) H) : FnG P w K mg base CX (k + 1) f fd ps sp :=
  fun_okG F S size fun cdv A outer s H vs Q E hG hr h => let ⟨t, d, q⟩ := body cdv A outer s H vs Q E hG hr h; ⟨t, d.nox, q⟩
theorem Fun.kb {K : PySem.W.Frag} {x qual q : Str} {st : Stmt} {f : Addr} {fd : FuncData} {ps ks : List Str} {a b : Nat} {p : List Nat} (F : Fun K x qual st f fd)
    (h : ∀ (kV doc pm : Value) (an : Option Addr) (cdv ct : Value) (us ws : List Value), us.length = a → ws.length = b → bindArgs (PySem.W.fnOf x qual (defArgs st) (defBody st) (defScope st) .none kV doc pm an cdv ct) ⟨us, ks.zip ws⟩ = pure ((q :: ps).zip (p.map fun i => (us ++ ws).getD i .none))) :
    KBinds K fd (q :: ps) ks (kg .none a b p) (kg .non a b p) := by
  obtain ⟨oc, od, kV, doc, pm, an, cdv, ct, osl, rfl, lk, hcd⟩ := F.ex
  exact kg_mk (h kV doc pm an cdv ct)
section
variable {X : Cx} {CX : CXT} {k : Nat} {f : Addr} {fd : FuncData} {ps ks : List Str} {sp : Sp} {E : XK} {x : Str} {p pos : Pos} {e : Expr} {es : List Expr} {kws : List Keyword} {t tk : TA} {g : List Value → List Value → List Value} {gV : List V → List V → List V}
theorem pe_callK0 (F : FnOk X.prog X.w X.K X.mg X.base CX k f fd ps sp) (hr : Room k X.A) (hg : Gl X x) (hm : X.mg x = some (.ref f)) (hk : PySem.W.keepIn X.K (.ref f) = true) (hb : KBinds X.K fd ps ks g gV) (hx : Passes CX X E)
    (hkw : PK X kws tk) (hall : (backToKw pos (keywordEach kws X.env)).all (·.1.isSome) = true := by rfl) (hks : (backToKw pos (keywordEach kws X.env)).filterMap (·.1) = ks := by rfl)
    (hdb : (x == ("__debug__" : Str)) = false := by decide)
    (hpl : ((backTo pos (starEach [] X.env)).any (·.1) || (backToKw pos (keywordEach kws X.env)).any (·.1.isNone)) = false := by rfl) :
    PE X (.Call (.Name x p) [] kws pos) (tCallK sp gV E tNil tk) := by
  refine ⟨fun pins s σ H Q I h => ?_⟩
  refine wpAny_Call_Name_kw (ld_glob I hg hm ?_ hdb)
  refine PySem.W.callWith_KW0 (h₀ := X.base) I.ok.mod.kin hk hall (thn (hkw.run pos pins s σ H _ I h) fun ws s2 ⟨zs, H2, I2, rz, q2⟩ => ⟨I2.kIn, ?_⟩) hpl
  rw [hks]
  exact run_fnk F hr hb hx I2 .nil rz q2
theorem run_fnkG {pins : List (Addr × Obj)} {σ : L2.St} {H : Hp} {s : Shared} {Q : VK} {us ws : List Value} {vs zs : List V} (F : FnG X.prog X.w X.K X.mg X.base CX k f fd ps sp) (g0 : G0 X.A) (hr : Room k X.A) (hb : KBinds X.K fd ps ks g gV) (hx : Passes CX X E)
    (I : Inv X pins σ H s) (r : Vals vs us) (rz : Vals zs ws) (h : sp (gV vs zs) H Q E) : wpAny (model X.prog X.w) X.A (call (.ref f) us (ks.zip ws)) (EP X pins σ Q) X.xe s := by
  have r2 := hb.rel r rz
  have hl : (g us ws).length = ps.length := by rw [← r2.length]; exact F.size _ _ _ _ h
  refine wpAny_call (codeAny_mono (F.go X.A X.stack s H ⟨us, ks.zip ws⟩ (g us ws) (gV vs zs) Q E g0 hr I.env0 (hb.to s us ws I.kIn hl) r2 h) fun r s' hq => ?_)
  cases r with
  | error e => exact hx pins σ H s e s' I hq
  | ok fl =>
    cases fl with
    | ret u => exact I.after hq
    | next => exact False.elim hq
    | brk => exact False.elim hq
    | cont => exact False.elim hq
theorem pe_callKG (F : FnG X.prog X.w X.K X.mg X.base CX k f fd ps sp) (g0 : G0 X.A) (hr : Room k X.A) (hg : Gl X x) (hm : X.mg x = some (.ref f)) (hk : PySem.W.keepIn X.K (.ref f) = true) (hb : KBinds X.K fd ps ks g gV) (hx : Passes CX X E)
    (ha : PA X (e :: es) t) (hkw : PK X kws tk) (hall : (backToKw pos (keywordEach kws X.env)).all (·.1.isSome) = true := by rfl) (hks : (backToKw pos (keywordEach kws X.env)).filterMap (·.1) = ks := by rfl)
    (hdb : (x == ("__debug__" : Str)) = false := by decide) (he : starEach (e :: es) X.env = (false, eval e X.env) :: starEach es X.env := by rfl)
    (hpl : ((backTo pos (starEach (e :: es) X.env)).any (·.1) || (backToKw pos (keywordEach kws X.env)).any (·.1.isNone)) = false := by rfl) :
    PE X (.Call (.Name x p) (e :: es) kws pos) (tCallK sp gV E t tk) := by
  refine ⟨fun pins s σ H Q I h => ?_⟩
  refine wpAny_Call_Name_kw (ld_glob I hg hm ?_ hdb)
  refine PySem.W.callWith_KW (h₀ := X.base) I.ok.mod.kin hk hall (thn (ha.run pos pins s σ H _ I h) fun us s1 ⟨vs, H1, I1, r, q⟩ => ?_) hpl he
  refine thn (hkw.run pos pins s1 σ H1 _ I1 q) fun ws s2 ⟨zs, H2, I2, rz, q2⟩ => ⟨I2.kIn, ?_⟩
  rw [hks]
  exact run_fnkG F g0 hr hb hx I2 r rz q2
end
end BC

set_option Elab.async false
set_option linter.all false
set_option maxRecDepth 100000
set_option maxHeartbeats 4000000
/-! xs[:] = ys -/
namespace BC
open PySem PySem.Spec PyProof.Rows L2 Evl
theorem bounds_all (n : Nat) : sliceBounds none none none n = (((0 : Nat) : Int), ((n : Nat) : Int), 1) := by
  simp [sliceBounds]
section
variable {prog : Program} {w : World} {A : Around} {s : Shared} {E : Value → Shared → Prop}
theorem setItem_all {l b sl : Addr} {items new : Array Value} {n n2 : Nat} {vl vu : Value} {Q : Unit → Shared → Prop}
    (e : s.heap.get? l = some { cls := .type "list", data := .seq items n }) (e2 : s.heap.get? b = some { cls := .type "list", data := .seq new n2 }) (hne : l ≠ b)
    (hs : s.heap.IsSliceOf sl vl vu .none) (pl : IsPart vl none) (pu : IsPart vu none)
    (hsz : items.size + new.size ≤ sizeLine) (h : Q () { s with heap := s.heap.update l (Obj.mapSeq fun xs => xs.extract 0 0 ++ new ++ xs.extract items.size xs.size) }) :
    wpAny (model prog w) A (setItem (.ref l) (.ref sl) (.ref b)) Q E s := by
  have hl : s.heap.IsList l items := PySem.IsL.isList e
  have hb : s.heap.IsList b new := PySem.IsL.isList e2
  obtain ⟨os, hos, hcs, hds⟩ := id hs
  have hTs : s.TypeIs (.ref sl) "slice" := ⟨os, hos, hcs⟩
  have hstep : ¬ ((rawPart none == rawInt 0) = true) := Bool.false_ne_true
  have hsame : Builtin.List.listSameRef (.ref l) (.ref b) = false := by
    unfold Builtin.List.listSameRef
    exact beq_eq_false_iff_ne.mpr hne
  have hmax : (max ((0 : Nat) : Int) ((items.size : Nat) : Int)).toNat = items.size := by omega
  have hz' : ((fun xs : Array Value => xs.extract 0 0 ++ new ++ xs.extract items.size xs.size) items).size ≤ sizeLine + 1 := by
    simp only [Array.size_append, Array.size_extract]
    omega
  unfold setItem
  try with_reducible refine wpAny_holding ?_
  first | refine wpAny_bind (wpAny_pure ?_) | skip
  refine wpAny_bind (wpAny_sequenceKey hl.typeIs (by decide) ?_)
  refine wpAny_bind (wpAny_callSpecial?_slot (name := Str.ofString "__setitem__") hl.typeIs slot_list_setitem
    (wpAny_call_entry slot_list_setitem hl.typeIs entry_list_setitem ?_ (args_list_setitem _ _ _)))
  show wpAny _ _ (Builtin.List.listSubscript? (.ref sl) >>= _) _ _ s
  refine wpAny_bind ?_
  unfold Builtin.List.listSubscript?
  refine wpAny_bind (wpAny_specialOf hTs slice_no_index ?_)
  simp only [Option.isNone_none, if_true]
  refine wpAny_pure ?_
  show wpAny _ _ (typeOf (.ref sl) >>= _) _ _ s
  refine wpAny_bind (wpAny_typeOf hTs ?_)
  first
    | rw [if_neg (by decide)]
    | refine PySem.W.KFB.if_not (by decide) ?_
  rw [listSliceParts_eq]
  refine wpAny_bind (wpAny_bind (wpAny_field hos hds (x := .none) rfl (wpAny_bind (wpAny_listPart .none ?_))))
  rw [if_neg hstep]
  refine wpAny_bind (wpAny_field hos hds (x := vl) rfl (wpAny_bind (wpAny_listPart pl ?_)))
  refine wpAny_bind (wpAny_field hos hds (x := vu) rfl (wpAny_bind (wpAny_listPart pu (wpAny_pure ?_))))
  first
    | simp only [hsame, Bool.false_eq_true, if_false]
    | refine PySem.W.KFB.if_not hsame ?_
    | (dsimp only
       rw [if_neg (by rw [hsame]; exact Bool.false_ne_true)])
  refine wpAny_bind (m := Builtin.List.listAllItems (.ref b) "must assign iterable to extended slice") ?_
  unfold Builtin.List.listAllItems
  refine wpAny_bind (wpAny_typeOf hb.typeIs ?_)
  first
    | refine PySem.W.KFB.if_so (by decide) ?_
    | rw [if_pos (by decide)]
    | simp only [beq_self_eq_true, Bool.true_or, if_true]
  unfold Builtin.List.listItems
  refine wpAny_bind (wpAny_seqItems e2 rfl (wpAny_pure ?_))
  refine wpAny_bind (wpAny_bind (wpAny_seqItems e rfl (wpAny_pure ?_)))
  refine wpAny_bind (wpAny_of_eq ((sliceIndices_raw none none none items.size (by simp)).trans (congrArg (pure : Int × Int × Int → Sem (Int × Int × Int)) (bounds_all items.size))) ?_)
  show wpAny _ _ (if ((1 : Int) == 1) = true then _ else _) _ _ s
  rw [if_pos (by decide)]
  refine wpAny_bind (wpAny_rule ?_)
  first
    | simp only [notLongL hsz, Bool.false_eq_true, if_false]
    | refine PySem.W.KFB.if_not (notLongL hsz) ?_
  first | refine wpAny_bind (wpAny_pure ?_) | skip
  show wpAny _ _ (updateSeq l (fun xs => xs.extract 0 ((0 : Nat) : Int).toNat ++ new ++ xs.extract (max ((0 : Nat) : Int) ((items.size : Nat) : Int)).toNat xs.size) >>= _) _ _ s
  rw [hmax, Int.toNat_natCast]
  refine wpAny_bind (wpAny_updateSeq (hz := Nat.le_trans (Nat.le_add_right _ _) hsz) (_hz' := hz') e rfl ?_)
  refine wpAny_bind (wpAny_letGo ?_)
  first
    | exact wpAny_bind (wpAny_pure (wpAny_pure ⟨.none, rfl, wpAny_pure h⟩))
    | exact wpAny_pure ⟨.none, rfl, wpAny_pure h⟩
end
section
variable {X : Cx} {o e : Expr} {to : TE} {p2 pos : Pos}
/-- o[:] = v, both lists -/
def gAll (to : TE) : TG := fun v σ H QG => to σ H fun x H1 => ∃ a b xs ys, x = .ref a ∧ v = .ref b ∧ a ≠ b ∧ H1 a = some (.lst xs) ∧ H1 b = some (.lst ys) ∧ xs.length + ys.length ≤ sizeLine ∧ QG σ (upd H1 a (.lst ys))
theorem set_all {pins : List (Addr × Obj)} {s : Shared} {σ : L2.St} {H : Hp} {l b sl : Addr} {xs ys : List V} {vl vu : Value} {Q : Unit → Shared → Prop} (I : Inv X pins σ H s)
    (hH : H l = some (.lst xs)) (hB : H b = some (.lst ys)) (hne : l ≠ b) (hs : s.heap.IsSliceOf sl vl vu .none) (pl : IsPart vl none) (pu : IsPart vu none)
    (hz : xs.length + ys.length ≤ sizeLine) (h : ∀ s', Inv X pins σ (upd H l (.lst ys)) s' → Q () s') :
    wpAny (model X.prog X.w) X.A (setItem (.ref l) (.ref sl) (.ref b)) Q X.xe s := by
  obtain ⟨z, its, n, r, hl, e⟩ := I.lstM hH
  obtain ⟨z2, its2, n2, r2, hl2, e2⟩ := I.lstM hB
  refine setItem_all e e2 hne hs pl pu (by rw [List.size_toArray, List.size_toArray]; omega) (h _ ?_)
  refine I.lset (its' := its2) (t' := s.toks) hH e ?_ r2 (by omega)
  simp
theorem pg_all (ho : PE X o to)
    (ha0 : ∀ v, assign (.Subscript o (.Slice none none none p2) pos) X.env v = (do
      let ov ← holding [v] (eval o X.env)
      let iv ← holding [v, ov] (eval (.Slice none none none p2) X.env)
      standAt pos
      holding [v, ov, iv] (setItem ov iv v)
      release [iv, v, ov] []) := by intro _; rfl) : PG X (.Subscript o (.Slice none none none p2) pos) (gAll to) := by
  refine ⟨fun pins s σ H v u Q I r h => ?_⟩
  rw [ha0]
  refine wpAny_bind (wpAny_holding (thn (ho.run pins s σ H _ I h) fun ov s1 ⟨x, H1, I1, r1, q1⟩ => ?_))
  obtain ⟨a, b, xs, ys, rfl, rfl, hne, ha, hb, hz, q⟩ := q1
  cases r1
  cases r
  refine wpAny_bind (wpAny_holding ?_)
  refine wpAny_Slice ?_
  rw [evalPart_none]
  refine wpAny_pure ?_
  refine wpAny_pure ?_
  refine wpAny_pure ?_
  have I4 : Inv X pins σ H1 { s1 with heap := s1.heap.push { cls := .type "slice", data := .fields #[.none, .none, .none] } } := I1.kept (t' := s1.toks) fun b ob q => Heap.get?_push_of_some _ q
  refine wpAny_bind (wpAny_standAt (wpAny_bind (wpAny_holding ?_)))
  refine set_all I4 ha hb hne (Heap.IsSliceOf.new ..) .none .none hz fun s' I5 => ?_
  exact wpAny_release ⟨σ, _, I5, q⟩
def rDivmod : List V → Hp → VK → Prop := fun xs H Q => ∃ i j, xs = [.int i, .int j] ∧ CDivW i j ∧ ∀ p, H p = none → Q (.ref p) (upd H p (.tup [.int (i / j), .int (i % j)]))
theorem call_dmX : CallR X (.builtin "divmod") rDivmod := by
  intro pins s σ H xs us Q I r h
  obtain ⟨i, j, rfl, hc, q⟩ := h
  obtain ⟨u, u2, rfl, ⟨t, rfl⟩, ⟨t2, rfl⟩⟩ := vals2 r
  have pos : 0 < j := hc.1
  have new := I.hok.fresh (Nat.le_refl s.heap.objs.size)
  refine divmod_int (by omega) ?_ (.inl (PyProof.noPylong_of_log2 hc.2))
  rw [Int.fdiv_eq_ediv_of_nonneg i (by omega), Int.fmod_eq_emod_of_nonneg i (by omega)]
  refine ⟨.ref s.heap.objs.size, _, ?_, rfl, q _ new⟩
  refine I.laid (fun b o e => Heap.get?_push_of_some _ e) (Nat.le_refl _) ⟨?_, [.int (i / j) s.toks, .int (i % j) (s.toks + 1)], .cons ⟨_, rfl⟩ (.cons ⟨_, rfl⟩ .nil), ?_⟩
  · exact Evl.sz_of (by simp)
  · exact ⟨_, Heap.get?_push_size s.heap rfl, rfl, 0, rfl⟩
theorem x_gall {σ : L2.St} {H : Hp} {v : V} {QG : L2.St → Hp → Prop} : gAll to v σ H QG = to σ H fun x H1 => ∃ a b xs ys, x = .ref a ∧ v = .ref b ∧ a ≠ b ∧ H1 a = some (.lst xs) ∧ H1 b = some (.lst ys) ∧ xs.length + ys.length ≤ sizeLine ∧ QG σ (upd H1 a (.lst ys)) := rfl
end
end BC

set_option Elab.async false
set_option linter.all false
set_option maxRecDepth 100000
set_option maxHeartbeats 4000000
/-! comprehensions that change what stands, or whose values are chosen as they come -/
namespace BC
open PySem PySem.Spec PyProof.Rows L2 Evl
section
variable {K : PySem.W.Frag} {σ : L2.St} {H1 : Hp} {g : TG} {te : TE} {vs : List Nat} {Dl : Addr} {Q : VK}
theorem lc_rngE {lo : Int} {n : Nat} (Pv : Nat → Hp → Prop) (h0 : Pv 0 (upd H1 Dl (.lst [])))
    (hs : ∀ i H, i < n → Pv i H → g (.int (lo + i)) (wipe σ vs) H fun σ2 H2 => wipe σ2 vs = wipe σ vs ∧ te σ2 H2 fun y H4 => ∃ acc, H4 Dl = some (.lst acc) ∧ acc.length < sizeLine ∧ Pv (i + 1) (upd H4 Dl (.lst (acc ++ [y]))))
    (hd : ∀ H, Pv n H → Q (.ref Dl) H) : LcG (Itr lo n) g tYes te vs σ Dl H1 Q := by
  refine lc_g n Pv h0 (fun H h => Nat.le_refl _) (fun i H hi h => hi) (fun i H x H' hi h y => ?_) hd
  obtain ⟨rfl, rfl⟩ := y
  have q := hs i _ hi h
  exact q
theorem lc_listE {a : Addr} {xs : List V} (Pv : Nat → Hp → Prop) (h0 : Pv 0 (upd H1 Dl (.lst []))) (hl : ∀ i H, i ≤ xs.length → Pv i H → SqL K H a xs)
    (hs : ∀ i x H, xs[i]? = some x → Pv i H → g x (wipe σ vs) H fun σ2 H2 => wipe σ2 vs = wipe σ vs ∧ te σ2 H2 fun y H4 => ∃ acc, H4 Dl = some (.lst acc) ∧ acc.length < sizeLine ∧ Pv (i + 1) (upd H4 Dl (.lst (acc ++ [y]))))
    (hd : ∀ H, Pv xs.length H → Q (.ref Dl) H) : LcG (Itl K a) g tYes te vs σ Dl H1 Q := by
  refine lc_g xs.length Pv h0 (fun H h => ⟨xs, hl _ H (Nat.le_refl _) h, Nat.le_refl _⟩) (fun i H hi h => ⟨xs, xs[i], hl i H (by omega) h, List.getElem?_eq_getElem hi⟩) (fun i H x H' hi h y => ?_) hd
  obtain ⟨rfl, hf⟩ := y
  exact hs i x _ (hf xs (hl i _ (by omega) h)) h
end
/-- a fourfold tuple unpacked -/
theorem g_four {K : PySem.W.Frag} {σ : L2.St} {H : Hp} {i j l m : Nat} {T : Addr} {x y z u : V} {QG : L2.St → Hp → Prop} (h : H T = some (.tup [x, y, z, u])) (q : QG ((((σ.set i (some x)).set j (some y)).set l (some z)).set m (some u)) H) : gTup K 4 (gCons (gName i) (gCons (gName j) (gCons (gName l) (gCons (gName m) gNil)))) (.ref T) σ H QG :=
  ⟨T, [x, y, z, u], rfl, .inl (.inl h), rfl, x, [y, z, u], rfl, y, [z, u], rfl, z, [u], rfl, u, [], rfl, rfl, q⟩
theorem revL {H : Hp} {Q : VK} {p : Addr} {xs : List V} (h : H p = some (.lst xs)) (q : Q .non (upd H p (.lst xs.reverse))) : rReverse (.ref p) [] H Q := ⟨p, xs, rfl, rfl, h, q⟩
theorem Sh.mono {n m : Nat} {d : PyData} (h : Sh n d) (e : n ≤ m) : Sh m d := by
  induction h generalizing m with
  | non n => exact .non m
  | bl n b => exact .bl m b
  | int n i => exact .int m i
  | str n x => exact .str m x
  | @lst n ds hl h ih =>
    cases m with
    | zero => omega
    | succ m => exact .lst hl fun d hd => ih d hd (by omega)
  | @tup n ds hl h ih =>
    cases m with
    | zero => omega
    | succ m => exact .tup hl fun d hd => ih d hd (by omega)
end BC

set_option Elab.async false
set_option linter.all false
set_option maxRecDepth 100000
set_option maxHeartbeats 4000000
/-! visits and their trails, lists of numbers, their repr -/
namespace BC
open PySem PySem.Spec PyProof.Rows L2 Evl
/-! ### data whose repr is short -/
structure Tm (d : PyData) : Prop where
  s : d.showable = true
  n : d.hasDict = false
  l : d.leavesShort 13 = true
theorem Tm.int {i : Int} (h : i.natAbs < 10 ^ 12) : Tm (.int i) := ⟨by
  show decide (i.natAbs.log2 < 1920) = true
  refine decide_eq_true ?_
  by_cases z : i.natAbs = 0
  · rw [z]; decide
  · exact (Nat.log2_lt z).mpr (Nat.lt_of_lt_of_le h (by decide +kernel)), rfl, by
  show decide (_ ≤ 13) = true
  exact decide_eq_true (PyData.shown_int_le h)⟩
theorem Tm.all {ds : List PyData} (h : ∀ d ∈ ds, Tm d) : PyData.showableAll ds = true ∧ PyData.hasDictAll ds = false ∧ PyData.leavesShortAll 13 ds = true := by
  induction ds with
  | nil => exact ⟨rfl, rfl, rfl⟩
  | cons d ds ih =>
    have a := h d List.mem_cons_self
    obtain ⟨b1, b2, b3⟩ := ih fun e m => h e (List.mem_cons_of_mem _ m)
    refine ⟨?_, ?_, ?_⟩
    · show (d.showable && _) = true
      rw [a.s, b1]; rfl
    · show (d.hasDict || _) = false
      rw [a.n, b2]; rfl
    · show (d.leavesShort 13 && _) = true
      rw [a.l, b3]; rfl
theorem Tm.list {ds : List PyData} (h : ∀ d ∈ ds, Tm d) : Tm (.list ds) := ⟨by simp only [PyData.showable]; exact (Tm.all h).1, by simp only [PyData.hasDict]; exact (Tm.all h).2.1, by simp only [PyData.leavesShort]; exact (Tm.all h).2.2⟩
theorem Tm.tuple {ds : List PyData} (h : ∀ d ∈ ds, Tm d) : Tm (.tuple ds) := ⟨by simp only [PyData.showable]; exact (Tm.all h).1, by simp only [PyData.hasDict]; exact (Tm.all h).2.1, by simp only [PyData.leavesShort]; exact (Tm.all h).2.2⟩
theorem wt_int {i : Int} (h : i.natAbs < 2 ^ 40) : (PyData.int i).weight ≤ 40 := by
  simp only [PyData.weight]
  split
  · omega
  · next z =>
    have z0 : i.natAbs ≠ 0 := fun e => z (by rw [Int.natAbs_eq_zero.mp e]; rfl)
    have := (Nat.log2_lt z0).mpr h
    omega
theorem wt_all {ds : List PyData} {n : Nat} (h : ∀ d ∈ ds, d.weight ≤ n) : PyData.weightAll ds ≤ (n + 1) * ds.length := by
  induction ds with
  | nil => simp [PyData.weightAll]
  | cons d ds ih =>
    have a := h d List.mem_cons_self
    have b := ih fun e m => h e (List.mem_cons_of_mem _ m)
    simp only [PyData.weightAll, List.length_cons, Nat.mul_add]
    omega
theorem dep_all {ds : List PyData} {n : Nat} (h : ∀ d ∈ ds, d.depth ≤ n) : PyData.depthAll ds ≤ n := by
  induction ds with
  | nil => simp [PyData.depthAll]
  | cons d ds ih =>
    have a := h d List.mem_cons_self
    have b := ih fun e m => h e (List.mem_cons_of_mem _ m)
    simp only [PyData.depthAll]
    omega
section
variable {K : PySem.W.Frag} {H : Hp} {Q : VK} {a : Addr}
theorem reprX {d : PyData} (h : Dp K H (.ref a) d) (t : Tm d) (dp : d.depth ≤ 60) (wt : d.weight ≤ 2 ^ 20) (q : Q (.str d.shown) H) : rRepr K [.ref a] H Q :=
  ⟨a, d, rfl, h, t.s, dp, t.n, PyData.shown_fits (B := 13) (by decide) (by decide) t.l wt, q⟩
/-- what repr of a list of numbers says -/
def shInts (ns : List Int) : Str := (PyData.list (ns.map PyData.int)).shown
theorem reprInts {ns : List Int} (h : SqL K H a (ns.map V.int)) (hs : ∀ n ∈ ns, n.natAbs < 10 ^ 12) (hl : ns.length ≤ 20000) (q : Q (.str (shInts ns)) H) : rRepr K [.ref a] H Q := by
  refine reprX (.lst h (dp_ints ns)) (.list fun d m => ?_) ?_ ?_ q
  · obtain ⟨n, hn, rfl⟩ := List.mem_map.mp m
    exact .int (hs n hn)
  · simp only [PyData.depth]
    have := dep_all (ds := ns.map PyData.int) (n := 0) fun d m => by
      obtain ⟨n, hn, rfl⟩ := List.mem_map.mp m
      simp [PyData.depth]
    omega
  · simp only [PyData.weight]
    have := wt_all (ds := ns.map PyData.int) (n := 40) fun d m => by
      obtain ⟨n, hn, rfl⟩ := List.mem_map.mp m
      exact wt_int (Nat.lt_of_lt_of_le (hs n hn) (by decide +kernel))
    rw [List.length_map] at this
    omega
/-! ### in, index, a part of a list of numbers -/
theorem flat_ints (ns : List Int) : (ns.map V.int).all flatV = true := by
  rw [List.all_eq_true]
  intro x hx
  obtain ⟨n, _, rfl⟩ := List.mem_map.mp hx
  rfl
theorem inV_ints (p : Int) (ns : List Int) : inV (.int p) (ns.map V.int) = decide (p ∈ ns) := by
  unfold inV
  rw [List.any_map]
  by_cases h : p ∈ ns
  · rw [decide_eq_true h, List.any_eq_true]
    exact ⟨p, h, by simp [eqV]⟩
  · rw [decide_eq_false h, List.any_eq_false]
    intro x hx
    have : x ≠ p := fun e => h (e ▸ hx)
    simp [eqV, this]
theorem inL {p : Int} {ns : List Int} (h : SqL K H a (ns.map V.int)) (q : Q (.bl (decide (p ∈ ns))) H) : rIn K false (.int p) (.ref a) H Q :=
  ⟨a, _, rfl, .inl h, rfl, flat_ints ns, by rw [inV_ints]; exact q⟩
theorem ninL {p : Int} {ns : List Int} (h : SqL K H a (ns.map V.int)) (q : Q (.bl (!decide (p ∈ ns))) H) : rIn K true (.int p) (.ref a) H Q :=
  ⟨a, _, rfl, .inl h, rfl, flat_ints ns, by rw [inV_ints]; exact q⟩
theorem idxL {p : Int} {ns : List Int} (h : SqL K H a (ns.map V.int)) (hp : p ∈ ns) (q : Q (.int (ns.idxOf p : Nat)) H) : rIndex K (.ref a) [.int p] H Q := by
  have hl := List.idxOf_lt_length_of_mem hp
  refine ⟨a, _, _, ns.idxOf p, .int p, rfl, rfl, h, rfl, flat_ints ns, ?_, by simp [eqV], fun m z hm hz => ?_, q⟩
  · rw [List.getElem?_map, List.getElem?_eq_getElem hl, List.getElem_idxOf hl]
    rfl
  · rw [List.getElem?_map] at hz
    have hml : m < ns.length := by omega
    rw [List.getElem?_eq_getElem hml] at hz
    cases hz
    have ne : ns[m] ≠ p := fun e => by
      have := List.not_of_lt_findIdx (p := fun x => x == p) (xs := ns) hm
      simp [e] at this
    simp [eqV, ne]
/-- numbers that are kept -/
theorem kept_ints (n : Nat) (k : Nat → Bool) (f : Nat → Int) : ∃ fr : List Int, kept n k (fun i => V.int (f i)) = fr.map V.int ∧ (∀ x ∈ fr, ∃ i, i < n ∧ k i = true ∧ x = f i) ∧ (fr = [] → ∀ i, i < n → k i = false) := by
  induction n with
  | zero => exact ⟨[], rfl, fun x h => (List.not_mem_nil h).elim, fun _ i h => by omega⟩
  | succ n ih =>
    obtain ⟨fr, h1, h2, h3⟩ := ih
    cases c : k n with
    | true =>
      refine ⟨fr ++ [f n], by rw [kept_yes c, h1, List.map_append]; rfl, fun x h => ?_, fun e => by simp at e⟩
      rcases List.mem_append.mp h with h | h
      · obtain ⟨i, a, b⟩ := h2 x h
        exact ⟨i, by omega, b⟩
      · exact ⟨n, by omega, c, List.mem_singleton.mp h⟩
    | false =>
      refine ⟨fr, by rw [kept_no c, h1], fun x h => ?_, fun e i hi => ?_⟩
      · obtain ⟨i, a, b⟩ := h2 x h
        exact ⟨i, by omega, b⟩
      · by_cases q : i = n
        · rw [q]; exact c
        · exact h3 e i (by omega)
theorem rgV_ints (a b : Int) : rgV a b = ((List.range (b - a).toNat).map fun i => a + ((i : Nat) : Int)).map V.int := by
  unfold rgV
  rw [List.map_map]
  rfl
theorem shp_ints (ns : List Int) : SeqAt.shaped (.list (ns.map PyData.int)) = true := by
  have h1 : ∀ ns : List Int, PyData.canLayAll0 (ns.map PyData.int) = true := fun ns => by
    induction ns with
    | nil => simp [PyData.canLayAll0]
    | cons n ns ih => simp [PyData.canLayAll0, PyData.canLay0, ih]
  have h2 := dep_all (ds := ns.map PyData.int) (n := 0) fun d m => by
      obtain ⟨n, hn, rfl⟩ := List.mem_map.mp m
      simp [PyData.depth]
  show (PyData.canLay0 _ && decide (PyData.depth _ ≤ 64)) = true
  rw [Bool.and_eq_true]
  refine ⟨?_, decide_eq_true ?_⟩
  · simp only [PyData.canLay0]; exact h1 ns
  · simp only [PyData.depth]; omega
theorem eqv_ints : ∀ ns ms : List Int, PyData.eqv (.list (ns.map PyData.int)) (.list (ms.map PyData.int)) = decide (ns = ms) := fun ns ms => by
  simp only [PyData.eqv]
  induction ns generalizing ms with
  | nil => cases ms <;> simp [PyData.eqvAll]
  | cons n ns ih =>
    cases ms with
    | nil => simp [PyData.eqvAll]
    | cons m ms =>
      simp only [List.map_cons, PyData.eqvAll, PyData.eqv, ih]
      by_cases h : n = m
      · subst h; simp
      · simp [h]
theorem eqInts {b : Addr} {ns ms : List Int} (h : SqL K H a (ns.map V.int)) (g : SqL K H b (ms.map V.int)) (q : Q (.bl (decide (ns = ms))) H) : rEqD K (.ref a) (.ref b) H Q :=
  ⟨_, _, .lst h (dp_ints ns), .lst g (dp_ints ms), shp_ints ns, shp_ints ms, by rw [eqv_ints]; exact q⟩
theorem neInts {b : Addr} {ns ms : List Int} (h : SqL K H a (ns.map V.int)) (g : SqL K H b (ms.map V.int)) (q : Q (.bl (!decide (ns = ms))) H) : rNeD K (.ref a) (.ref b) H Q :=
  ⟨_, _, .lst h (dp_ints ns), .lst g (dp_ints ms), shp_ints ns, shp_ints ms, by rw [eqv_ints]; exact q⟩
theorem pickI {ns : List Int} {r : Int} (h0 : 0 ≤ r) (h1 : r < ns.length) : ∃ n, n ∈ ns ∧ atI (ns.map V.int) r = some (.int n) := by
  obtain ⟨v, hv, e⟩ := pick (xs := ns.map V.int) h0 (by rw [List.length_map]; exact h1)
  obtain ⟨n, hn, rfl⟩ := List.mem_map.mp hv
  exact ⟨n, hn, e⟩
theorem cut_to (xs : List V) {i : Int} {j : Nat} (e : i = (j : Int)) (h : j ≤ xs.length) : cutV xs none (some i) = xs.take j := by
  subst e
  unfold cutV
  have e1 : HT.sIx xs.length 0 none = 0 := rfl
  rw [HT.sIx_nat, e1, List.drop_zero, Nat.sub_zero, Nat.min_eq_left h]
theorem slL {lo hi : Option Int} {xs : List V} (h : SqL K H a xs) (q : ∀ p, H p = none → Q (.ref p) (upd H p (.lst (cutV xs lo hi)))) : rSlL K (.ref a) lo hi H Q := ⟨a, xs, rfl, h, q⟩
theorem tyLL {xs : List V} (h : SqL K H a xs) : tyV K "list" (.ref a) H := Or.inl ⟨rfl, _, h⟩
end
end BC
namespace TR
/-! ### trails -/
def Pg (w : Int) (l : List Int) : Prop := ∀ x ∈ l, 0 ≤ x ∧ x < w
def vis (t : List Int) (p : Int) : List Int := if p ∈ t then t.take (t.idxOf p + 1) else t ++ [p]
def trl (row : List Int) : List Int := row.foldl vis []
/-- the lengths of the trails -/
def lens (row : List Int) : List Int := (List.range row.length).map fun i => ((trl (row.take (i + 1))).length : Int)
theorem vis_mem {t : List Int} {p x : Int} (h : x ∈ vis t p) : x ∈ t ∨ x = p := by
  unfold vis at h
  split at h
  · exact .inl (List.mem_of_mem_take h)
  · simpa using h
theorem vis_nodup {t : List Int} {p : Int} (h : t.Nodup) : (vis t p).Nodup := by
  unfold vis
  split
  · exact h.sublist (List.take_sublist _ _)
  · next n =>
    rw [List.nodup_append]
    exact ⟨h, List.nodup_cons.mpr ⟨List.not_mem_nil, List.nodup_nil⟩, fun a ha b hb e => n (by simp at hb; rw [← hb, ← e]; exact ha)⟩
theorem vis_pos (t : List Int) (p : Int) : 1 ≤ (vis t p).length := by
  unfold vis
  split
  · next h =>
    have := List.idxOf_lt_length_of_mem h
    rw [List.length_take]; omega
  · rw [List.length_append, List.length_singleton]; omega
theorem vis_le (t : List Int) (p : Int) : (vis t p).length ≤ t.length + 1 := by
  unfold vis
  split
  · rw [List.length_take]; omega
  · rw [List.length_append, List.length_singleton]; omega
theorem vis_pg {w : Int} {t : List Int} {p : Int} (h : Pg w t) (h0 : 0 ≤ p) (h1 : p < w) : Pg w (vis t p) := fun x hx => by
  rcases vis_mem hx with h2 | rfl
  · exact h x h2
  · exact ⟨h0, h1⟩
theorem trl_snoc {row : List Int} {i : Nat} {p : Int} (h : row[i]? = some p) : trl (row.take (i + 1)) = vis (trl (row.take i)) p := by
  unfold trl
  rw [List.take_add_one, h, List.foldl_append]
  rfl
theorem fold_ok {w : Int} : ∀ {row t : List Int}, Pg w row → Pg w t → t.Nodup → Pg w (row.foldl vis t) ∧ (row.foldl vis t).Nodup
  | [], _, _, h2, h3 => ⟨h2, h3⟩
  | p :: row, t, h1, h2, h3 => fold_ok (row := row) (t := vis t p) (fun x hx => h1 x (List.mem_cons_of_mem _ hx)) (vis_pg h2 (h1 p List.mem_cons_self).1 (h1 p List.mem_cons_self).2) (vis_nodup h3)
theorem Pg.take {w : Int} {l : List Int} (h : Pg w l) (n : Nat) : Pg w (l.take n) := fun x hx => h x (List.mem_of_mem_take hx)
theorem Pg.mono {w v : Int} {l : List Int} (h : Pg w l) (e : w ≤ v) : Pg v l := fun x hx => ⟨(h x hx).1, by have := (h x hx).2; omega⟩
theorem Pg.at {w : Int} {l : List Int} (h : Pg w l) {i : Nat} {p : Int} (e : l[i]? = some p) : 0 ≤ p ∧ p < w := h p (List.mem_of_getElem? e)
theorem pg_nil (w : Int) : Pg w [] := fun _ m => (List.not_mem_nil m).elim
theorem trl_pg {w : Int} {row : List Int} (h : Pg w row) : Pg w (trl row) := (fold_ok h (pg_nil w) List.nodup_nil).1
theorem trl_nodup {w : Int} {row : List Int} (h : Pg w row) : (trl row).Nodup := (fold_ok h (pg_nil w) List.nodup_nil).2
/-- so many different pages at most -/
theorem nodup_len : ∀ (n : Nat) {l : List Int}, l.Nodup → Pg n l → l.length ≤ n
  | 0, [], _, _ => Nat.le_refl _
  | 0, x :: l, _, h => by have := h x List.mem_cons_self; omega
  | n + 1, l, h1, h2 => by
    by_cases m : ((n : Nat) : Int) ∈ l
    · have h3 := nodup_len n (l := l.erase (n : Int)) (h1.erase _) (fun x hx => by
        have a := h2 x (List.mem_of_mem_erase hx)
        have b : x ≠ (n : Int) := fun e => by
          rw [h1.mem_erase_iff] at hx
          exact hx.1 e
        omega)
      have := List.length_erase_of_mem m
      omega
    · have h3 := nodup_len n h1 (fun x hx => by
        have a := h2 x hx
        have b : x ≠ (n : Int) := fun e => m (e ▸ hx)
        omega)
      omega
theorem trl_len {n : Nat} {row : List Int} (h : Pg n row) : (trl row).length ≤ n := nodup_len n (trl_nodup h) (trl_pg h)
theorem lens_len (row : List Int) : (lens row).length = row.length := by unfold lens; rw [List.length_map, List.length_range]
theorem lens_at {row : List Int} {i : Nat} (h : i < row.length) : (lens row)[i]? = some ((trl (row.take (i + 1))).length : Int) := by
  unfold lens
  rw [List.getElem?_map, List.getElem?_range h]
  rfl
end TR

set_option Elab.async false
set_option linter.all false
set_option maxRecDepth 100000
set_option maxHeartbeats 4000000
/-! defs with one keyword-only parameter that has a default -/
namespace BC
open PySem PySem.Spec PyProof.Rows L2 Evl
theorem kwd1 {K : PySem.W.Frag} {x qual : Str} {st : Stmt} {f D : Addr} {ps : List Str} {nm : Str} {v : V} {u : Value} {n : Nat} {oc : Value} {od : Option Addr} {doc pm : Value} {an : Option Addr} {cdv ct : Value} {osl : Array (Option Value)}
    (lk : K.lookup f = some ⟨oc, od, .func (PySem.W.fnOf x qual (defArgs st) (defBody st) (defScope st) .none (.ref D) doc pm an cdv ct), osl⟩) (hcd : PySem.W.codeIn K cdv qual = true) (kp : PySem.W.keepIn K (.ref f) = true)
    (hq : PySem.W.nsIn K D nm = some (some u)) (hr : RelV v u) (hn : n + 1 = ps.length)
    (h : ∀ (D : Addr) (doc pm : Value) (an : Option Addr) (cdv ct : Value) (us ks : List Value), us.length = n → ks.length = 1 →
      KwChain D ([nm].zip ks) (bindArgs (PySem.W.fnOf x qual (defArgs st) (defBody st) (defScope st) .none (.ref D) doc pm an cdv ct) ⟨us, []⟩) (ps.zip (us ++ ks))) :
    ∃ ds, Vals [v] ds ∧ Binds K (PySem.W.fnOf x qual (defArgs st) (defBody st) (defScope st) .none (.ref D) doc pm an cdv ct) ps ds := by
  have F : FunD K x qual (defArgs st) (defBody st) (defScope st) [] [(nm, v)] f (PySem.W.fnOf x qual (defArgs st) (defBody st) (defScope st) .none (.ref D) doc pm an cdv ct) :=
    ⟨⟨oc, od, _, _, doc, pm, an, cdv, ct, osl, rfl, lk, hcd, .inl ⟨rfl, rfl⟩, .inr ⟨D, rfl, fun q hm => by
      obtain rfl : q = (nm, v) := by simpa using hm
      exact ⟨u, hq, hr⟩⟩⟩, kp⟩
  have z := F.binds0 n (by simp) (by simpa using hn) h
  exact z
/-! ### the bag of draws: a list of three numbers -/
def BagAt (H : Hp) (b : Addr) (c : Nat) : Prop := ∃ x0 x1 x2 : Int, H b = some (.lst [.int x0, .int x1, .int x2]) ∧ 0 ≤ x1 ∧ x1 < 10 ^ 65 ∧ 0 ≤ x2 ∧ x2 ≤ c
theorem BagAt.ex {H H' : Hp} {b : Addr} {c : Nat} (h : BagAt H b c) (e : Ex H H') : BagAt H' b c := by
  obtain ⟨x0, x1, x2, hb, r⟩ := h
  exact ⟨x0, x1, x2, e _ _ hb, r⟩
theorem BagAt.mono {H : Hp} {b : Addr} {c d : Nat} (h : BagAt H b c) (e : c ≤ d) : BagAt H b d := by
  obtain ⟨x0, x1, x2, hb, h1, h2, h3, h4⟩ := h
  exact ⟨x0, x1, x2, hb, h1, h2, h3, by omega⟩
theorem BagAt.some {H : Hp} {b : Addr} {c : Nat} (h : BagAt H b c) : ∃ o, H b = Option.some o := by
  obtain ⟨x0, x1, x2, hb, _⟩ := h
  exact ⟨_, hb⟩
theorem BagAt.apart {H : Hp} {b z : Addr} {c : Nat} (h : BagAt H b c) (nz : H z = none) : z ≠ b := fun e => by
  obtain ⟨o, ho⟩ := h.some
  subst e
  rw [ho] at nz
  cases nz
theorem BagAt.off {H : Hp} {b z : Addr} {c : Nat} {o : HO} (h : BagAt H b c) (nz : z ≠ b) : BagAt (upd H z o) b c := by
  obtain ⟨x0, x1, x2, hb, r⟩ := h
  exact ⟨x0, x1, x2, by rw [upd_ne (Ne.symm nz)]; exact hb, r⟩
theorem BagAt.ne {H : Hp} {b z : Addr} {c : Nat} (h : BagAt H b c) (nb : H z = none) : b ≠ z := fun e => h.apart nb e.symm
/-- the greatest number of ways that is drawn from -/
def BIG : Int := 2 ^ 2000
theorem big_of {m : Int} (h : m ≤ 100000) : m ≤ BIG := Int.le_trans h (by decide +kernel)
theorem big_lt {m : Int} (h : 0 < m) (h2 : m ≤ BIG) : m.natAbs < 2 ^ 2001 := by
  have a : m.natAbs ≤ BIG.natAbs := by omega
  exact Nat.lt_of_le_of_lt a (by decide +kernel)
def spDraw : Sp := fun vs H Q _ => ∃ (b : Addr) (m : Int) (c : Nat), vs = [.ref b, .int m] ∧ 0 < m ∧ m ≤ BIG ∧ BagAt H b c ∧ c ≤ 1000000 ∧ ∀ r H', 0 ≤ r → r < m → Fx b H H' → BagAt H' b (c + 1) → Q (.int r) H'
/-! ### lists of lists of numbers, shown -/
def dLL (ls : List (List Int)) : PyData := .list (ls.map fun l => .list (l.map PyData.int))
theorem tm_ints {l : List Int} (h : ∀ x ∈ l, x.natAbs < 10 ^ 12) : Tm (.list (l.map PyData.int)) := .list fun d m => by
  obtain ⟨x, hx, rfl⟩ := List.mem_map.mp m
  exact .int (h x hx)
theorem wt_ints {l : List Int} (h : ∀ x ∈ l, x.natAbs < 10 ^ 12) : (PyData.list (l.map PyData.int)).weight ≤ 41 * l.length := by
  simp only [PyData.weight]
  have := wt_all (ds := l.map PyData.int) (n := 40) fun d m => by
      obtain ⟨n, hn, rfl⟩ := List.mem_map.mp m
      exact wt_int (Nat.lt_of_lt_of_le (h n hn) (by decide +kernel))
  rw [List.length_map] at this
  exact this
theorem dp_ll {K : PySem.W.Frag} {H : Hp} {ps : List Addr} : ∀ {ls : List (List Int)}, ps.length = ls.length → (∀ (i : Nat) (p : Addr) (l : List Int), ps[i]? = some p → ls[i]? = some l → SqL K H p (l.map V.int)) → DpAll K H (ps.map V.ref) (ls.map fun l => PyData.list (l.map PyData.int)) := fun {ls} => by
  induction ps generalizing ls with
  | nil =>
    intro h _
    cases ls with
    | nil => exact .nil
    | cons l ls => simp at h
  | cons p ps ih =>
    intro h g
    cases ls with
    | nil => simp at h
    | cons l ls => exact .cons (.lst (g 0 p l rfl rfl) (dp_ints l)) (ih (by simpa using h) fun i q m a b => g (i + 1) q m (by rw [List.getElem?_cons_succ]; exact a) (by rw [List.getElem?_cons_succ]; exact b))
theorem reprLL {K : PySem.W.Frag} {H : Hp} {Q : VK} {a : Addr} {ls : List (List Int)} {n : Nat} (h : Dp K H (.ref a) (dLL ls)) (hv : ∀ l ∈ ls, ∀ x ∈ l, x.natAbs < 10 ^ 12) (hl : ∀ l ∈ ls, l.length ≤ n) (hz : (41 * n + 1) * ls.length ≤ 2 ^ 20) (q : Q (.str (dLL ls).shown) H) : rRepr K [.ref a] H Q := by
  refine reprX h (.list fun d m => ?_) ?_ ?_ q
  · obtain ⟨l, hm, rfl⟩ := List.mem_map.mp m
    exact tm_ints (hv l hm)
  · unfold dLL
    simp only [PyData.depth]
    have := dep_all (ds := ls.map fun l => PyData.list (l.map PyData.int)) (n := 1) fun d m => by
      obtain ⟨l, hm, rfl⟩ := List.mem_map.mp m
      simp only [PyData.depth]
      have := dep_all (ds := l.map PyData.int) (n := 0) fun d m => by
        obtain ⟨x, hx, rfl⟩ := List.mem_map.mp m
        simp [PyData.depth]
      omega
    omega
  · unfold dLL
    simp only [PyData.weight]
    have := wt_all (ds := ls.map fun l => PyData.list (l.map PyData.int)) (n := 41 * n) fun d m => by
      obtain ⟨l, hm, rfl⟩ := List.mem_map.mp m
      exact Nat.le_trans (wt_ints (hv l hm)) (Nat.mul_le_mul_left _ (hl l hm))
    rw [List.length_map] at this
    omega
theorem k_lenSet {X : Cx} {K : PySem.W.Frag} {a : Expr} {ta : TE} {p p2 q pos : Pos} (hK : X.K = K) (hg : Gl X "len") (hm : X.mg "len" = none) (hg2 : Gl X "set") (hm2 : X.mg "set" = none) (ha : PE X a ta) (hc : X.calm = true := by rfl)
    (na : starEach [a] X.env = (false, eval a X.env) :: starEach [] X.env := by rfl) : PE X (.Call (.Name "len" p) [.Call (.Name "set" p2) [a] [] q] [] pos) (RZ.tLenSetI K ta) := by subst hK; exact RZ.pe_lenSetI hg hm hg2 hm2 ha hc na
theorem x_lenSet {K : PySem.W.Frag} {ta : TE} {σ : L2.St} {H : Hp} {Q : VK} : RZ.tLenSetI K ta σ H Q = ta σ H fun x H1 => ∃ (l : Addr) (ns : List Int), x = .ref l ∧ SqL K H1 l (ns.map V.int) ∧ ns.Nodup ∧ ns.length ≤ 4000 ∧ Q (.int (ns.length : Nat)) H1 := rfl
end BC

set_option Elab.async false
set_option linter.all false
set_option maxRecDepth 100000
set_option maxHeartbeats 4000000
/-! lists of lengths and their numbers -/
namespace LN
/-- the ways to go on for t more lengths after length l, at most m -/
def W (m : Nat) : Nat → Nat → Int
  | 0, _ => 1
  | t + 1, l => ((List.range (min (l + 1) m)).map fun j => W m t (j + 1)).sum
/-- the ways below the length j + 1 -/
def S (m t j : Nat) : Int := ((List.range j).map fun i => W m t (i + 1)).sum
theorem S_zero (m t : Nat) : S m t 0 = 0 := rfl
theorem sum_snoc (l : List Int) (x : Int) : (l ++ [x]).sum = l.sum + x := by
  rw [List.sum_append]; simp
theorem S_succ (m t j : Nat) : S m t (j + 1) = S m t j + W m t (j + 1) := by
  unfold S
  rw [List.range_succ, List.map_append]
  exact sum_snoc _ _
theorem W_succ (m t l : Nat) : W m (t + 1) l = S m t (min (l + 1) m) := rfl
theorem W_pos {m : Nat} (hm : 1 ≤ m) : ∀ t l, 1 ≤ W m t l
  | 0, _ => Int.le_refl _
  | t + 1, l => by
    rw [W_succ]
    have h : ∀ j : Nat, (j : Int) ≤ S m t j := fun j => by
      induction j with
      | zero => rw [S_zero]; exact Int.le_refl _
      | succ j ih =>
        rw [S_succ]
        have := W_pos hm t (j + 1)
        omega
    have := h (min (l + 1) m)
    have h2 : 1 ≤ min (l + 1) m := by omega
    omega
theorem S_mono {m : Nat} (hm : 1 ≤ m) (t : Nat) : ∀ {i j : Nat}, i ≤ j → S m t i ≤ S m t j := fun {i j} h => by
  induction h with
  | refl => exact Int.le_refl _
  | @step n _ ih =>
    have e := S_succ m t n
    have := W_pos hm t (n + 1)
    show S m t i ≤ S m t (n + 1)
    omega
theorem S_nn {m : Nat} (hm : 1 ≤ m) (t j : Nat) : 0 ≤ S m t j := by
  have := S_mono hm t (Nat.zero_le j)
  rw [S_zero] at this
  exact this
theorem W_le {m : Nat} : ∀ t l, W m t l ≤ (m : Int) ^ t
  | 0, _ => by show (1 : Int) ≤ _; simp
  | t + 1, l => by
    rw [W_succ]
    have h : ∀ j, S m t j ≤ j * (m : Int) ^ t := fun j => by
      induction j with
      | zero => rw [S_zero]; simp
      | succ j ih =>
        rw [S_succ]
        have := W_le (m := m) t (j + 1)
        have e : ((j + 1 : Nat) : Int) * (m : Int) ^ t = j * (m : Int) ^ t + (m : Int) ^ t := by
          rw [Int.natCast_add, Int.add_mul]; simp
        omega
    have h1 := h (min (l + 1) m)
    have h2 : ((min (l + 1) m : Nat) : Int) * (m : Int) ^ t ≤ (m : Int) * (m : Int) ^ t := Int.mul_le_mul_of_nonneg_right (by omega) (Int.pow_nonneg (by omega))
    have e3 : (m : Int) ^ (t + 1) = (m : Int) * (m : Int) ^ t := by rw [Int.pow_succ, Int.mul_comm]
    omega
/-- lists that may come after the length p -/
def Ok (m : Nat) : Nat → List Nat → Prop
  | _, [] => True
  | p, x :: xs => 1 ≤ x ∧ x ≤ min (p + 1) m ∧ Ok m x xs
def rank (m : Nat) : List Nat → Int
  | [] => 0
  | x :: xs => S m xs.length (x - 1) + rank m xs
theorem rank_lt {m : Nat} (hm : 1 ≤ m) : ∀ {p : Nat} {l : List Nat}, Ok m p l → 0 ≤ rank m l ∧ rank m l < W m l.length p
  | _, [], _ => ⟨Int.le_refl _, by show (0 : Int) < 1; omega⟩
  | p, x :: xs, ⟨h1, h2, h3⟩ => by
    have ih := rank_lt hm h3
    have e : S m xs.length x = S m xs.length (x - 1) + W m xs.length x := by
      have := S_succ m xs.length (x - 1)
      rwa [Nat.sub_add_cancel h1] at this
    have s0 := S_nn hm xs.length (x - 1)
    have s1 := S_mono hm xs.length h2
    show 0 ≤ S m xs.length (x - 1) + rank m xs ∧ S m xs.length (x - 1) + rank m xs < W m (xs.length + 1) p
    rw [W_succ]
    omega
/-- each number has a list -/
theorem find {m : Nat} (hm : 1 ≤ m) : ∀ (t : Nat) {p : Nat} {r : Int}, 0 ≤ r → r < W m t p → ∃ l, Ok m p l ∧ l.length = t ∧ rank m l = r
  | 0, p, r, h0, h1 => ⟨[], trivial, rfl, by have : r < 1 := h1; show (0 : Int) = r; omega⟩
  | t + 1, p, r, h0, h1 => by
    rw [W_succ] at h1
    have : ∀ n, r < S m t n → ∃ x, 1 ≤ x ∧ x ≤ n ∧ S m t (x - 1) ≤ r ∧ r < S m t x := fun n => by
      induction n with
      | zero => intro h; rw [S_zero] at h; omega
      | succ n ih =>
        intro h
        by_cases q : r < S m t n
        · obtain ⟨x, a, b, c⟩ := ih q
          exact ⟨x, a, by omega, c⟩
        · exact ⟨n + 1, by omega, by omega, by show S m t n ≤ r; omega, h⟩
    obtain ⟨x, a, b, c, d⟩ := this _ h1
    have e : S m t x = S m t (x - 1) + W m t x := by
      have := S_succ m t (x - 1)
      rwa [Nat.sub_add_cancel a] at this
    obtain ⟨l, l1, l2, l3⟩ := find hm t (p := x) (r := r - S m t (x - 1)) (by omega) (by omega)
    refine ⟨x :: l, ⟨a, b, l1⟩, by rw [List.length_cons, l2], ?_⟩
    show S m l.length (x - 1) + rank m l = r
    rw [l2, l3]
    omega
/-- a greater number has a greater list -/
theorem rank_mono {m : Nat} (hm : 1 ≤ m) : ∀ {p : Nat} {a b : List Nat}, Ok m p a → Ok m p b → a.length = b.length → rank m a < rank m b → ∃ k, k < a.length ∧ (∀ i, i < k → a.getD i 0 = b.getD i 0) ∧ a.getD k 0 < b.getD k 0
  | _, [], [], _, _, _, h => by exact absurd h (Int.lt_irrefl _)
  | _, [], _ :: _, _, _, h, _ => by simp at h
  | _, _ :: _, [], _, _, h, _ => by simp at h
  | p, x :: xs, y :: ys, ⟨a1, a2, a3⟩, ⟨b1, b2, b3⟩, hl, h => by
    have hl2 : xs.length = ys.length := by simpa using hl
    have h2 : S m xs.length (x - 1) + rank m xs < S m ys.length (y - 1) + rank m ys := h
    have r1 := rank_lt hm a3
    have r2 := rank_lt hm b3
    rw [← hl2] at h2 r2
    by_cases e : x = y
    · subst e
      obtain ⟨k, k1, k2, k3⟩ := rank_mono hm a3 b3 hl2 (by omega)
      refine ⟨k + 1, by rw [List.length_cons]; omega, fun i hi => ?_, k3⟩
      cases i with
      | zero => rfl
      | succ i => exact k2 i (by omega)
    · by_cases e2 : x < y
      · exact ⟨0, by rw [List.length_cons]; omega, fun i hi => by omega, e2⟩
      · have s := S_mono hm xs.length (show y ≤ x - 1 by omega)
        have e3 : S m xs.length y = S m xs.length (y - 1) + W m xs.length y := by
          have := S_succ m xs.length (y - 1)
          rwa [Nat.sub_add_cancel b1] at this
        omega
theorem ok_drop {m : Nat} : ∀ {p : Nat} {l : List Nat} {i x : Nat}, Ok m p l → l[i]? = some x → ∃ q, Ok m q (l.drop i) ∧ 1 ≤ x ∧ x ≤ m ∧ Ok m x (l.drop (i + 1))
  | _, [], _, _, _, h => by simp at h
  | p, y :: l, 0, x, ⟨h1, h2, h3⟩, h => by
    simp at h
    subst h
    exact ⟨p, ⟨h1, h2, h3⟩, h1, by omega, h3⟩
  | p, y :: l, i + 1, x, ⟨h1, h2, h3⟩, h => by
    have h' : l[i]? = some x := by simpa using h
    exact ok_drop (p := y) (l := l) h3 h'
theorem rank_drop {m : Nat} {l : List Nat} {i x : Nat} (h : l[i]? = some x) : rank m (l.drop i) = S m (l.length - i - 1) (x - 1) + rank m (l.drop (i + 1)) := by
  obtain ⟨hi, hx⟩ := List.getElem?_eq_some_iff.mp h
  rw [List.drop_eq_getElem_cons hi, hx]
  show S m (l.drop (i + 1)).length (x - 1) + _ = _
  rw [List.length_drop]
  have : l.length - (i + 1) = l.length - i - 1 := by omega
  rw [this]
theorem ok_at {m : Nat} {p : Nat} {l : List Nat} (h : Ok m p l) : ∀ x ∈ l, 1 ≤ x ∧ x ≤ m := fun x hx => by
  obtain ⟨i, hi, e⟩ := List.getElem_of_mem hx
  obtain ⟨q, _, a, b, _⟩ := ok_drop h (List.getElem?_eq_some_iff.mpr ⟨hi, e⟩)
  exact ⟨a, b⟩
theorem ok_snoc {m : Nat} : ∀ {p : Nat} {l : List Nat} {x : Nat}, Ok m p l → 1 ≤ x → x ≤ min ((l.getLast?.getD p) + 1) m → Ok m p (l ++ [x])
  | p, [], x, _, h1, h2 => ⟨h1, h2, trivial⟩
  | p, [y], x, ⟨a, b, _⟩, h1, h2 => ⟨a, b, h1, by simpa using h2, trivial⟩
  | p, y :: z :: l, x, ⟨a, b, c⟩, h1, h2 => ⟨a, b, ok_snoc c h1 (by
      have e : (z :: l).getLast?.getD y = (y :: z :: l).getLast?.getD p := by
        rw [List.getLast?_cons_cons]
        cases h : (z :: l).getLast? with
        | none => simp at h
        | some v => rfl
      rw [e]; exact h2)⟩
/-- the first one -/
theorem first_ok {m : Nat} (hm : 1 ≤ m) : ∀ t p, Ok m p (List.replicate t 1)
  | 0, _ => trivial
  | t + 1, p => ⟨Nat.le_refl _, by omega, first_ok hm t 1⟩
theorem first_rank (m : Nat) : ∀ t, rank m (List.replicate t 1) = 0
  | 0 => rfl
  | t + 1 => by
    show S m _ (1 - 1) + rank m (List.replicate t 1) = 0
    rw [first_rank m t]
    rfl
/-- the last one -/
def up (m : Nat) : Nat → Nat → List Nat
  | 0, _ => []
  | t + 1, p => min (p + 1) m :: up m t (min (p + 1) m)
theorem up_len (m : Nat) : ∀ t p, (up m t p).length = t
  | 0, _ => rfl
  | t + 1, p => by show (up m t _).length + 1 = _; rw [up_len m t]
theorem up_ok {m : Nat} (hm : 1 ≤ m) : ∀ t p, Ok m p (up m t p)
  | 0, _ => trivial
  | t + 1, p => ⟨by omega, Nat.le_refl _, up_ok hm t _⟩
theorem up_rank {m : Nat} (hm : 1 ≤ m) : ∀ t p, rank m (up m t p) = W m t p - 1
  | 0, _ => rfl
  | t + 1, p => by
    show S m (up m t _).length (min (p + 1) m - 1) + rank m (up m t _) = _
    rw [up_len, up_rank hm t, W_succ]
    have := S_succ m t (min (p + 1) m - 1)
    rw [Nat.sub_add_cancel (by omega)] at this
    omega
theorem up_at (m : Nat) (hm : 1 ≤ m) : ∀ t p i, i < t → (up m t p)[i]? = some (min m (p + i + 1))
  | t + 1, p, 0, _ => by show some (min (p + 1) m) = _; rw [Nat.min_comm]
  | t + 1, p, i + 1, h => by
    show (up m t _)[i]? = _
    rw [up_at m hm t _ i (by omega)]
    congr 1
    omega
theorem up_eq (m : Nat) (hm : 1 ≤ m) (t : Nat) : up m t 0 = (List.range t).map fun i => min m (i + 1) := by
  apply List.ext_getElem?
  intro i
  by_cases h : i < t
  · rw [up_at m hm t 0 i h, List.getElem?_map, List.getElem?_range h, Nat.zero_add]
    rfl
  · rw [List.getElem?_eq_none (by rw [up_len]; omega), List.getElem?_eq_none (by rw [List.length_map, List.length_range]; omega)]
/-- the rows as lists, to be computed -/
def nextRow (m : Nat) (r : List Int) : List Int := (List.range (m + 1)).map fun l => ((r.drop 1).take (min (l + 1) m)).sum
def wrow (m t : Nat) : List Int := (List.range (m + 1)).map fun l => W m t l
theorem wrow_at {m t l : Nat} (h : l ≤ m) : (wrow m t)[l]? = some (W m t l) := by
  unfold wrow
  rw [List.getElem?_map, List.getElem?_range (by omega)]
  rfl
theorem wrow_len (m t : Nat) : (wrow m t).length = m + 1 := by unfold wrow; rw [List.length_map, List.length_range]
theorem wrow_take (m t j : Nat) (h : j ≤ m) : ((wrow m t).drop 1).take j = (List.range j).map fun i => W m t (i + 1) := by
  apply List.ext_getElem?
  intro i
  by_cases q : i < j
  · rw [List.getElem?_take, if_pos q, List.getElem?_drop, wrow_at (by omega), List.getElem?_map, List.getElem?_range q, Nat.add_comm]
    rfl
  · rw [List.getElem?_take, if_neg q, List.getElem?_eq_none (by rw [List.length_map, List.length_range]; omega)]
theorem wrow_sum (m t j : Nat) (h : j ≤ m) : (((wrow m t).drop 1).take j).sum = S m t j := by rw [wrow_take m t j h]; rfl
theorem wrow_next (m t : Nat) : nextRow m (wrow m t) = wrow m (t + 1) := by
  unfold nextRow
  conv => rhs; unfold wrow
  apply List.map_congr_left
  intro l hl
  rw [wrow_sum m t _ (by omega), W_succ]
theorem wrow_zero (m : Nat) : wrow m 0 = List.replicate (m + 1) 1 := by
  unfold wrow
  apply List.ext_getElem?
  intro i
  rw [List.getElem?_map]
  by_cases h : i < m + 1
  · rw [List.getElem?_range h, List.getElem?_replicate, if_pos h]; rfl
  · rw [List.getElem?_eq_none (by rw [List.length_range]; omega), List.getElem?_eq_none (by rw [List.length_replicate]; omega)]; rfl
def rowsOf (m : Nat) : Nat → List Int
  | 0 => List.replicate (m + 1) 1
  | t + 1 => nextRow m (rowsOf m t)
theorem rowsOf_eq (m : Nat) : ∀ t, rowsOf m t = wrow m t
  | 0 => (wrow_zero m).symm
  | t + 1 => by show nextRow m (rowsOf m t) = _; rw [rowsOf_eq m t, wrow_next]
end LN
namespace BC
open PySem PySem.Spec PyProof.Rows L2 Evl
/-- <= of two lists of numbers -/
def rLeL (K : PySem.W.Frag) : R2 := fun x y H Q => ∃ (a b : Addr) (ns ms : List Int), x = .ref a ∧ y = .ref b ∧ SqL K H a (ns.map V.int) ∧ SqL K H b (ms.map V.int) ∧
  Q (.bl (SeqAt.firstLt (fun j => decide (ns.getD j 0 = ms.getD j 0)) (fun j => decide (ns.getD j 0 ≤ ms.getD j 0)) (decide (ns.length ≤ ms.length)) (List.range (min ns.length ms.length)))) H
theorem op_leL {X : Cx} {K : PySem.W.Frag} (hK : X.K = K) (hu : X.A.units < cLine) : OpR X (compareOp .LtE) (rLeL K) := by
  subst hK
  intro pins s σ H x y v u Q I rx ry h
  obtain ⟨a, b, ns, ms, rfl, rfl, ha, hb, q⟩ := h
  cases rx
  cases ry
  obtain ⟨its, r1, p1, _⟩ := I.list ha
  obtain ⟨its2, r2, p2, _⟩ := I.list hb
  have i1 : IntsAre its ns := Vals.ints r1
  have i2 : IntsAre its2 ms := Vals.ints r2
  have e1 : its.toArray.size = ns.length := by rw [List.size_toArray]; exact i1.length
  have e2 : its2.toArray.size = ms.length := by rw [List.size_toArray]; exact i2.length
  have at1 : ∀ j (h1 : j < its.toArray.size), ∃ t, its.toArray[j] = .int (ns.getD j 0) t := fun j h1 => PyProof.Rows.IntsAre.int_at i1 _ _ (by simp at h1; simp [h1])
  have at2 : ∀ j (h1 : j < its2.toArray.size), ∃ t, its2.toArray[j] = .int (ms.getD j 0) t := fun j h1 => PyProof.Rows.IntsAre.int_at i2 _ _ (by simp at h1; simp [h1])
  have isl : ∀ {c : Addr} {vs : Array Value}, (∃ o n, s.heap.get? c = some o ∧ o.cls = .type "list" ∧ o.dict = none ∧ o.data = .seq vs n) → s.heap.IsList c vs := fun ⟨o, n, z1, z2, _, z4⟩ => ⟨o, z1, z2, n, z4⟩
  have R := SeqAt.RcOp.lists_le (A := X.A) (s := s) (l := a) (b := b) (items := its.toArray) (items2 := its2.toArray) (e := fun j => decide (ns.getD j 0 = ms.getD j 0)) (r := fun j => decide (ns.getD j 0 ≤ ms.getD j 0)) (isl p1) (isl p2) hu (fun j h1 h2 => by
    obtain ⟨t, et⟩ := at1 j h1
    obtain ⟨t', et'⟩ := at2 j h2
    rw [et, et']
    have z : (ns.getD j 0 == ms.getD j 0) = decide (ns.getD j 0 = ms.getD j 0) := by
      by_cases q : ns.getD j 0 = ms.getD j 0
      · rw [decide_eq_true q]; exact beq_iff_eq.mpr q
      · rw [decide_eq_false q]; exact beq_eq_false_iff_ne.mpr q
    rw [← z]
    exact SeqAt.EqAt.int_int _ _ _ _) (fun j h1 h2 _ => by
    obtain ⟨t, et⟩ := at1 j h1
    obtain ⟨t', et'⟩ := at2 j h2
    rw [et, et']
    exact fun _ _ _ _ h => PyProof.Rows.le_int h)
  rw [e1, e2] at R
  have z : wpAny (model X.prog X.w) X.A (compareOp .LtE (.ref a) (.ref b)) (EP X pins σ Q) X.xe s := R X.prog X.w X.xe (EP X pins σ Q) ⟨.bl _, H, I, rfl, q⟩
  exact z
theorem firstLt_false {e r : Nat → Bool} {fin : Bool} : ∀ {p : List Nat} {j : Nat} {t : List Nat}, (∀ x ∈ p, e x = true) → e j = false → r j = false → SeqAt.firstLt e r fin (p ++ j :: t) = false
  | [], j, t, _, h2, h3 => by rw [List.nil_append, SeqAt.firstLt_no h2, h3]
  | x :: p, j, t, h1, h2, h3 => by
    rw [List.cons_append, SeqAt.firstLt_yes (h1 x List.mem_cons_self)]
    exact firstLt_false (fun y hy => h1 y (List.mem_cons_of_mem _ hy)) h2 h3
theorem leL_false {K : PySem.W.Frag} {H : Hp} {Q : VK} {a b : Addr} {ns ms : List Int} (ha : SqL K H a (ns.map V.int)) (hb : SqL K H b (ms.map V.int)) {k : Nat} (hk : k < ns.length) (hl : ns.length = ms.length) (hp : ∀ i, i < k → ns.getD i 0 = ms.getD i 0) (hg : ms.getD k 0 < ns.getD k 0)
    (q : Q (.bl false) H) : rLeL K (.ref a) (.ref b) H Q := by
  refine ⟨a, b, ns, ms, rfl, rfl, ha, hb, ?_⟩
  have hm : min ns.length ms.length = ns.length := by omega
  have e : List.range ns.length = (List.range ns.length).take k ++ k :: (List.range ns.length).drop (k + 1) := by
    conv => lhs; rw [← List.take_append_drop k (List.range ns.length)]
    rw [List.drop_eq_getElem_cons (by rw [List.length_range]; exact hk), List.getElem_range]
  rw [hm, e, firstLt_false]
  · exact q
  · intro x hx
    rw [List.take_range, List.mem_range] at hx
    exact decide_eq_true (hp x (by omega))
  · exact decide_eq_false (by omega)
  · exact decide_eq_false (by omega)
end BC

set_option Elab.async false
set_option linter.all false
set_option maxRecDepth 100000
set_option maxHeartbeats 4000000
/-! lists of visits with the same lengths and their numbers -/
namespace VS
open TR
/-- the pages that are not in the trail -/
def fresh (m : Nat) (t : List Int) : List Int := ((List.range m).map fun i : Nat => (i : Int)).filter fun p => decide (p ∉ t)
theorem fresh_mem {m : Nat} {t : List Int} {p : Int} : p ∈ fresh m t ↔ (0 ≤ p ∧ p < m) ∧ p ∉ t := by
  unfold fresh
  rw [List.mem_filter, List.mem_map]
  constructor
  · rintro ⟨⟨i, hi, rfl⟩, h⟩
    rw [List.mem_range] at hi
    exact ⟨by omega, of_decide_eq_true h⟩
  · rintro ⟨⟨h0, h1⟩, h⟩
    exact ⟨⟨p.toNat, by rw [List.mem_range]; omega, by omega⟩, decide_eq_true h⟩
theorem range_nodup (m : Nat) : ((List.range m).map fun i : Nat => (i : Int)).Nodup := by
  unfold List.Nodup
  rw [List.pairwise_map]
  exact List.Pairwise.imp (fun {a b} (h : a ≠ b) e => h (Int.ofNat.inj e)) List.nodup_range
theorem fresh_nodup (m : Nat) (t : List Int) : (fresh m t).Nodup := by
  unfold fresh List.Nodup
  exact List.Pairwise.sublist List.filter_sublist (range_nodup m)
theorem fresh_cons (m : Nat) (t : List Int) (p : Int) (h : p ∉ t) (h0 : 0 ≤ p) (h1 : p < m) : (fresh m t).length = (fresh m (t ++ [p])).length + 1 := by
  have hm : p ∈ fresh m t := fresh_mem.mpr ⟨⟨h0, h1⟩, h⟩
  have e : fresh m (t ++ [p]) = (fresh m t).erase p := by
    rw [(fresh_nodup m t).erase_eq_filter]
    unfold fresh
    rw [List.filter_filter]
    congr 1
    funext x
    by_cases a : x ∈ t <;> by_cases b : x = p <;> simp [a, b, h]
  rw [e, List.length_erase_of_mem hm]
  have := List.length_pos_of_mem hm
  omega
theorem fresh_len (m : Nat) {t : List Int} (h : t.Nodup) (hp : Pg m t) : (fresh m t).length + t.length = m := by
  have gen : ∀ (k : Nat) (t : List Int), t.length = k → t.Nodup → Pg m t → (fresh m t).length + t.length = m := fun k => by
    induction k with
    | zero =>
      intro t hl _ _
      have : t = [] := List.length_eq_zero_iff.mp hl
      subst this
      unfold fresh
      rw [List.filter_eq_self.mpr (fun x _ => by simp), List.length_map, List.length_range]
      rfl
    | succ k ih =>
      intro t hl hn hpg
      have hne : t ≠ [] := fun e => by rw [e] at hl; cases hl
      have hsplit := List.dropLast_concat_getLast hne
      generalize t.getLast hne = x at hsplit
      generalize t.dropLast = u at hsplit
      subst hsplit
      have hu : u.length = k := by rw [List.length_append, List.length_singleton] at hl; omega
      rw [List.nodup_append] at hn
      obtain ⟨n1, _, n3⟩ := hn
      have hx : x ∉ u := fun e => n3 x e x List.mem_cons_self rfl
      have hb := hpg x (List.mem_append_right _ List.mem_cons_self)
      have := ih u hu n1 (fun y hy => hpg y (List.mem_append_left _ hy))
      have f := fresh_cons m u x hx hb.1 hb.2
      rw [List.length_append, List.length_singleton]
      omega
  exact gen _ t rfl h hp
/-- the number of choices where the length l comes after s -/
def fac (m s l : Nat) : Int := if s < l then (if (m : Int) - s > 0 then (m : Int) - s else 0) else 1
def prod (m : Nat) : Nat → List Nat → Int
  | _, [] => 1
  | s, l :: L => fac m s l * prod m l L
def lensF : List Int → List Int → List Nat
  | _, [] => []
  | t, p :: R => (vis t p).length :: lensF (vis t p) R
def vr (m : Nat) : List Int → List Int → Int
  | _, [] => 0
  | t, p :: R => (if p ∈ t then 0 else ((fresh m t).idxOf p : Nat) * prod m (vis t p).length (lensF (vis t p) R)) + vr m (vis t p) R
theorem vis_in {t : List Int} {p : Int} (h : p ∈ t) : (vis t p).length = t.idxOf p + 1 ∧ (vis t p).length ≤ t.length := by
  have := List.idxOf_lt_length_of_mem h
  unfold vis
  rw [if_pos h, List.length_take]
  omega
theorem vis_out {t : List Int} {p : Int} (h : p ∉ t) : vis t p = t ++ [p] ∧ (vis t p).length = t.length + 1 := by
  unfold vis
  rw [if_neg h, List.length_append, List.length_singleton]
  exact ⟨rfl, rfl⟩
theorem fac_nn (m s l : Nat) : 0 ≤ fac m s l := by
  unfold fac
  split
  · split <;> omega
  · omega
theorem prod_nn (m : Nat) : ∀ (L : List Nat) (s : Nat), 0 ≤ prod m s L
  | [], _ => by show (0 : Int) ≤ 1; omega
  | l :: L, s => Int.mul_nonneg (fac_nn m s l) (prod_nn m L l)
theorem vr_lt (m : Nat) : ∀ (R t : List Int), t.Nodup → Pg m t → Pg m R → 0 ≤ vr m t R ∧ vr m t R < prod m t.length (lensF t R)
  | [], t, _, _, _ => ⟨Int.le_refl _, by show (0 : Int) < 1; omega⟩
  | p :: R, t, h1, h2, h3 => by
    have hp := h3 p List.mem_cons_self
    have ih := vr_lt m R (vis t p) (vis_nodup h1) (vis_pg h2 hp.1 hp.2) (fun x hx => h3 x (List.mem_cons_of_mem _ hx))
    show 0 ≤ _ + vr m (vis t p) R ∧ _ + vr m (vis t p) R < fac m t.length (vis t p).length * prod m (vis t p).length (lensF (vis t p) R)
    by_cases c : p ∈ t
    · have v := vis_in c
      rw [if_pos c]
      have e : fac m t.length (vis t p).length = 1 := by unfold fac; rw [if_neg (by omega)]
      rw [e]
      omega
    · have v := vis_out c
      rw [if_neg c]
      have hm : p ∈ fresh m t := fresh_mem.mpr ⟨hp, c⟩
      have hi := List.idxOf_lt_length_of_mem hm
      have hl := fresh_len m h1 h2
      have e : fac m t.length (vis t p).length = ((m - t.length : Nat) : Int) := by unfold fac; rw [if_pos (by omega), if_pos (by omega)]; omega
      rw [e]
      generalize prod m (vis t p).length (lensF (vis t p) R) = P at ih ⊢
      have a1 : 0 ≤ ((List.idxOf p (fresh m t) : Nat) : Int) * P := Int.mul_nonneg (by omega) (by omega)
      have a2 : (((List.idxOf p (fresh m t) : Nat) : Int) + 1) * P ≤ ((m - t.length : Nat) : Int) * P := Int.mul_le_mul_of_nonneg_right (by omega) (by omega)
      rw [Int.add_mul, Int.one_mul] at a2
      omega
/-- lengths that may come after the length s -/
def OkS : Nat → List Nat → Prop
  | _, [] => True
  | s, l :: L => 1 ≤ l ∧ l ≤ s + 1 ∧ OkS l L
theorem vfind (m : Nat) : ∀ (L : List Nat) (t : List Int) (r : Int), OkS t.length L → t.Nodup → Pg m t → 0 ≤ r → r < prod m t.length L → ∃ R, Pg m R ∧ lensF t R = L ∧ vr m t R = r
  | [], t, r, _, _, _, h0, h1 => ⟨[], pg_nil _, rfl, by have : r < 1 := h1; show (0 : Int) = r; omega⟩
  | l :: L, t, r, ⟨o1, o2, o3⟩, hn, hp, h0, h1 => by
    by_cases c : l ≤ t.length
    · have e : fac m t.length l = 1 := by unfold fac; rw [if_neg (by omega)]
      have hx : t[l - 1]? = some t[l - 1] := List.getElem?_eq_getElem (by omega)
      have hmem := List.mem_of_getElem? hx
      have hid : t.idxOf t[l - 1] = l - 1 := hn.idxOf_getElem (l - 1) (by omega)
      have v := vis_in hmem
      have b := hp _ hmem
      generalize t[l - 1] = p at hx hmem hid v b
      have hl : (vis t p).length = l := by omega
      have h1' : r < prod m l L := by
        have : r < fac m t.length l * prod m l L := h1
        rw [e, Int.one_mul] at this
        exact this
      obtain ⟨R, r1, r2, r3⟩ := vfind m L (vis t p) r (by rw [hl]; exact o3) (vis_nodup hn) (vis_pg hp b.1 b.2) h0 (by rw [hl]; exact h1')
      refine ⟨p :: R, fun x hx => ?_, ?_, ?_⟩
      · rcases List.mem_cons.mp hx with rfl | hx
        · exact b
        · exact r1 x hx
      · show (vis t p).length :: lensF (vis t p) R = _
        rw [hl, r2]
      · show (if p ∈ t then 0 else _) + vr m (vis t p) R = r
        rw [if_pos hmem, r3]
        omega
    · have hl1 : l = t.length + 1 := by omega
      have h1' : r < fac m t.length l * prod m l L := h1
      have hP := prod_nn m L l
      have hf : fac m t.length l = if (m : Int) - t.length > 0 then (m : Int) - t.length else 0 := by unfold fac; rw [if_pos (by omega)]
      have hpos : 0 < prod m l L ∧ (m : Int) - t.length > 0 := by
        by_cases q : (m : Int) - t.length > 0
        · refine ⟨?_, q⟩
          by_cases z : prod m l L = 0
          · rw [z, Int.mul_zero] at h1'; omega
          · omega
        · rw [hf, if_neg q, Int.zero_mul] at h1'
          omega
      rw [hf, if_pos hpos.2] at h1'
      have hlen := fresh_len m hn hp
      have hq0 : 0 ≤ r / prod m l L := Int.ediv_nonneg h0 hP
      have hq1 : r / prod m l L < (m : Int) - t.length := Int.ediv_lt_of_lt_mul hpos.1 h1'
      have hx : (fresh m t)[(r / prod m l L).toNat]? = some (fresh m t)[(r / prod m l L).toNat] := List.getElem?_eq_getElem (by omega)
      have hmem := List.mem_of_getElem? hx
      have hid : (fresh m t).idxOf (fresh m t)[(r / prod m l L).toNat] = (r / prod m l L).toNat := (fresh_nodup m t).idxOf_getElem _ (by omega)
      generalize (fresh m t)[(r / prod m l L).toNat] = p at hx hmem hid
      obtain ⟨b, np⟩ := fresh_mem.mp hmem
      have v := vis_out np
      have hl : (vis t p).length = l := by omega
      obtain ⟨R, r1, r2, r3⟩ := vfind m L (vis t p) (r % prod m l L) (by rw [hl]; exact o3) (vis_nodup hn) (vis_pg hp b.1 b.2) (Int.emod_nonneg _ (by omega)) (by rw [hl]; exact Int.emod_lt_of_pos _ hpos.1)
      refine ⟨p :: R, fun x hx => ?_, ?_, ?_⟩
      · rcases List.mem_cons.mp hx with rfl | hx
        · exact b
        · exact r1 x hx
      · show (vis t p).length :: lensF (vis t p) R = _
        rw [hl, r2]
      · show (if p ∈ t then 0 else _) + vr m (vis t p) R = r
        rw [if_neg np, r3, hid, r2, hl, Int.toNat_of_nonneg hq0]
        have := Int.ediv_mul_add_emod r (prod m l L)
        omega
end VS

set_option Elab.async false
namespace FM
def cf (m t l : Nat) : Int := if l = 0 then (if t = 0 then 1 else 0) else if t < l then 0 else if t = l then 1 else (l : Int) * (m : Int) ^ (t - l - 1)
def lg (m t l : Nat) : Int := if t < l then 0 else (m : Int) ^ (t - l)
theorem lg_step (m t l : Nat) : cf m t l + ((m : Int) - l) * lg m t (l + 1) = lg m t l := by
  unfold cf lg
  by_cases h0 : l = 0
  · subst h0
    by_cases h1 : t = 0
    · subst h1; simp
    · obtain ⟨s, rfl⟩ : ∃ s, t = s + 1 := ⟨t - 1, by omega⟩
      simp [Int.pow_succ]
      grind
  · rw [if_neg h0]
    by_cases h1 : t < l
    · rw [if_pos h1, if_pos (by omega), if_pos h1]; simp
    · rw [if_neg h1, if_neg h1]
      by_cases h2 : t = l
      · subst h2
        simp
      · rw [if_neg h2, if_neg (by omega)]
        obtain ⟨s, rfl⟩ : ∃ s, t = l + 1 + s := ⟨t - l - 1, by omega⟩
        have e1 : l + 1 + s - l - 1 = s := by omega
        have e2 : l + 1 + s - (l + 1) = s := by omega
        have e3 : l + 1 + s - l = s + 1 := by omega
        rw [e1, e2, e3, Int.pow_succ]
        grind
theorem cf_step (m t l : Nat) (h : 1 ≤ l) : cf m t (l - 1) + lg m t l = cf m (t + 1) l := by
  obtain ⟨k, rfl⟩ : ∃ k, l = k + 1 := ⟨l - 1, by omega⟩
  unfold cf lg
  rw [Nat.add_sub_cancel, if_neg (show ¬ k + 1 = 0 by omega)]
  by_cases h0 : k = 0
  · subst h0
    by_cases h1 : t = 0
    · subst h1; simp
    · rw [if_pos rfl, if_neg h1, if_neg (by omega), if_neg (by omega), if_neg (by omega)]
      simp
  · rw [if_neg h0]
    by_cases h1 : t < k
    · rw [if_pos h1, if_pos (by omega), if_pos (by omega)]; simp
    · rw [if_neg h1]
      by_cases h2 : t = k
      · subst h2
        simp
      · rw [if_neg h2, if_neg (by omega), if_neg (by omega), if_neg (by omega)]
        obtain ⟨s, rfl⟩ : ∃ s, t = k + 1 + s := ⟨t - k - 1, by omega⟩
        have e1 : k + 1 + s - k - 1 = s := by omega
        have e2 : k + 1 + s - (k + 1) = s := by omega
        have e3 : k + 1 + s + 1 - (k + 1) - 1 = s := by omega
        rw [e1, e2, e3]
        grind
def pf (m : Nat) : Nat → Int
  | 0 => 1
  | l + 1 => pf m l * ((m : Int) - l)
def fl (m t l : Nat) : Int := pf m l * cf m t l
def TT (m t k : Nat) : Int := pf m k * lg m t k
theorem fl_TT (m t l : Nat) : fl m t l + TT m t (l + 1) = TT m t l := by
  unfold fl TT
  rw [← lg_step m t l]
  show pf m l * cf m t l + pf m l * ((m : Int) - l) * lg m t (l + 1) = _
  grind
def sumTo (f : Nat → Int) : Nat → Int
  | 0 => 0
  | n + 1 => sumTo f n + f n
theorem sum_fl (m t : Nat) : ∀ k, sumTo (fl m t) k + TT m t k = (m : Int) ^ t
  | 0 => by
    show (0 : Int) + pf m 0 * lg m t 0 = _
    unfold lg
    rw [if_neg (by omega)]
    show (0 : Int) + 1 * (m : Int) ^ (t - 0) = _
    simp
  | k + 1 => by
    have ih := sum_fl m t k
    have e := fl_TT m t k
    show sumTo (fl m t) k + fl m t k + TT m t (k + 1) = _
    omega
theorem pf_zero (m : Nat) : pf m (m + 1) = 0 := by
  show pf m m * ((m : Int) - m) = 0
  simp
theorem TT_zero (m t : Nat) : TT m t (m + 1) = 0 := by
  unfold TT
  rw [pf_zero]
  simp
theorem sum_all (m t : Nat) : sumTo (fl m t) (m + 1) = (m : Int) ^ t := by
  have h := sum_fl m t (m + 1)
  rw [TT_zero] at h
  omega
theorem sum_lfl (m t : Nat) : ∀ k : Nat, sumTo (fun l => (l : Int) * fl m t l) k + (k : Int) * TT m t k = sumTo (fun l => TT m t (l + 1)) k
  | 0 => by simp [sumTo]
  | k + 1 => by
    have ih := sum_lfl m t k
    have e := fl_TT m t k
    show sumTo (fun l => (l : Int) * fl m t l) k + (k : Int) * fl m t k + ((k + 1 : Nat) : Int) * TT m t (k + 1) = sumTo (fun l => TT m t (l + 1)) k + TT m t (k + 1)
    rw [← ih, ← e]
    grind
def top (m t : Nat) : Int := sumTo (fun l => TT m t (l + 1)) m
theorem top_eq (m t : Nat) : sumTo (fun l => (l : Int) * fl m t l) (m + 1) = top m t := by
  have h := sum_lfl m t (m + 1)
  rw [TT_zero] at h
  have e : sumTo (fun l => TT m t (l + 1)) (m + 1) = top m t + TT m t (m + 1) := rfl
  rw [e, TT_zero] at h
  omega
theorem pf_nn (m : Nat) : ∀ k, k ≤ m → 0 ≤ pf m k
  | 0, _ => by show (0 : Int) ≤ 1; omega
  | k + 1, h => by
    have ih := pf_nn m k (by omega)
    exact Int.mul_nonneg ih (by omega)
theorem pow_nn (m n : Nat) : (0 : Int) ≤ (m : Int) ^ n := Int.pow_nonneg (by omega)
theorem lg_nn (m t k : Nat) : 0 ≤ lg m t k := by
  unfold lg
  split
  · omega
  · exact pow_nn _ _
theorem pf_le (m : Nat) : ∀ k, k ≤ m → pf m k ≤ (m : Int) ^ k
  | 0, _ => by show (1 : Int) ≤ _; simp
  | k + 1, h => by
    have ih := pf_le m k (by omega)
    have nn := pf_nn m k (by omega)
    rw [Int.pow_succ]
    show pf m k * ((m : Int) - k) ≤ _
    exact Int.mul_le_mul ih (by omega) (by omega) (pow_nn _ _)
theorem TT_nn (m t k : Nat) (h : k ≤ m) : 0 ≤ TT m t k := Int.mul_nonneg (pf_nn m k h) (lg_nn m t k)
theorem TT_le (m t k : Nat) (h : k ≤ m) : TT m t k ≤ (m : Int) ^ t := by
  unfold TT lg
  split
  · simp; exact pow_nn _ _
  · have e : (m : Int) ^ t = (m : Int) ^ k * (m : Int) ^ (t - k) := by
      rw [← Int.pow_add]
      congr 1
      omega
    rw [e]
    exact Int.mul_le_mul_of_nonneg_right (pf_le m k h) (pow_nn _ _)
theorem TT_mono (m t k : Nat) (h : k ≤ m) : (m : Int) * TT m t k ≤ TT m (t + 1) k := by
  have nn := pf_nn m k h
  have e : (m : Int) * lg m t k ≤ lg m (t + 1) k := by
    by_cases h1 : t < k
    · have : lg m t k = 0 := by unfold lg; rw [if_pos h1]
      rw [this]
      simp
      exact lg_nn _ _ _
    · unfold lg
      rw [if_neg h1, if_neg (by omega)]
      have e : t + 1 - k = (t - k) + 1 := by omega
      rw [e, Int.pow_succ, Int.mul_comm]
      exact Int.le_refl _
  unfold TT
  have := Int.mul_le_mul_of_nonneg_left e nn
  calc (m : Int) * (pf m k * lg m t k) = pf m k * ((m : Int) * lg m t k) := by grind
    _ ≤ _ := this
theorem sumTo_le {f g : Nat → Int} : ∀ n, (∀ i, i < n → f i ≤ g i) → sumTo f n ≤ sumTo g n
  | 0, _ => Int.le_refl _
  | n + 1, h => Int.add_le_add (sumTo_le n fun i hi => h i (by omega)) (h n (by omega))
theorem sumTo_mul (c : Int) (f : Nat → Int) : ∀ n, sumTo (fun i => c * f i) n = c * sumTo f n
  | 0 => by simp [sumTo]
  | n + 1 => by
    show sumTo (fun i => c * f i) n + c * f n = c * (sumTo f n + f n)
    rw [sumTo_mul c f n]
    grind
theorem sumTo_const (c : Int) : ∀ n : Nat, sumTo (fun _ => c) n = n * c
  | 0 => by simp [sumTo]
  | n + 1 => by
    show sumTo (fun _ => c) n + c = _
    rw [sumTo_const c n]
    grind
theorem top_mono (m t : Nat) : (m : Int) * top m t ≤ top m (t + 1) := by
  unfold top
  rw [← sumTo_mul]
  exact sumTo_le _ fun i hi => TT_mono m t (i + 1) (by omega)
theorem top_le (m t : Nat) : top m t ≤ m * (m : Int) ^ t := by
  unfold top
  rw [← sumTo_const]
  exact sumTo_le _ fun i hi => TT_le m t (i + 1) (by omega)
theorem sumTo_nn {f : Nat → Int} : ∀ n, (∀ i, i < n → 0 ≤ f i) → 0 ≤ sumTo f n
  | 0, _ => Int.le_refl _
  | n + 1, h => Int.add_nonneg (sumTo_nn n fun i hi => h i (by omega)) (h n (by omega))
theorem top_nn (m t : Nat) : 0 ≤ top m t := sumTo_nn _ fun i hi => TT_nn m t (i + 1) (by omega)
theorem sumTo_first {f : Nat → Int} : ∀ n, 0 < n → (∀ i, i < n → 0 ≤ f i) → f 0 ≤ sumTo f n
  | 1, _, _ => by show f 0 ≤ 0 + f 0; omega
  | n + 2, _, h => by
    have := sumTo_first (f := f) (n + 1) (by omega) fun i hi => h i (by omega)
    have h2 := h (n + 1) (by omega)
    show f 0 ≤ sumTo f (n + 1) + f (n + 1)
    omega
theorem top_ge (m t : Nat) (hm : 1 ≤ m) (ht : 1 ≤ t) : (m : Int) ^ t ≤ top m t := by
  have h := sumTo_first (f := fun l => TT m t (l + 1)) m hm fun i hi => TT_nn m t (i + 1) (by omega)
  have e : TT m t 1 = (m : Int) ^ t := by
    show pf m 0 * ((m : Int) - (0 : Nat)) * lg m t 1 = _
    unfold lg
    rw [if_neg (by omega)]
    obtain ⟨s, rfl⟩ : ∃ s, t = s + 1 := ⟨t - 1, by omega⟩
    show 1 * ((m : Int) - (0 : Nat)) * (m : Int) ^ (s + 1 - 1) = _
    rw [Nat.add_sub_cancel, Int.pow_succ]
    simp
    exact Int.mul_comm _ _
  unfold top
  show _ ≤ sumTo (fun l => TT m t (l + 1)) m
  rw [← e]
  exact h
theorem cf_nn (m t l : Nat) : 0 ≤ cf m t l := by
  unfold cf
  split
  · split <;> omega
  · split
    · omega
    · split
      · omega
      · exact Int.mul_nonneg (by omega) (pow_nn _ _)
theorem pow_mono {a b : Nat} (h : a ≤ b) : ∀ n : Nat, (a : Int) ^ n ≤ (b : Int) ^ n
  | 0 => by simp
  | n + 1 => by
    rw [Int.pow_succ, Int.pow_succ]
    exact Int.mul_le_mul (pow_mono h n) (by omega) (by omega) (pow_nn _ _)
theorem cf_mono (m t l : Nat) : cf m t l ≤ cf (m + 1) t l := by
  unfold cf
  split
  · exact Int.le_refl _
  · split
    · exact Int.le_refl _
    · split
      · exact Int.le_refl _
      · refine Int.mul_le_mul_of_nonneg_left ?_ (by omega)
        exact pow_mono (by omega) _
theorem cf_full (m t : Nat) (hm : 1 ≤ m) : cf m (t + 1) m = cf m t (m - 1) + cf m t m := by
  have h1 := cf_step m t m hm
  have h2 := lg_step m t m
  have h3 : ((m : Int) - m) = 0 := by omega
  rw [h3] at h2
  omega
theorem fl_one (m t : Nat) : fl m t 1 = if t = 0 then 0 else if t = 1 then (m : Int) else (m : Int) ^ (t - 1) := by
  show pf m 0 * ((m : Int) - (0 : Nat)) * cf m t 1 = _
  show 1 * ((m : Int) - (0 : Nat)) * cf m t 1 = _
  unfold cf
  by_cases h0 : t = 0
  · subst h0; simp
  · rw [if_neg (by omega), if_neg (by omega), if_neg h0]
    by_cases h1 : t = 1
    · subst h1; simp
    · rw [if_neg h1, if_neg h1]
      obtain ⟨s, rfl⟩ : ∃ s, t = s + 2 := ⟨t - 2, by omega⟩
      have e1 : s + 2 - 1 - 1 = s := by omega
      have e2 : s + 2 - 1 = s + 1 := by omega
      rw [e1, e2, Int.pow_succ]
      simp
      exact Int.mul_comm _ _
theorem fl_zero (m t : Nat) : fl m t 0 = if t = 0 then 1 else 0 := by
  show 1 * cf m t 0 = _
  unfold cf
  simp
/-! sizes -/
theorem pow_lt {m n e : Nat} (hm : m ≤ 64) (h : 6 * n < e) : ((m : Int) ^ n).natAbs < 2 ^ e := by
  have h1 : ((m : Int) ^ n) ≤ ((64 : Nat) : Int) ^ n := pow_mono hm n
  have h0 := pow_nn m n
  have h2 : (((64 : Nat) : Int) ^ n) = ((2 ^ (6 * n) : Nat) : Int) := by
    rw [Nat.pow_mul]
    simp
  have h3 : (2 : Nat) ^ (6 * n) < 2 ^ e := Nat.pow_lt_pow_right (by omega) h
  omega
theorem lt_of_le {a b : Int} {e : Nat} (h0 : 0 ≤ a) (h : a ≤ b) (hb : b.natAbs < 2 ^ e) : a.natAbs < 2 ^ e := by omega
theorem cf_le (m t l : Nat) (hm : 1 ≤ m) : cf m t l ≤ ((l + 1 : Nat) : Int) * (m : Int) ^ t := by
  have p1 : (1 : Int) ≤ (m : Int) ^ t := by
    have := pow_mono (a := 1) (b := m) hm t
    rw [show ((1 : Nat) : Int) = 1 from rfl, Int.one_pow] at this
    exact this
  have p2 : ((l + 1 : Nat) : Int) * 1 ≤ ((l + 1 : Nat) : Int) * (m : Int) ^ t := Int.mul_le_mul_of_nonneg_left p1 (by omega)
  unfold cf
  split
  · split <;> omega
  · split
    · omega
    · split
      · omega
      · rename_i h1 h2 h3
        have p3 : (m : Int) ^ (t - l - 1) ≤ (m : Int) ^ t := by
          have e : (m : Int) ^ t = (m : Int) ^ (t - l - 1) * (m : Int) ^ (l + 1) := by
            rw [← Int.pow_add]
            congr 1
            omega
          have q : (1 : Int) ≤ (m : Int) ^ (l + 1) := by
            have := pow_mono (a := 1) (b := m) hm (l + 1)
            rw [show ((1 : Nat) : Int) = 1 from rfl, Int.one_pow] at this
            exact this
          rw [e]
          have := Int.mul_le_mul_of_nonneg_left q (pow_nn m (t - l - 1))
          omega
        exact Int.mul_le_mul (by omega) p3 (pow_nn _ _) (by omega)
theorem cf_lt (m t l : Nat) (hm : 1 ≤ m) (hm2 : m ≤ 40) (ht : t ≤ 201) (hl : l ≤ 40) : (cf m t l).natAbs < 2 ^ 1300 := by
  refine lt_of_le (cf_nn _ _ _) (cf_le m t l hm) ?_
  rw [Int.natAbs_mul]
  have h1 : ((m : Int) ^ t).natAbs < 2 ^ 1250 := pow_lt (by omega) (by omega)
  have h2 : (((l + 1 : Nat) : Int)).natAbs < 2 ^ 50 := by
    have : (2 : Nat) ^ 50 = 1125899906842624 := by decide
    omega
  have := Nat.mul_lt_mul'' h2 h1
  rw [← Nat.pow_add] at this
  exact this
theorem lg_lt (m t l : Nat) (hm2 : m ≤ 40) (ht : t ≤ 201) : (lg m t l).natAbs < 2 ^ 1300 := by
  unfold lg
  split
  · exact Nat.two_pow_pos _
  · exact pow_lt (by omega) (by omega)
theorem pf_lt (m l : Nat) (hm2 : m ≤ 40) (hl : l ≤ m) : (pf m l).natAbs < 2 ^ 300 := by
  refine lt_of_le (pf_nn m l hl) (pf_le m l hl) ?_
  exact pow_lt (by omega) (by omega)
theorem top_lt (m t : Nat) (hm2 : m ≤ 40) (ht : t ≤ 201) : (top m t).natAbs < 2 ^ 1300 := by
  refine lt_of_le (top_nn m t) (top_le m t) ?_
  have e : (m : Int) * (m : Int) ^ t = (m : Int) ^ (t + 1) := by rw [Int.pow_succ, Int.mul_comm]
  rw [e]
  exact pow_lt (by omega) (by omega)
end FM

set_option Elab.async false
set_option linter.all false
set_option maxRecDepth 100000
set_option maxHeartbeats 4000000
/-! for over zip of two lists, the second not longer -/
namespace LW
open PySem PySem.Spec PyProof.Rows L2 BC
theorem lg_zipS {K : PySem.W.Frag} {a b : Addr} {xs ys : List V} {g : TG} {tb : TS} {D : Ends} {σ : L2.St} {H : Hp} (he : ys.length ≤ xs.length) (Pv : Nat → L2.St → Hp → Prop) (h0 : Pv 0 σ H) (hq : ∀ i σ H, Pv i σ H → SqL K H a xs ∧ SqL K H b ys)
    (hs : ∀ (i : Nat) (x y : V) (T : Addr) (σ : L2.St) (H : Hp), xs[i]? = some x → ys[i]? = some y → Pv i σ H → H T = none → g (.ref T) σ (upd H T (.tup [x, y])) fun σ2 H2 => tb { D with nx := Pv (i + 1), ct := Pv (i + 1), bk := D.nx } σ2 H2) (hd : ∀ σ H, Pv ys.length σ H → D.nx σ H) : LoopG (Itz K a b) g tb D σ H := by
  refine ⟨fun i m σ H => m = ys.length - i ∧ i ≤ ys.length ∧ Pv i σ H, ⟨ys.length, by simp, Nat.zero_le _, h0⟩, ?_⟩
  rintro i m σ H ⟨rfl, hi, p⟩
  obtain ⟨q1, q2⟩ := hq i σ H p
  by_cases hlt : i < ys.length
  · refine .inr ⟨⟨xs, ys, xs[i], ys[i], q1, q2, List.getElem?_eq_getElem (by omega), List.getElem?_eq_getElem hlt⟩, Pv (i + 1), fun σ' H' p' => ⟨ys.length - (i + 1), by omega, rfl, hlt, p'⟩, fun x H' y => ?_⟩
    obtain ⟨T, u, v, rfl, hT, rfl, hf, hf2⟩ := y
    exact hs i u v T σ H (hf xs q1) (hf2 ys q2) p hT
  · have e : i = ys.length := by omega
    subst e
    refine .inl ⟨⟨xs, ys, q1, q2, ?_⟩, hd σ H p⟩
    first | exact .inr (Nat.le_refl _) | exact .inr ⟨by omega, Nat.le_refl _⟩ | (simp; omega)
end LW

set_option Elab.async false
set_option linter.all false
set_option maxRecDepth 100000
set_option maxHeartbeats 4000000
namespace LW
open PySem PySem.Spec PyProof.Rows L2 BC Evl TR LN VS FM

def topS (i : Nat) : Stmt := PySem.Challenge.pw_breadcrumbs_k67_many_visits_with_lengths.main.body.getD i (.Pass ⟨0, 0, 0, 0⟩)
abbrev s_is_integer : Stmt := topS 6
theorem sc_is_integer : FnScope ["value", "least", "most"] ["value", "least", "most"] (defScope s_is_integer) := ⟨rfl, rfl, rfl, by decide +kernel, rfl, by decide +kernel, by decide +kernel⟩
abbrev s_check_number : Stmt := topS 7
theorem sc_check_number : FnScope ["value", "least", "most"] ["value", "least", "most"] (defScope s_check_number) := ⟨rfl, rfl, rfl, by decide +kernel, rfl, by decide +kernel, by decide +kernel⟩
abbrev s_is_page : Stmt := topS 11
theorem sc_is_page : FnScope ["value"] ["value"] (defScope s_is_page) := ⟨rfl, rfl, rfl, by decide +kernel, rfl, by decide +kernel, by decide +kernel⟩
abbrev s_is_visits : Stmt := topS 12
theorem sc_is_visits : FnScope ["value", "page"] ["value"] (defScope s_is_visits) := ⟨rfl, rfl, rfl, by decide +kernel, rfl, by decide +kernel, by decide +kernel⟩
abbrev s_check_visits : Stmt := topS 13
theorem sc_check_visits : FnScope ["visits"] ["visits"] (defScope s_check_visits) := ⟨rfl, rfl, rfl, by decide +kernel, rfl, by decide +kernel, by decide +kernel⟩
abbrev s_visited : Stmt := topS 14
theorem sc_visited : FnScope ["trail", "page"] ["trail", "page"] (defScope s_visited) := ⟨rfl, rfl, rfl, by decide +kernel, rfl, by decide +kernel, by decide +kernel⟩
abbrev s_is_lengths : Stmt := topS 18
theorem sc_is_lengths : FnScope ["value", "before", "length"] ["value"] (defScope s_is_lengths) := ⟨rfl, rfl, rfl, by decide +kernel, rfl, by decide +kernel, by decide +kernel⟩
abbrev s_check_lengths : Stmt := topS 19
theorem sc_check_lengths : FnScope ["value"] ["value"] (defScope s_check_lengths) := ⟨rfl, rfl, rfl, by decide +kernel, rfl, by decide +kernel, by decide +kernel⟩
abbrev s_lengths_in : Stmt := topS 20
theorem sc_lengths_in : FnScope ["visits", "page", "trail", "found"] ["visits"] (defScope s_lengths_in) := ⟨rfl, rfl, rfl, by decide +kernel, rfl, by decide +kernel, by decide +kernel⟩
abbrev s_lengths_of : Stmt := topS 21
theorem sc_lengths_of : FnScope ["visits"] ["visits"] (defScope s_lengths_of) := ⟨rfl, rfl, rfl, by decide +kernel, rfl, by decide +kernel, by decide +kernel⟩
abbrev s_factors_of : Stmt := topS 22
theorem sc_factors_of : FnScope ["many", "lengths", "length", "found", "before"] ["many", "lengths"] (defScope s_factors_of) := ⟨rfl, rfl, rfl, by decide +kernel, rfl, by decide +kernel, by decide +kernel⟩
abbrev s_products_behind : Stmt := topS 23
theorem sc_products_behind : FnScope ["factors", "found", "factor"] ["factors"] (defScope s_products_behind) := ⟨rfl, rfl, rfl, by decide +kernel, rfl, by decide +kernel, by decide +kernel⟩
abbrev s_count_visits : Stmt := topS 24
theorem sc_count_visits : FnScope ["many", "lengths"] ["many", "lengths"] (defScope s_count_visits) := ⟨rfl, rfl, rfl, by decide +kernel, rfl, by decide +kernel, by decide +kernel⟩
abbrev s_nth_visits : Stmt := topS 25
theorem sc_nth_visits : FnScope ["many", "lengths", "index", "products", "trail", "rest", "found", "place", "length", "free", "page", "choice"] ["many", "lengths", "index"] (defScope s_nth_visits) := ⟨rfl, rfl, rfl, by decide +kernel, rfl, by decide +kernel, by decide +kernel⟩
abbrev s_visits_rank : Stmt := topS 26
theorem sc_visits_rank : FnScope ["many", "visits", "products", "trail", "found", "place", "page", "other"] ["many", "visits"] (defScope s_visits_rank) := ⟨rfl, rfl, rfl, by decide +kernel, rfl, by decide +kernel, by decide +kernel⟩
abbrev s_law_bag : Stmt := topS 28
theorem sc_law_bag : FnScope ["_law_cell"] ["_law_cell"] (defScope s_law_bag) := ⟨rfl, rfl, rfl, by decide +kernel, rfl, by decide +kernel, by decide +kernel⟩
abbrev s_law_draw : Stmt := topS 29
theorem sc_law_draw : FnScope ["_law_bag_here", "_law_most", "_law_mixed", "_law_digit"] ["_law_bag_here", "_law_most"] (defScope s_law_draw) := ⟨rfl, rfl, rfl, by decide +kernel, rfl, by decide +kernel, by decide +kernel⟩
abbrev s_law_equal : Stmt := topS 30
theorem sc_law_equal : FnScope ["_law_found", "_law_due", "_law_one", "_law_two"] ["_law_found", "_law_due"] (defScope s_law_equal) := ⟨rfl, rfl, rfl, by decide +kernel, rfl, by decide +kernel, by decide +kernel⟩
abbrev s_law_after : Stmt := topS 31
theorem sc_law_after : FnScope ["_law_trail_here", "_law_page_here"] ["_law_trail_here", "_law_page_here"] (defScope s_law_after) := ⟨rfl, rfl, rfl, by decide +kernel, rfl, by decide +kernel, by decide +kernel⟩
abbrev s_law_sizes : Stmt := topS 32
theorem sc_law_sizes : FnScope ["_law_row_here", "_law_page_here", "_law_found", "_law_trail_here"] ["_law_row_here"] (defScope s_law_sizes) := ⟨rfl, rfl, rfl, by decide +kernel, rfl, by decide +kernel, by decide +kernel⟩
abbrev s_law_row : Stmt := topS 33
theorem sc_law_row : FnScope ["_law_bag_here", "_law_wide", "_law_long", "_law_turn", "_law_found", "_law_way", "_law_top", "_law_some"] ["_law_bag_here", "_law_wide", "_law_long"] (defScope s_law_row) := ⟨rfl, rfl, rfl, by decide +kernel, rfl, by decide +kernel, by decide +kernel⟩
abbrev s_law_pages : Stmt := topS 34
theorem sc_law_pages : FnScope ["_law_bag_here", "_law_wide", "_law_long", "_law_turn", "_law_found", "_law_trail_here", "_law_way", "_law_fresh", "_law_new", "_law_old", "_law_some", "_law_one"] ["_law_bag_here", "_law_wide", "_law_long"] (defScope s_law_pages) := ⟨rfl, rfl, rfl, by decide +kernel, rfl, by decide +kernel, by decide +kernel⟩
abbrev s_law_digits : Stmt := topS 35
theorem sc_law_digits : FnScope ["_law_wide", "_law_sizes_here", "_law_found", "_law_one", "_law_two"] ["_law_wide", "_law_sizes_here"] (defScope s_law_digits) := ⟨rfl, rfl, rfl, by decide +kernel, rfl, by decide +kernel, by decide +kernel⟩
abbrev s_law_nth : Stmt := topS 36
theorem sc_law_nth : FnScope ["_law_wide", "_law_sizes_here", "_law_number", "_law_choices", "_law_digit", "_law_found", "_law_trail_here", "_law_size", "_law_choice", "_law_fresh", "_law_one"] ["_law_wide", "_law_sizes_here", "_law_number"] (defScope s_law_nth) := ⟨rfl, rfl, rfl, by decide +kernel, rfl, by decide +kernel, by decide +kernel⟩
abbrev s_law_holds : Stmt := topS 37
theorem sc_law_holds : FnScope ["_law_bag_here", "_law_wide", "_law_sizes_here", "_law_digit", "_law_number", "_law_whole", "_law_before", "_law_row_here"] ["_law_bag_here", "_law_wide", "_law_sizes_here"] (defScope s_law_holds) := ⟨rfl, rfl, rfl, by decide +kernel, rfl, by decide +kernel, by decide +kernel⟩
abbrev s_law : Stmt := topS 38
theorem sc_law : FnScope ["_law_script", "_law_k", "_law_cell", "_law_bag_here", "_law_is_last", "_law_wide", "_law_long", "_law_row_here", "_law_number", "_law_sizes_here"] ["_law_script"] (defScope s_law) := ⟨rfl, rfl, rfl, by decide +kernel, rfl, by decide +kernel, by decide +kernel⟩
structure Txt (K : PySem.W.Frag) (mg : Str → Option Value) where
  f_is_integer : Addr
  fd_is_integer : FuncData
  F_is_integer : Fun K "is_integer" "is_integer" s_is_integer f_is_integer fd_is_integer
  m_is_integer : mg "is_integer" = some (.ref f_is_integer)
  b_is_integer : Binds K fd_is_integer ["value", "least", "most"] []
  f_check_number : Addr
  fd_check_number : FuncData
  F_check_number : Fun K "check_number" "check_number" s_check_number f_check_number fd_check_number
  m_check_number : mg "check_number" = some (.ref f_check_number)
  b_check_number : Binds K fd_check_number ["value", "least", "most"] []
  f_is_page : Addr
  fd_is_page : FuncData
  F_is_page : Fun K "is_page" "is_page" s_is_page f_is_page fd_is_page
  m_is_page : mg "is_page" = some (.ref f_is_page)
  b_is_page : Binds K fd_is_page ["value"] []
  f_is_visits : Addr
  fd_is_visits : FuncData
  F_is_visits : Fun K "is_visits" "is_visits" s_is_visits f_is_visits fd_is_visits
  m_is_visits : mg "is_visits" = some (.ref f_is_visits)
  b_is_visits : Binds K fd_is_visits ["value"] []
  f_check_visits : Addr
  fd_check_visits : FuncData
  F_check_visits : Fun K "check_visits" "check_visits" s_check_visits f_check_visits fd_check_visits
  m_check_visits : mg "check_visits" = some (.ref f_check_visits)
  b_check_visits : Binds K fd_check_visits ["visits"] []
  f_visited : Addr
  fd_visited : FuncData
  F_visited : Fun K "visited" "visited" s_visited f_visited fd_visited
  m_visited : mg "visited" = some (.ref f_visited)
  b_visited : Binds K fd_visited ["trail", "page"] []
  f_is_lengths : Addr
  fd_is_lengths : FuncData
  F_is_lengths : Fun K "is_lengths" "is_lengths" s_is_lengths f_is_lengths fd_is_lengths
  m_is_lengths : mg "is_lengths" = some (.ref f_is_lengths)
  b_is_lengths : Binds K fd_is_lengths ["value"] []
  f_check_lengths : Addr
  fd_check_lengths : FuncData
  F_check_lengths : Fun K "check_lengths" "check_lengths" s_check_lengths f_check_lengths fd_check_lengths
  m_check_lengths : mg "check_lengths" = some (.ref f_check_lengths)
  b_check_lengths : Binds K fd_check_lengths ["value"] []
  f_lengths_in : Addr
  fd_lengths_in : FuncData
  F_lengths_in : Fun K "lengths_in" "lengths_in" s_lengths_in f_lengths_in fd_lengths_in
  m_lengths_in : mg "lengths_in" = some (.ref f_lengths_in)
  b_lengths_in : Binds K fd_lengths_in ["visits"] []
  f_lengths_of : Addr
  fd_lengths_of : FuncData
  F_lengths_of : Fun K "lengths_of" "lengths_of" s_lengths_of f_lengths_of fd_lengths_of
  m_lengths_of : mg "lengths_of" = some (.ref f_lengths_of)
  b_lengths_of : Binds K fd_lengths_of ["visits"] []
  f_factors_of : Addr
  fd_factors_of : FuncData
  F_factors_of : Fun K "factors_of" "factors_of" s_factors_of f_factors_of fd_factors_of
  m_factors_of : mg "factors_of" = some (.ref f_factors_of)
  b_factors_of : Binds K fd_factors_of ["many", "lengths"] []
  f_products_behind : Addr
  fd_products_behind : FuncData
  F_products_behind : Fun K "products_behind" "products_behind" s_products_behind f_products_behind fd_products_behind
  m_products_behind : mg "products_behind" = some (.ref f_products_behind)
  b_products_behind : Binds K fd_products_behind ["factors"] []
  f_count_visits : Addr
  fd_count_visits : FuncData
  F_count_visits : Fun K "count_visits" "count_visits" s_count_visits f_count_visits fd_count_visits
  m_count_visits : mg "count_visits" = some (.ref f_count_visits)
  b_count_visits : Binds K fd_count_visits ["many", "lengths"] []
  f_nth_visits : Addr
  fd_nth_visits : FuncData
  F_nth_visits : Fun K "nth_visits" "nth_visits" s_nth_visits f_nth_visits fd_nth_visits
  m_nth_visits : mg "nth_visits" = some (.ref f_nth_visits)
  b_nth_visits : Binds K fd_nth_visits ["many", "lengths", "index"] []
  f_visits_rank : Addr
  fd_visits_rank : FuncData
  F_visits_rank : Fun K "visits_rank" "visits_rank" s_visits_rank f_visits_rank fd_visits_rank
  m_visits_rank : mg "visits_rank" = some (.ref f_visits_rank)
  b_visits_rank : Binds K fd_visits_rank ["many", "visits"] []
  f_law_bag : Addr
  fd_law_bag : FuncData
  F_law_bag : Fun K "_law_bag" "_law_bag" s_law_bag f_law_bag fd_law_bag
  m_law_bag : mg "_law_bag" = some (.ref f_law_bag)
  b_law_bag : Binds K fd_law_bag ["_law_cell"] []
  f_law_draw : Addr
  fd_law_draw : FuncData
  F_law_draw : Fun K "_law_draw" "_law_draw" s_law_draw f_law_draw fd_law_draw
  m_law_draw : mg "_law_draw" = some (.ref f_law_draw)
  b_law_draw : Binds K fd_law_draw ["_law_bag_here", "_law_most"] []
  f_law_equal : Addr
  fd_law_equal : FuncData
  F_law_equal : Fun K "_law_equal" "_law_equal" s_law_equal f_law_equal fd_law_equal
  m_law_equal : mg "_law_equal" = some (.ref f_law_equal)
  b_law_equal : Binds K fd_law_equal ["_law_found", "_law_due"] []
  f_law_after : Addr
  fd_law_after : FuncData
  F_law_after : Fun K "_law_after" "_law_after" s_law_after f_law_after fd_law_after
  m_law_after : mg "_law_after" = some (.ref f_law_after)
  b_law_after : Binds K fd_law_after ["_law_trail_here", "_law_page_here"] []
  f_law_sizes : Addr
  fd_law_sizes : FuncData
  F_law_sizes : Fun K "_law_sizes" "_law_sizes" s_law_sizes f_law_sizes fd_law_sizes
  m_law_sizes : mg "_law_sizes" = some (.ref f_law_sizes)
  b_law_sizes : Binds K fd_law_sizes ["_law_row_here"] []
  f_law_row : Addr
  fd_law_row : FuncData
  F_law_row : Fun K "_law_row" "_law_row" s_law_row f_law_row fd_law_row
  m_law_row : mg "_law_row" = some (.ref f_law_row)
  b_law_row : Binds K fd_law_row ["_law_bag_here", "_law_wide", "_law_long"] []
  f_law_pages : Addr
  fd_law_pages : FuncData
  F_law_pages : Fun K "_law_pages" "_law_pages" s_law_pages f_law_pages fd_law_pages
  m_law_pages : mg "_law_pages" = some (.ref f_law_pages)
  b_law_pages : Binds K fd_law_pages ["_law_bag_here", "_law_wide", "_law_long"] []
  f_law_digits : Addr
  fd_law_digits : FuncData
  F_law_digits : Fun K "_law_digits" "_law_digits" s_law_digits f_law_digits fd_law_digits
  m_law_digits : mg "_law_digits" = some (.ref f_law_digits)
  b_law_digits : Binds K fd_law_digits ["_law_wide", "_law_sizes_here"] []
  f_law_nth : Addr
  fd_law_nth : FuncData
  F_law_nth : Fun K "_law_nth" "_law_nth" s_law_nth f_law_nth fd_law_nth
  m_law_nth : mg "_law_nth" = some (.ref f_law_nth)
  b_law_nth : Binds K fd_law_nth ["_law_wide", "_law_sizes_here", "_law_number"] []
  f_law_holds : Addr
  fd_law_holds : FuncData
  F_law_holds : Fun K "_law_holds" "_law_holds" s_law_holds f_law_holds fd_law_holds
  m_law_holds : mg "_law_holds" = some (.ref f_law_holds)
  b_law_holds : Binds K fd_law_holds ["_law_bag_here", "_law_wide", "_law_sizes_here"] []
  f_law : Addr
  fd_law : FuncData
  F_law : Fun K "law" "law" s_law f_law fd_law
  m_law : mg "law" = some (.ref f_law)
  b_law : Binds K fd_law ["_law_script"] []
  t_MOST_PAGE : Tok
  c_MOST_PAGE : mg "MOST_PAGE" = some (.int 39 t_MOST_PAGE)
  t_MOST_PAGES : Tok
  c_MOST_PAGES : mg "MOST_PAGES" = some (.int 40 t_MOST_PAGES)
  t_MOST_VISITS_lengths : Tok
  c_MOST_VISITS_lengths : mg "MOST_VISITS_lengths" = some (.int 300 t_MOST_VISITS_lengths)
  t_MOST_VISITS_trails : Tok
  c_MOST_VISITS_trails : mg "MOST_VISITS_trails" = some (.int 300 t_MOST_VISITS_trails)
  n_all : mg "all" = none
  n_bool : mg "bool" = none
  n_divmod : mg "divmod" = none
  n_enumerate : mg "enumerate" = none
  n_int : mg "int" = none
  n_isinstance : mg "isinstance" = none
  n_len : mg "len" = none
  n_list : mg "list" = none
  n_max : mg "max" = none
  n_min : mg "min" = none
  n_range : mg "range" = none
  n_repr : mg "repr" = none
  n_str : mg "str" = none
  n_tuple : mg "tuple" = none
  n_zip : mg "zip" = none
local macro_rules | `(tactic| walk_at "sx") => `(tactic| try simp only [x_seq, x_next, x_brk, x_cnt, x_nev, x_ret, x_retN, x_drop, x_ifS, x_asg, x_gn, x_gsub, x_par, x_par3, x_aug, x_for, x_lc, x_rng1, x_rng2, x_rng3, x_ilist, x_itup, x_ienum, x_izip, x_izipA, x_istr, x_var, x_c, x_op, x_un, x_test, x_b, x_chain, x_and, x_or, x_not, x_andV, x_orV, x_notV, x_ife, x_nil, x_cons, x_lst, x_tup, x_cb, x_call, x_callK, x_bm, x_bm0, x_tru, x_sl, x_nopart, x_part, x_revL, x_I0, x_I, x_U, x_ip, x_ipC, x_eqI, x_neI, x_eqB, x_neB, x_eqS, x_neS, x_isB, x_isNB, x_lrg, x_gall, x_rg1, x_rg2,
  L2.start, List.map_cons, List.map_nil, List.length_cons, List.length_nil, Nat.reduceAdd, Nat.reduceSub, Nat.sub_self, Nat.zero_add, List.replicate, List.replicate_succ, List.replicate_zero, List.append_nil, List.cons_append, List.nil_append, List.set_cons_zero, List.set_cons_succ, List.getElem?_cons_zero, List.getElem?_cons_succ, Option.some.injEq, V.int.injEq, V.bl.injEq, V.ref.injEq, V.str.injEq, List.cons.injEq, and_true, true_and, exists_eq_left', exists_eq_left, exists_and_left, exists_eq, if_true, if_false, ite_true, ite_false, Bool.true_eq_false, Bool.false_eq_true, reduceIte, reduceCtorEq, Bool.not_true, Bool.not_false, decide_true, decide_false, decide_eq_true_eq, Bool.and_true, Bool.true_and, Bool.and_self, Bool.and_false, Bool.false_and, Bool.or_self, Bool.or_false, Bool.false_or, Bool.or_true, Bool.true_or, eq_self])

section
variable {P : Program} {w : World} {K : PySem.W.Frag} {mg : Str → Option Value} {base : Heap}
def spIsInt : Sp := fun vs H Q _ => ∃ i lo hi : Int, vs = [.int i, .int lo, .int hi] ∧ Q (.bl (decide (lo ≤ i) && decide (i ≤ hi))) H
theorem ok_is_integer (T : Txt K mg) : FnOk P w K mg base CX0 1 T.f_is_integer T.fd_is_integer ["value", "least", "most"] spIsInt := by
  refine T.F_is_integer.ok sc_is_integer (fun vs H Q E h => ?_) (fun cdv A outer s H vs Q E hr h => ?_)
  · obtain ⟨i, lo, hi, rfl, _⟩ := h
    rfl
  · obtain ⟨i, lo, hi, rfl, k⟩ := h
    apply Exists.intro
    apply And.intro
    · apply pss_one
      exact (ps_ret (pe_and (pe_callB (k_isi (K := K) rfl) (by rfl) T.n_isinstance (by decide +kernel) (pa_cons (pv 0) (pa_cons (pe_bltn (v := .ty "int") (by rfl) T.n_int (by decide +kernel) rfl) pa_nil))) (pe_and (pe_not (pe_callB (k_isi (K := K) rfl) (by rfl) T.n_isinstance (by decide +kernel) (pa_cons (pv 0) (pa_cons (pe_bltn (v := .ty "bool") (by rfl) T.n_bool (by decide +kernel) rfl) pa_nil)))) (pe_one (pe_chain op_le op_le (pv 1) (pv 0) (pv 2))))))
    walk_at "sx"
    refine isi_int (b := true) (by decide +kernel) ?_
    walk_at "sx"
    refine isi_int (b := false) (by decide +kernel) ?_
    walk_at "sx"
    by_cases h1 : lo ≤ i
    · simpa [h1] using k
    · simpa [h1] using k
end
section
variable {P : Program} {w : World} {K : PySem.W.Frag} {mg : Str → Option Value} {base : Heap}
def spChk : Sp := fun vs H Q _ => ∃ i lo hi : Int, vs = [.int i, .int lo, .int hi] ∧ lo ≤ i ∧ i ≤ hi ∧ Q .non H
theorem ok_check_number (T : Txt K mg) : FnOk P w K mg base CX0 2 T.f_check_number T.fd_check_number ["value", "least", "most"] spChk := by
  refine T.F_check_number.ok sc_check_number (fun vs H Q E h => ?_) (fun cdv A outer s H vs Q E hr h => ?_)
  · obtain ⟨i, lo, hi, rfl, _⟩ := h
    rfl
  · obtain ⟨i, lo, hi, rfl, h1, h2, k⟩ := h
    apply Exists.intro
    apply And.intro
    · apply pss_one
      apply ps_if
      · exact (pt_not (pt_val (pe_call (ok_is_integer T) (hr.mono (by decide)) (by rfl) T.m_is_integer T.F_is_integer.kp T.b_is_integer .nil pass0 (pa_cons (pv 0) (pa_cons (pv 1) (pa_cons (pv 2) pa_nil))))))
      · apply pss_one
        exact ps_never
      · exact pss_nil
    walk_at "sx"
    refine ⟨i, lo, hi, rfl, ?_⟩
    simp only [h1, h2]
    walk_at "sx"
    exact k
end
/-! ### trails.py and lengths.py -/
section
variable {P : Program} {w : World} {K : PySem.W.Frag} {mg : Str → Option Value} {base : Heap}
theorem ints_at {ns : List Int} {i : Nat} {v : V} (h : (ns.map V.int)[i]? = some v) : ∃ n, ns[i]? = some n ∧ v = .int n := by
  rw [List.getElem?_map] at h
  cases e : ns[i]? with
  | none => rw [e] at h; cases h
  | some n => rw [e] at h; cases h; exact ⟨n, rfl, rfl⟩
theorem at_ints {ns : List Int} {i : Nat} {n : Int} (h : ns[i]? = some n) : (ns.map V.int)[i]? = some (.int n) := by rw [List.getElem?_map, h]; rfl
def spIsPage : Sp := fun vs H Q _ => ∃ i : Int, vs = [.int i] ∧ Q (.bl (decide (0 ≤ i) && decide (i ≤ 39))) H
theorem ok_is_page (T : Txt K mg) : FnOk P w K mg base CX0 2 T.f_is_page T.fd_is_page ["value"] spIsPage := by
  refine T.F_is_page.ok sc_is_page (fun vs H Q E h => ?_) (fun cdv A outer s H vs Q E hr h => ?_)
  · obtain ⟨i, rfl, _⟩ := h
    rfl
  · obtain ⟨i, rfl, k⟩ := h
    apply Exists.intro
    apply And.intro
    · apply pss_one
      exact (ps_ret (pe_call (ok_is_integer T) (hr.mono (by decide)) (by rfl) T.m_is_integer T.F_is_integer.kp T.b_is_integer .nil pass0 (pa_cons (pv 0) (pa_cons pe_int (pa_cons (pe_glob (v := .int 39) rfl T.c_MOST_PAGE ⟨_, rfl⟩) pa_nil)))))
    walk_at "sx"
    exact ⟨i, 0, 39, rfl, k⟩
def spIsVisits (K : PySem.W.Frag) : Sp := fun vs H Q _ => ∃ (a : Addr) (ns : List Int), vs = [.ref a] ∧ SqL K H a (ns.map V.int) ∧ ns.length ≤ 300 ∧ Pg 40 ns ∧ ∀ H', Ex H H' → Q (.bl true) H'
theorem ok_is_visits (T : Txt K mg) : FnOk P w K mg base CX0 3 T.f_is_visits T.fd_is_visits ["value"] (spIsVisits K) := by
  refine T.F_is_visits.ok sc_is_visits (fun vs H Q E h => ?_) (fun cdv A outer s H vs Q E hr h => ?_)
  · obtain ⟨a, ns, rfl, _⟩ := h
    rfl
  · obtain ⟨a, ns, rfl, hA, hl, hp, k⟩ := h
    apply Exists.intro
    apply And.intro
    · apply pss_one
      exact (ps_ret (pe_and (pe_callB (k_isi (K := K) rfl) (by rfl) T.n_isinstance (by decide +kernel) (pa_cons (pv 0) (pa_cons (pe_bltn (v := .ty "list") (by rfl) T.n_list (by decide +kernel) rfl) pa_nil))) (pe_and (pe_cmpR op_le (pe_callB (k_len (K := K) rfl) (by rfl) T.n_len PySem.boot_len (pa_cons (pv 0) pa_nil)) (pe_glob (v := .int 300) rfl T.c_MOST_VISITS_trails ⟨_, rfl⟩) (by rfl)) (pe_one (pe_callB (k_all (K := K) rfl rfl) (by rfl) T.n_all (by decide +kernel) (pa_cons (pe_lc (own := [("page", 1)]) rfl sc_is_visits.nd (k_pi_list (K := K) rfl (pv 0)) (blkOk_by (own := [("page", 1)]) (N := ["value", "page"]) (sc := defScope s_is_visits) (by decide +kernel)) (fun _ _ _ _ _ => by exact (pg_name (i := 1) sc_is_visits.nd rfl (.inl rfl))) (fun _ _ _ _ _ => by exact pts_nil) (fun _ _ _ _ _ => by exact (pe_call (ok_is_page T) (hr.mono (by decide)) (by rfl) T.m_is_page T.F_is_page.kp T.b_is_page .nil pass0 (pa_cons (pv 1) pa_nil)))) pa_nil))))))
    walk_at "sx"
    refine isi_x (b := true) (tyx_l hA) (by decide +kernel) ?_
    walk_at "sx"
    refine lenL hA ?_
    walk_at "sx"
    rw [List.length_map]
    have e1 : ((ns.length : Nat) : Int) ≤ 300 := by omega
    simp only [e1]
    walk_at "sx"
    refine ⟨⟨_, hA⟩, fun D nD => ?_⟩
    refine lc_list (fun _ => true) (fun _ => V.bl true) hA nD (by rw [List.length_map]; omega) (fun u => rfl) (fun i x _ => tyes) (fun i x hx _ => ?_) (fun H2 e2 hD => ?_)
    · obtain ⟨n, hn, rfl⟩ := ints_at hx
      obtain ⟨n0, n1⟩ := hp.at hn
      refine ev_call (vs := [.int n]) (ea_cons (ev_var rfl) ea_nil) (fun H3 e3 Q3 q3 E3 => ⟨n, rfl, ?_⟩)
      have z1 : n ≤ 39 := by omega
      rw [decide_eq_true n0, decide_eq_true z1]
      exact q3 H3 (Ex.refl _)
    · rw [kept_const] at hD
      have e5 : List.replicate (ns.map V.int).length (V.bl true) = (List.replicate ns.length true).map V.bl := by rw [List.map_replicate, List.length_map]
      rw [e5] at hD
      refine allL (.inl (.inl hD)) ?_
      rw [all_true]
      exact k _ e2
def spCheckVisits (K : PySem.W.Frag) : Sp := fun vs H Q _ => ∃ (a : Addr) (ns : List Int), vs = [.ref a] ∧ SqL K H a (ns.map V.int) ∧ ns.length ≤ 300 ∧ Pg 40 ns ∧ ∀ H', Ex H H' → Q .non H'
theorem ok_check_visits (T : Txt K mg) : FnOk P w K mg base CX0 4 T.f_check_visits T.fd_check_visits ["visits"] (spCheckVisits K) := by
  refine T.F_check_visits.ok sc_check_visits (fun vs H Q E h => ?_) (fun cdv A outer s H vs Q E hr h => ?_)
  · obtain ⟨a, ns, rfl, _⟩ := h
    rfl
  · obtain ⟨a, ns, rfl, hA, hl, hp, k⟩ := h
    apply Exists.intro
    apply And.intro
    · apply pss_one
      apply ps_if
      · exact (pt_not (pt_val (pe_call (ok_is_visits T) (hr.mono (by decide)) (by rfl) T.m_is_visits T.F_is_visits.kp T.b_is_visits .nil pass0 (pa_cons (pv 0) pa_nil))))
      · apply pss_one
        exact ps_never
      · exact pss_nil
    walk_at "sx"
    refine ⟨a, ns, rfl, hA, hl, hp, fun H1 e1 => ?_⟩
    walk_at "sx"
    exact k _ e1
def spVisited (K : PySem.W.Frag) : Sp := fun vs H Q _ => ∃ (a : Addr) (t : List Int) (p : Int), vs = [.ref a, .int p] ∧ H a = some (.lst (t.map V.int)) ∧ t.length ≤ 1000 ∧ ∀ r H', H r = none → Ex H H' → H' r = some (.lst ((vis t p).map V.int)) → Q (.ref r) H'
theorem ok_visited (T : Txt K mg) : FnOk P w K mg base CX0 1 T.f_visited T.fd_visited ["trail", "page"] (spVisited K) := by
  refine T.F_visited.ok sc_visited (fun vs H Q E h => ?_) (fun cdv A outer s H vs Q E hr h => ?_)
  · obtain ⟨a, t, p, rfl, _⟩ := h
    rfl
  · obtain ⟨a, t, p, rfl, hA, hl, k⟩ := h
    apply Exists.intro
    apply And.intro
    · apply pss_one
      exact (ps_ret (pe_ifExp (pt_cmpR (k_in (K := K) rfl) (pv 1) (pv 0) (by rfl)) (pe_slice (k_sl_list (K := K) rfl) (pv 0) po_none (po_some (pe_op op_add (k_bm (K := K) rfl (pe_bm PySem.F.plainAttrs_list PySem.F.slot_list_index PySem.F.type_list_index (k_index (K := K) rfl) (pv 0) (pa_cons (pv 1) pa_nil))) pe_int))) (pe_op op_cat (pv 0) (pe_lst (pa_cons (pv 1) pa_nil)))))
    walk_at "sx"
    refine inL (.inl (.inl hA)) ?_
    walk_at "sx"
    by_cases m : p ∈ t
    · have hi := List.idxOf_lt_length_of_mem m
      simp only [m]
      walk_at "sx"
      refine ⟨tyL hA, ?_⟩
      refine idxL (.inl (.inl hA)) m ?_
      walk_at "sx"
      refine slL (.inl (.inl hA)) fun r nr => ?_
      refine k r _ nr (Ex.new nr) ?_
      rw [upd_same, cut_to (j := t.idxOf p + 1) _ (by omega) (by rw [List.length_map]; omega)]
      unfold vis
      rw [if_pos m, List.map_take]
    · simp only [m]
      walk_at "sx"
      refine ⟨sz_ok (by omega), fun z nz => ?_⟩
      have e1 := Ex.new nz (o := .lst [V.int p])
      refine catL (e1 _ _ hA) upd_same (sz_ok (by rw [List.length_map, List.length_singleton]; omega)) fun r nr => ?_
      refine k r _ (fresh_back e1 nr) (e1.trans (Ex.new nr)) ?_
      rw [upd_same]
      unfold vis
      rw [if_neg m, List.map_append]
      rfl
def spLensIn (K : PySem.W.Frag) : Sp := fun vs H Q _ => ∃ (a : Addr) (ns : List Int), vs = [.ref a] ∧ SqL K H a (ns.map V.int) ∧ ns.length ≤ 300 ∧ ∀ r H', H r = none → Ex H H' → H' r = some (.lst ((lens ns).map V.int)) → Q (.ref r) H'
theorem trl_le : ∀ (ns : List Int) (t : List Int), (ns.foldl vis t).length ≤ t.length + ns.length
  | [], t => Nat.le_refl _
  | p :: ns, t => by
    have a := trl_le ns (vis t p)
    have b := vis_le t p
    show (ns.foldl vis (vis t p)).length ≤ _
    rw [List.length_cons]
    omega
def JI (H : Hp) (a : Addr) (ns : List Int) (i : Nat) (σ' : L2.St) (H' : Hp) : Prop := ∃ l1 t q, σ' = [some (.ref a), l1, some (.ref t), some (.ref q)] ∧ H q = none ∧ t ≠ q ∧ Ex H H' ∧ H' t = some (.lst ((trl (ns.take i)).map V.int)) ∧ H' q = some (.lst (((lens ns).map V.int).take i))
theorem ok_lengths_in (T : Txt K mg) : FnOk P w K mg base CX0 2 T.f_lengths_in T.fd_lengths_in ["visits"] (spLensIn K) := by
  refine T.F_lengths_in.ok sc_lengths_in (fun vs H Q E h => ?_) (fun cdv A outer s H vs Q E hr h => ?_)
  · obtain ⟨a, ns, rfl, _⟩ := h
    rfl
  · obtain ⟨a, ns, rfl, hA, hl, k⟩ := h
    apply Exists.intro
    apply And.intro
    · apply pss_cons
      · exact (ps_par (i := 2) (j := 3) (by rfl) sc_lengths_in.nd rfl rfl (by decide) rfl rfl (pa_cons (pe_lst pa_nil) (pa_cons (pe_lst pa_nil) pa_nil)) (by rfl))
      apply pss_cons
      · apply ps_for PassesOwn.never rfl
        · exact (k_pi_list (K := K) rfl (pv 0))
        · exact (pg_name (i := 1) sc_lengths_in.nd rfl (.inl rfl))
        · apply pss_cons
          · exact (ps_set (i := 2) sc_lengths_in.nd rfl (.inl rfl) (pe_call (ok_visited T) (hr.mono (by decide)) (by rfl) T.m_visited T.F_visited.kp T.b_visited .nil pass0 (pa_cons (pv 2) (pa_cons (pv 1) pa_nil))))
          apply pss_one
          exact (ps_expr (k_bm (K := K) rfl (pe_bm PySem.F.plainAttrs_list PySem.F.slot_list_append PySem.F.type_list_append mt_append (pv 3) (pa_cons (pe_callB (k_len (K := K) rfl) (by rfl) T.n_len PySem.boot_len (pa_cons (pv 2) pa_nil)) pa_nil))))
      apply pss_one
      exact (ps_ret (pv 3))
    walk_at "sx"
    refine ⟨sz_ok (by omega), fun t nt => ⟨sz_ok (by omega), fun q nq => ?_⟩⟩
    refine ⟨_, _, ⟨rfl, rfl⟩, ?_⟩
    have e1 := Ex.new nt (o := .lst [])
    have e2 := e1.trans (Ex.new nq (o := .lst []))
    have ntq : t ≠ q := ne_of_none upd_same nq
    refine ⟨⟨_, ex_l e2 hA⟩, ?_⟩
    refine lg_list (xs := ns.map V.int) (JI H a ns) ⟨none, t, q, rfl, fresh_back e1 nq, ntq, e2, by rw [upd_ne ntq, upd_same]; rfl, by rw [upd_same]; rfl⟩ (fun i σ' H' _ hP => by obtain ⟨_, _, _, _, _, _, e, _⟩ := hP; exact ex_l e hA)
      (fun i x σ' H' hx hP => ?_) (fun σ' H' hP => ?_)
    · obtain ⟨l1, t, q, rfl, nq, tq, e, ht, hq⟩ := hP
      obtain ⟨n, hn, rfl⟩ := ints_at hx
      have hi : i < ns.length := by
        rw [List.getElem?_eq_some_iff] at hn
        exact hn.1
      have ht1 : (trl (ns.take i)).length ≤ 300 := by
        have := trl_le (ns.take i) []
        rw [List.length_take] at this
        show ((ns.take i).foldl vis []).length ≤ 300
        simp only [List.length_nil] at this
        omega
      walk_at "sx"
      refine ⟨t, _, n, rfl, ht, by omega, fun r H1 nr e3 hr => ?_⟩
      have hq1 := e3 _ _ hq
      walk_at "sx"
      refine ⟨tyL hq1, ?_⟩
      refine lenL (.inl (.inl hr)) ?_
      refine appL hq1 (BC.sz_lt (by rw [List.length_take]; omega)) ?_
      rw [← trl_snoc hn, List.length_map]
      have hrq : r ≠ q := fun z => by
        subst z
        rw [hq] at nr
        cases nr
      refine ⟨_, r, q, rfl, nq, hrq, (e.trans e3).mut nq, by rw [upd_ne hrq, hr, ← trl_snoc hn], ?_⟩
      rw [upd_same, take_succ (at_ints (lens_at hi))]
    · obtain ⟨l1, t, q, rfl, nq, tq, e, ht, hq⟩ := hP
      walk_at "sx"
      refine k q _ nq e ?_
      rw [hq, List.take_of_length_le (by rw [List.length_map, List.length_map, lens_len]; omega)]
def spLensOf (K : PySem.W.Frag) : Sp := fun vs H Q _ => ∃ (a : Addr) (ns : List Int), vs = [.ref a] ∧ SqL K H a (ns.map V.int) ∧ ns.length ≤ 300 ∧ Pg 40 ns ∧ ∀ r H', H r = none → Ex H H' → H' r = some (.lst ((lens ns).map V.int)) → Q (.ref r) H'
theorem ok_lengths_of (T : Txt K mg) : FnOk P w K mg base CX0 5 T.f_lengths_of T.fd_lengths_of ["visits"] (spLensOf K) := by
  refine T.F_lengths_of.ok sc_lengths_of (fun vs H Q E h => ?_) (fun cdv A outer s H vs Q E hr h => ?_)
  · obtain ⟨a, ns, rfl, _⟩ := h
    rfl
  · obtain ⟨a, ns, rfl, hA, hl, hp, k⟩ := h
    apply Exists.intro
    apply And.intro
    · apply pss_cons
      · exact (ps_expr (pe_call (ok_check_visits T) (hr.mono (by decide)) (by rfl) T.m_check_visits T.F_check_visits.kp T.b_check_visits .nil pass0 (pa_cons (pv 0) pa_nil)))
      apply pss_one
      exact (ps_ret (pe_call (ok_lengths_in T) (hr.mono (by decide)) (by rfl) T.m_lengths_in T.F_lengths_in.kp T.b_lengths_in .nil pass0 (pa_cons (pv 0) pa_nil)))
    walk_at "sx"
    refine ⟨a, ns, rfl, hA, hl, hp, fun H1 e1 => ?_⟩
    walk_at "sx"
    refine ⟨a, ns, rfl, ex_l e1 hA, hl, fun r H2 nr e2 hr => ?_⟩
    exact k r _ (fresh_back e1 nr) (e1.trans e2) hr
end
/-! ### lengths.py: numbers of lists of lengths -/
section
variable {P : Program} {w : World} {K : PySem.W.Frag} {mg : Str → Option Value} {base : Heap}
/-- natural numbers as the program's -/
def nz (L : List Nat) : List Int := L.map fun x : Nat => (x : Int)
theorem nz_len (L : List Nat) : (nz L).length = L.length := List.length_map _
theorem nz_at {L : List Nat} {i x : Nat} (h : L[i]? = some x) : ((nz L).map V.int)[i]? = some (.int (x : Int)) := by
  unfold nz
  rw [List.getElem?_map, List.getElem?_map, h]
  rfl
theorem at_nz {L : List Nat} {i : Nat} {v : V} (h : ((nz L).map V.int)[i]? = some v) : ∃ x, L[i]? = some x ∧ v = .int (x : Int) := by
  unfold nz at h
  rw [List.getElem?_map, List.getElem?_map] at h
  cases e : L[i]? with
  | none => rw [e] at h; cases h
  | some x => rw [e] at h; cases h; exact ⟨x, rfl, rfl⟩
def prv (p : Nat) (L : List Nat) (i : Nat) : Nat := if i = 0 then p else L.getD (i - 1) 0
theorem prv_succ {p i x : Nat} {L : List Nat} (h : L[i]? = some x) : prv p L (i + 1) = x := by
  unfold prv
  rw [if_neg (by omega), Nat.add_sub_cancel, List.getD_eq_getElem?_getD, h]
  rfl
theorem ok_step {m : Nat} : ∀ {p : Nat} {L : List Nat} {i x : Nat}, Ok m p L → L[i]? = some x → 1 ≤ x ∧ x ≤ min (prv p L i + 1) m
  | _, [], _, _, _, h => by simp at h
  | p, y :: L, 0, x, ⟨h1, h2, h3⟩, h => by
    simp at h
    subst h
    exact ⟨h1, h2⟩
  | p, y :: L, i + 1, x, ⟨h1, h2, h3⟩, h => by
    have h' : L[i]? = some x := by simpa using h
    have ih := ok_step (p := y) (L := L) h3 h'
    have e : prv p (y :: L) (i + 1) = prv y L i := by
      unfold prv
      rw [if_neg (by omega), Nat.add_sub_cancel]
      cases i with
      | zero => rfl
      | succ i => rw [if_neg (by omega)]; rfl
    rw [e]
    exact ih
end
section
variable {P : Program} {w : World} {K : PySem.W.Frag} {mg : Str → Option Value} {base : Heap}
/-- is a list of numbers one of lengths? -/
def isL : Int → List Int → Bool
  | _, [] => true
  | p, x :: l => if decide (1 ≤ x) && decide (x ≤ (if p + 1 < 40 then p + 1 else 40)) then isL x l else false
def prI (p : Int) (L : List Int) (i : Nat) : Int := if i = 0 then p else L.getD (i - 1) 0
theorem prI_succ {p x : Int} {i : Nat} {L : List Int} (h : L[i]? = some x) : prI p L (i + 1) = x := by
  unfold prI
  rw [if_neg (by omega), Nat.add_sub_cancel, List.getD_eq_getElem?_getD, h]
  rfl
theorem isL_drop {p x : Int} {i : Nat} {L : List Int} (h : L[i]? = some x) : isL (prI p L i) (L.drop i) = if decide (1 ≤ x) && decide (x ≤ (if prI p L i + 1 < 40 then prI p L i + 1 else 40)) then isL (prI p L (i + 1)) (L.drop (i + 1)) else false := by
  obtain ⟨hi, hx⟩ := List.getElem?_eq_some_iff.mp h
  rw [List.drop_eq_getElem_cons hi, hx, prI_succ h]
  rfl
theorem isL_ok {m : Nat} (hm : m ≤ 40) : ∀ {p : Nat} {L : List Nat}, Ok m p L → isL p (nz L) = true
  | _, [], _ => rfl
  | p, x :: L, ⟨h1, h2, h3⟩ => by
    have ih := isL_ok hm (p := x) (L := L) h3
    show (if decide (1 ≤ (x : Int)) && decide ((x : Int) ≤ (if (p : Int) + 1 < 40 then (p : Int) + 1 else 40)) then isL x (nz L) else false) = true
    rw [decide_eq_true (by omega), decide_eq_true (by split <;> omega), ih]
    rfl
def spIsLens (K : PySem.W.Frag) : Sp := fun vs H Q _ => ∃ (a : Addr) (ns : List Int), vs = [.ref a] ∧ SqL K H a (ns.map V.int) ∧ ns.length ≤ 300 ∧ Q (.bl (isL 0 ns)) H
def JLa (H : Hp) (a : Addr) (ns : List Int) (i : Nat) (σ' : L2.St) (H' : Hp) : Prop := ∃ l2, σ' = [some (.ref a), some (.int (prI 0 ns i)), l2] ∧ H' = H ∧ isL 0 ns = isL (prI 0 ns i) (ns.drop i)
theorem ok_is_lengths (T : Txt K mg) : FnOk P w K mg base CX0 2 T.f_is_lengths T.fd_is_lengths ["value"] (spIsLens K) := by
  refine T.F_is_lengths.ok sc_is_lengths (fun vs H Q E h => ?_) (fun cdv A outer s H vs Q E hr h => ?_)
  · obtain ⟨a, L, rfl, _⟩ := h
    rfl
  · obtain ⟨a, L, rfl, hA, hl, k⟩ := h
    apply Exists.intro
    apply And.intro
    · apply pss_cons
      · apply ps_if
        · exact (PW.pt (pw_or (pt_not (pt_val (pe_callB (k_isi (K := K) rfl) (by rfl) T.n_isinstance (by decide +kernel) (pa_cons (pv 0) (pa_cons (pe_bltn (v := .ty "list") (by rfl) T.n_list (by decide +kernel) rfl) pa_nil))))) (pw_or1 (pt_cmpR op_gt (pe_callB (k_len (K := K) rfl) (by rfl) T.n_len PySem.boot_len (pa_cons (pv 0) pa_nil)) (pe_glob (v := .int 300) rfl T.c_MOST_VISITS_lengths ⟨_, rfl⟩) (by rfl)))))
        · apply pss_one
          exact (ps_ret pe_bl)
        · exact pss_nil
      apply pss_cons
      · exact (ps_set (i := 1) sc_is_lengths.nd rfl (.inl rfl) pe_int)
      apply pss_cons
      · apply ps_for PassesOwn.never rfl
        · exact (k_pi_list (K := K) rfl (pv 0))
        · exact (pg_name (i := 2) sc_is_lengths.nd rfl (.inl rfl))
        · apply pss_cons
          · apply ps_if
            · exact (pt_not (pt_val (pe_call (ok_is_integer T) (hr.mono (by decide)) (by rfl) T.m_is_integer T.F_is_integer.kp T.b_is_integer .nil pass0 (pa_cons (pv 2) (pa_cons pe_int (pa_cons (pe_callB (call_min2 rfl) (by rfl) T.n_min (by decide +kernel) (pa_cons (pe_glob (v := .int 40) rfl T.c_MOST_PAGES ⟨_, rfl⟩) (pa_cons (pe_op op_add (pv 1) pe_int) pa_nil))) pa_nil))))))
            · apply pss_one
              exact (ps_ret pe_bl)
            · exact pss_nil
          apply pss_one
          exact (ps_set (i := 1) sc_is_lengths.nd rfl (.inl rfl) (pv 2))
      apply pss_one
      exact (ps_ret pe_bl)
    walk_at "sx"
    refine isi_x (b := true) (tyx_l hA) (by decide +kernel) ?_
    walk_at "sx"
    refine lenL hA ?_
    walk_at "sx"
    rw [List.length_map]
    have e1 : ¬ ((L.length : Nat) : Int) > 300 := by omega
    simp only [e1]
    walk_at "sx"
    refine ⟨⟨_, hA⟩, ?_⟩
    refine lg_list (xs := L.map V.int) (JLa H a L) ⟨none, rfl, rfl, rfl⟩ (fun i σ' H' _ hP => by obtain ⟨_, _, rfl, _⟩ := hP; exact hA)
      (fun i x σ' H' hx hP => ?_) (fun σ' H' hP => ?_)
    · obtain ⟨l2, rfl, rfl, ev⟩ := hP
      obtain ⟨x, hx', rfl⟩ := ints_at hx
      rw [isL_drop hx'] at ev
      walk_at "sx"
      refine ⟨_, _, ⟨rfl, rfl⟩, ?_⟩
      refine ⟨_, _, _, rfl, ?_⟩
      cases c : (decide (1 ≤ x) && decide (x ≤ (if prI 0 L i + 1 < 40 then prI 0 L i + 1 else 40))) with
      | true =>
        rw [c, if_pos rfl] at ev
        refine ⟨true, rfl, ?_⟩
        walk_at "sx"
        exact ⟨_, by rw [prI_succ hx'], rfl, ev⟩
      | false =>
        rw [c, if_neg (by decide)] at ev
        refine ⟨false, rfl, ?_⟩
        walk_at "sx"
        rw [← ev]
        exact k
    · obtain ⟨l2, rfl, rfl, ev⟩ := hP
      walk_at "sx"
      rw [List.length_map, List.drop_length] at ev
      rw [ev] at k
      exact k
def spChkLens (K : PySem.W.Frag) : Sp := fun vs H Q _ => ∃ (a : Addr) (m : Nat) (L : List Nat), vs = [.ref a] ∧ SqL K H a ((nz L).map V.int) ∧ L.length ≤ 300 ∧ m ≤ 40 ∧ Ok m 0 L ∧ Q .non H
theorem ok_check_lengths (T : Txt K mg) : FnOk P w K mg base CX0 3 T.f_check_lengths T.fd_check_lengths ["value"] (spChkLens K) := by
  refine T.F_check_lengths.ok sc_check_lengths (fun vs H Q E h => ?_) (fun cdv A outer s H vs Q E hr h => ?_)
  · obtain ⟨a, m, L, rfl, _⟩ := h
    rfl
  · obtain ⟨a, m, L, rfl, hA, hl, hm, hp, k⟩ := h
    apply Exists.intro
    apply And.intro
    · apply pss_one
      apply ps_if
      · exact (pt_not (pt_val (pe_call (ok_is_lengths T) (hr.mono (by decide)) (by rfl) T.m_is_lengths T.F_is_lengths.kp T.b_is_lengths .nil pass0 (pa_cons (pv 0) pa_nil))))
      · apply pss_one
        exact ps_never
      · exact pss_nil
    walk_at "sx"
    refine ⟨a, nz L, rfl, hA, by rw [nz_len]; omega, ?_⟩
    rw [show isL 0 (nz L) = true from isL_ok hm hp]
    walk_at "sx"
    exact k
end
/-! ### lengths.py: numbers of lists of lengths -/
section
variable {P : Program} {w : World} {K : PySem.W.Frag} {mg : Str → Option Value} {base : Heap}
/-- the table of ways lies there -/
def Tab (H : Hp) (r : Addr) (m n : Nat) : Prop := ∃ ps : List Addr, H r = some (.lst (ps.map V.ref)) ∧ ps.length = n + 1 ∧ ∀ t p, ps[t]? = some p → H p = some (.lst ((wrow m t).map V.int))
theorem Tab.ex {H H' : Hp} {r : Addr} {m n : Nat} (h : Tab H r m n) (e : Ex H H') : Tab H' r m n := by
  obtain ⟨ps, h1, h2, h3⟩ := h
  exact ⟨ps, e _ _ h1, h2, fun t p q => e _ _ (h3 t p q)⟩
theorem Tab.get {H : Hp} {r : Addr} {m n : Nat} (h : Tab H r m n) {t : Nat} (ht : t ≤ n) : ∃ p xs, H r = some (.lst xs) ∧ xs[t]? = some (.ref p) ∧ H p = some (.lst ((wrow m t).map V.int)) ∧ xs.length = n + 1 := by
  obtain ⟨ps, h1, h2, h3⟩ := h
  have e : ps[t]? = some ps[t] := List.getElem?_eq_getElem (by omega)
  exact ⟨ps[t], _, h1, by rw [List.getElem?_map, e]; rfl, h3 _ _ e, by rw [List.length_map, h2]⟩
theorem wr_at {m t l : Nat} (h : l ≤ m) : ((wrow m t).map V.int)[l]? = some (.int (W m t l)) := by
  rw [List.getElem?_map, wrow_at h]; rfl
/-- a new row is added -/
theorem Tab.push {H : Hp} {r p : Addr} {m n : Nat} {ps : List Addr} (h1 : H r = some (.lst (ps.map V.ref))) (h2 : ps.length = n + 1) (h3 : ∀ t p, ps[t]? = some p → p ≠ r ∧ H p = some (.lst ((wrow m t).map V.int))) (np : p ≠ r) (hp : H p = some (.lst ((wrow m (n + 1)).map V.int))) :
    (∀ t q, (ps ++ [p])[t]? = some q → q ≠ r ∧ upd H r (.lst ((ps ++ [p]).map V.ref)) q = some (.lst ((wrow m t).map V.int))) := fun t q e => by
  by_cases c : t < ps.length
  · rw [List.getElem?_append_left c] at e
    obtain ⟨a, b⟩ := h3 t q e
    exact ⟨a, by rw [upd_ne a]; exact b⟩
  · rw [List.getElem?_append_right (by omega)] at e
    have : t = n + 1 := by
      have := (List.getElem?_eq_some_iff.mp e).1
      simp at this
      omega
    subst this
    rw [h2, Nat.sub_self] at e
    simp at e
    subst e
    exact ⟨np, by rw [upd_ne np]; exact hp⟩
theorem atI_last {xs : List V} {v : V} (h : xs[xs.length - 1]? = some v) : atI xs (-1) = some v := by
  have hl : xs.length - 1 < xs.length := (List.getElem?_eq_some_iff.mp h).1
  have e : ixN xs.length (-1) = some (xs.length - 1) := by
    unfold ixN
    rw [if_neg (by omega), if_pos (by omega)]
    congr 1
    omega
  unfold atI
  rw [e]
  exact h
def spCont : Sp := fun vs H Q _ => ∃ m n : Nat, vs = [.int m, .int n] ∧ 1 ≤ m ∧ m ≤ 40 ∧ n ≤ 200 ∧ ∀ r H', H r = none → Ex H H' → Tab H' r m n → Q (.ref r) H'
def JC (H : Hp) (m n : Nat) (i : Nat) (σ' : L2.St) (H' : Hp) : Prop := ∃ r l3 l4 l5 l6 l7 ps, σ' = [some (.int m), some (.int n), some (.ref r), l3, l4, l5, l6, l7] ∧ H r = none ∧ Ex H H' ∧ H' r = some (.lst ((ps : List Addr).map V.ref)) ∧ ps.length = i + 1 ∧
  ∀ t p, ps[t]? = some p → p ≠ r ∧ H' p = some (.lst ((wrow m t).map V.int))
def JC2 (H : Hp) (m n i : Nat) (r p q : Addr) (j : Nat) (σ' : L2.St) (H' : Hp) : Prop := ∃ l4, σ' = [some (.int m), some (.int n), some (.ref r), some (.int i), l4, some (.ref p), some (.ref q), some (.int (S m i (min j m)))] ∧ Ex H H' ∧ H' q = some (.lst (((wrow m (i + 1)).map V.int).take j))
def spCount : Sp := fun vs H Q _ => ∃ m n : Nat, vs = [.int m, .int n] ∧ 1 ≤ m ∧ m ≤ 40 ∧ n ≤ 200 ∧ ∀ H', Ex H H' → Q (.int (W m n 0)) H'
def spNth : Sp := fun vs H Q _ => ∃ (m n : Nat) (L : List Nat), vs = [.int m, .int n, .int (rank m L)] ∧ 1 ≤ m ∧ m ≤ 40 ∧ n ≤ 200 ∧ Ok m 0 L ∧ L.length = n ∧ ∀ r H', H r = none → Ex H H' → H' r = some (.lst ((nz L).map V.int)) → Q (.ref r) H'
def JN (H1 : Hp) (m n : Nat) (L : List Nat) (wy f : Addr) (i : Nat) (σ' : L2.St) (H' : Hp) : Prop := ∃ l3 l7, σ' = [some (.int m), some (.int n), some (.int (rank m L)), l3, some (.ref wy), some (.int (rank m (L.drop i))), some (.ref f), l7] ∧ Ex H1 H' ∧ H' f = some (.lst (((nz L).map V.int).take i))
def JN2 (H2 : Hp) (m n : Nat) (L : List Nat) (wy f : Addr) (i x : Nat) (k : Nat) (σ' : L2.St) (H' : Hp) : Prop := ∃ j, j + k = x ∧ 1 ≤ j ∧ σ' = [some (.int m), some (.int n), some (.int (rank m L)), some (.int ((n - 1 - i : Nat) : Int)), some (.ref wy), some (.int (rank m (L.drop i) - S m (n - 1 - i) (j - 1))), some (.ref f), some (.int j)] ∧ Ex H2 H'
def spRank (K : PySem.W.Frag) : Sp := fun vs H Q _ => ∃ (m : Nat) (a : Addr) (L : List Nat), vs = [.int m, .ref a] ∧ 1 ≤ m ∧ m ≤ 40 ∧ SqL K H a ((nz L).map V.int) ∧ L.length ≤ 200 ∧ Ok m 0 L ∧ ∀ H', Ex H H' → Q (.int (rank m L)) H'
def JR (H1 : Hp) (m : Nat) (a : Addr) (L : List Nat) (wy : Addr) (i : Nat) (σ' : L2.St) (H' : Hp) : Prop := ∃ l4 l5, σ' = [some (.int m), some (.ref a), some (.ref wy), some (.int (rank m L - rank m (L.drop i))), l4, l5] ∧ Ex H1 H'
theorem cut_from (m t x : Nat) (hx : 1 ≤ x) (hm : x ≤ m + 1) : cutV ((wrow m t).map V.int) (some 1) (some (x : Int)) = ((((wrow m t).drop 1).take (x - 1)).map V.int) := by
  unfold cutV
  have e1 : HT.sIx ((wrow m t).map V.int).length 0 (some 1) = 1 := by
    rw [show (1 : Int) = ((1 : Nat) : Int) by rfl, HT.sIx_nat, List.length_map, wrow_len]
    omega
  have e2 : HT.sIx ((wrow m t).map V.int).length ((wrow m t).map V.int).length (some (x : Int)) = x := by
    rw [HT.sIx_nat, List.length_map, wrow_len]
    omega
  rw [e1, e2, List.map_take, List.map_drop]
end
end LW

set_option Elab.async false
set_option linter.all false
set_option maxRecDepth 100000
set_option maxHeartbeats 4000000
namespace LW
open PySem PySem.Spec PyProof.Rows L2 BC Evl TR LN VS FM

local macro_rules | `(tactic| walk_at "sx") => `(tactic| try simp only [x_seq, x_next, x_brk, x_cnt, x_nev, x_ret, x_retN, x_drop, x_ifS, x_asg, x_gn, x_gsub, x_par, x_par3, x_aug, x_for, x_lc, x_rng1, x_rng2, x_rng3, x_ilist, x_itup, x_ienum, x_izip, x_izipA, x_istr, x_var, x_c, x_op, x_un, x_test, x_b, x_chain, x_and, x_or, x_not, x_andV, x_orV, x_notV, x_ife, x_nil, x_cons, x_lst, x_tup, x_cb, x_call, x_callK, x_bm, x_bm0, x_tru, x_sl, x_nopart, x_part, x_revL, x_I0, x_I, x_U, x_ip, x_ipC, x_eqI, x_neI, x_eqB, x_neB, x_eqS, x_neS, x_isB, x_isNB, x_lrg, x_gall, x_rg1, x_rg2,
  L2.start, List.map_cons, List.map_nil, List.length_cons, List.length_nil, Nat.reduceAdd, Nat.reduceSub, Nat.sub_self, Nat.zero_add, List.replicate, List.replicate_succ, List.replicate_zero, List.append_nil, List.cons_append, List.nil_append, List.set_cons_zero, List.set_cons_succ, List.getElem?_cons_zero, List.getElem?_cons_succ, Option.some.injEq, V.int.injEq, V.bl.injEq, V.ref.injEq, V.str.injEq, List.cons.injEq, and_true, true_and, exists_eq_left', exists_eq_left, exists_and_left, exists_eq, if_true, if_false, ite_true, ite_false, Bool.true_eq_false, Bool.false_eq_true, reduceIte, reduceCtorEq, Bool.not_true, Bool.not_false, decide_true, decide_false, decide_eq_true_eq, Bool.and_true, Bool.true_and, Bool.and_self, Bool.and_false, Bool.false_and, Bool.or_self, Bool.or_false, Bool.false_or, Bool.or_true, Bool.true_or, eq_self])

/-! ### the bag -/
def BagAt (H : Hp) (b : Addr) (c : Nat) : Prop := ∃ x0 x1 x2 : Int, H b = some (.lst [.int x0, .int x1, .int x2]) ∧ 0 ≤ x1 ∧ x1 < 10 ^ 37 + 43 ∧ 0 ≤ x2 ∧ x2 ≤ c
theorem BagAt.ex {H H' : Hp} {b : Addr} {c : Nat} (h : BagAt H b c) (e : Ex H H') : BagAt H' b c := by
  obtain ⟨x0, x1, x2, hb, r⟩ := h
  exact ⟨x0, x1, x2, e _ _ hb, r⟩
theorem BagAt.mono {H : Hp} {b : Addr} {c d : Nat} (h : BagAt H b c) (e : c ≤ d) : BagAt H b d := by
  obtain ⟨x0, x1, x2, hb, h1, h2, h3, h4⟩ := h
  exact ⟨x0, x1, x2, hb, h1, h2, h3, by omega⟩
theorem BagAt.some {H : Hp} {b : Addr} {c : Nat} (h : BagAt H b c) : ∃ o, H b = Option.some o := by
  obtain ⟨x0, x1, x2, hb, _⟩ := h
  exact ⟨_, hb⟩
theorem BagAt.apart {H : Hp} {b z : Addr} {c : Nat} (h : BagAt H b c) (nz : H z = none) : z ≠ b := fun e => by
  obtain ⟨o, ho⟩ := h.some
  subst e
  rw [ho] at nz
  cases nz
theorem BagAt.off {H : Hp} {b z : Addr} {c : Nat} {o : HO} (h : BagAt H b c) (nz : z ≠ b) : BagAt (upd H z o) b c := by
  obtain ⟨x0, x1, x2, hb, r⟩ := h
  exact ⟨x0, x1, x2, by rw [upd_ne (Ne.symm nz)]; exact hb, r⟩
theorem BagAt.ne {H : Hp} {b z : Addr} {c : Nat} (h : BagAt H b c) (nb : H z = none) : b ≠ z := fun e => h.apart nb e.symm
section
variable {P : Program} {w : World} {K : PySem.W.Frag} {mg : Str → Option Value} {base : Heap}
def spBag : Sp := fun vs H Q _ => ∃ n : Int, vs = [.int n] ∧ ∀ p H', H p = none → Ex H H' → BagAt H' p 0 → Q (.ref p) H'
theorem ok_law_bag (T : Txt K mg) : FnOk P w K mg base CX0 1 T.f_law_bag T.fd_law_bag ["_law_cell"] spBag := by
  refine T.F_law_bag.ok sc_law_bag (fun vs H Q E h => ?_) (fun cdv A outer s H vs Q E hr h => ?_)
  · obtain ⟨n, rfl, _⟩ := h
    rfl
  · obtain ⟨n, rfl, k⟩ := h
    apply Exists.intro
    apply And.intro
    · apply pss_one
      exact (ps_ret (pe_lst (pa_cons (pe_callB (call_max2 rfl) (by rfl) T.n_max (by decide +kernel) (pa_cons pe_int (pa_cons (pe_op op_sub (pv 0) (pe_op op_powX pe_int pe_int)) pa_nil))) (pa_cons (pe_op op_modX (pv 0) (pe_op op_add (pe_op op_powX pe_int pe_int) pe_int)) (pa_cons pe_int pa_nil)))))
    walk_at "sx"
    have t18 : Int.toNat 18 = 18 := rfl
    have t37 : Int.toNat 37 = 37 := rfl
    rw [t37]
    refine ⟨⟨by decide, by decide, by decide⟩, _, _, ⟨rfl, rfl⟩, ⟨by decide, by decide, by decide⟩, by decide, sz_ok (by omega), fun p np => ?_⟩
    refine k p _ np (Ex.new np) ⟨_, _, _, upd_same, Int.emod_nonneg _ (by decide), Int.emod_lt_of_pos _ (by decide), by omega, by omega⟩
/-- the greatest number of ways that is drawn from -/
def BIG : Int := 2 ^ 2000
theorem big_of {m : Int} (h : m ≤ 100000) : m ≤ BIG := Int.le_trans h (by decide +kernel)
theorem big_lt {m : Int} (h : 0 < m) (h2 : m ≤ BIG) : m.natAbs < 2 ^ 2001 := by
  have a : m.natAbs ≤ BIG.natAbs := by omega
  exact Nat.lt_of_le_of_lt a (by decide +kernel)
def spDraw : Sp := fun vs H Q _ => ∃ (b : Addr) (m : Int) (c : Nat), vs = [.ref b, .int m] ∧ 0 < m ∧ m ≤ BIG ∧ BagAt H b c ∧ c ≤ 1000000 ∧ ∀ r H', 0 ≤ r → r < m → Fx b H H' → BagAt H' b (c + 1) → Q (.int r) H'
theorem ok_law_draw (T : Txt K mg) : FnOk P w K mg base CX0 1 T.f_law_draw T.fd_law_draw ["_law_bag_here", "_law_most"] spDraw := by
  refine T.F_law_draw.ok sc_law_draw (fun vs H Q E h => ?_) (fun cdv A outer s H vs Q E hr h => ?_)
  · obtain ⟨b, m, c, rfl, _⟩ := h
    rfl
  · obtain ⟨b, m, c, rfl, h1, h2, hB, hc, k⟩ := h
    obtain ⟨x0, x1, x2, hb, h3, h4, h5, h6⟩ := hB
    apply Exists.intro
    apply And.intro
    · apply pss_cons
      · apply ps_if
        · exact (pt_cmpR op_gt (pe_ix (k_ix_list (K := K) rfl) (pv 0) pe_int (fun _ _ => rfl)) pe_int (by rfl))
        · apply pss_cons
          · exact (ps_set (i := 3) sc_law_draw.nd rfl (.inl rfl) (pe_op op_modX (pe_ix (k_ix_list (K := K) rfl) (pv 0) pe_int (fun _ _ => rfl)) (pv 1)))
          apply pss_cons
          · exact (ps_asg (pe_op op_fdivX (pe_ix (k_ix_list (K := K) rfl) (pv 0) pe_int (fun _ _ => rfl)) (pv 1)) (pg_sub (pv 0) pe_int set_list))
          apply pss_one
          exact (ps_ret (pv 3))
        · exact pss_nil
      apply pss_cons
      · exact (ps_asg (pe_op op_add (pe_ix (k_ix_list (K := K) rfl) (pv 0) pe_int (fun _ _ => rfl)) pe_int) (pg_sub (pv 0) pe_int set_list))
      apply pss_cons
      · exact (ps_set (i := 2) sc_law_draw.nd rfl (.inl rfl) (pe_op op_modX (pe_op op_powX (pe_op op_add (pe_ix (k_ix_list (K := K) rfl) (pv 0) pe_int (fun _ _ => rfl)) (pe_op op_mulX pe_int (pe_ix (k_ix_list (K := K) rfl) (pv 0) pe_int (fun _ _ => rfl)))) pe_int) (pe_op op_add (pe_op op_powX pe_int pe_int) pe_int)))
      apply pss_cons
      · exact (ps_set (i := 2) sc_law_draw.nd rfl (.inl rfl) (pe_op op_modX (pe_op op_powX (pe_op op_add (pv 2) (pe_op op_mulX pe_int (pe_ix (k_ix_list (K := K) rfl) (pv 0) pe_int (fun _ _ => rfl)))) pe_int) (pe_op op_add (pe_op op_powX pe_int pe_int) pe_int)))
      apply pss_one
      exact (ps_ret (pe_op op_modX (pe_op op_fdivX (pv 2) pe_int) (pv 1)))
    walk_at "sx"
    refine ixL (.inl (.inl hb)) (atI_n (j := 0) rfl rfl) ?_
    walk_at "sx"
    have hdm : ∀ i, CDivW i m := fun i => wide_div (b := 2001) h1 (big_lt h1 h2) (by omega) (by omega)
    by_cases h0 : 0 < x0
    · simp only [h0, if_true]
      refine ixL (.inl (.inl hb)) (atI_n (j := 0) rfl rfl) ?_
      walk_at "sx"
      refine ⟨h1, ?_⟩
      refine ixL (.inl (.inl hb)) (atI_n (j := 0) rfl rfl) ?_
      walk_at "sx"
      refine ⟨hdm _, ?_⟩
      refine setL hb (ixN_n (j := 0) rfl (by simp)) ?_
      exact k _ _ (Int.emod_nonneg _ (by omega)) (Int.emod_lt_of_pos _ h1) Fx.put ⟨_, _, _, upd_same, h3, h4, h5, by omega⟩
    · simp only [h0, if_false]
      refine ixL (.inl (.inl hb)) (atI_n (j := 2) rfl rfl) ?_
      walk_at "sx"
      refine setL hb (ixN_n (j := 2) rfl (by simp)) ?_
      have hb2 : (upd H b (.lst [V.int x0, V.int x1, V.int (x2 + 1)])) b = some (.lst [V.int x0, V.int x1, V.int (x2 + 1)]) := upd_same
      refine ixL (.inl (.inl hb2)) (atI_n (j := 1) rfl rfl) ?_
      walk_at "sx"
      refine ixL (.inl (.inl hb2)) (atI_n (j := 2) rfl rfl) ?_
      walk_at "sx"
      have c1 : CMulX 236887691 (x2 + 1) := .inl (.inl ⟨by decide, by decide⟩)
      have c2 : CMulX 32452867 (x2 + 1) := .inl (.inl ⟨by decide, by decide⟩)
      have c3 : CPowX (x1 + 236887691 * (x2 + 1)) 3 := ⟨by decide, by decide, Nat.lt_of_lt_of_le (log2_small (k := 200) (by decide) (by omega)) (by decide)⟩
      have t38 : Int.toNat 38 = 38 := rfl
      have t36 : Int.toNat 36 = 36 := rfl
      rw [t38, t36]
      refine ⟨c1, c3, ⟨by decide, by decide, by decide⟩, by decide, ?_⟩
      refine ixL (.inl (.inl hb2)) (atI_n (j := 2) rfl rfl) ?_
      walk_at "sx"
      generalize hz : (x1 + 236887691 * (x2 + 1)) ^ Int.toNat 3 % (10 ^ 38 + 133) = z
      have hz0 : 0 ≤ z := by rw [← hz]; exact Int.emod_nonneg _ (by decide)
      have hz1 : z < 10 ^ 38 + 133 := by rw [← hz]; exact Int.emod_lt_of_pos _ (by decide)
      have c4 : CPowX (z + 32452867 * (x2 + 1)) 5 := ⟨by decide, by decide, Nat.lt_of_lt_of_le (log2_small (k := 200) (by decide) (by omega)) (by decide)⟩
      refine ⟨c2, c4, ⟨by decide, by decide, by decide⟩, by decide, ⟨by decide, by decide⟩, h1, ?_⟩
      exact k _ _ (Int.emod_nonneg _ (by omega)) (Int.emod_lt_of_pos _ h1) Fx.put ⟨_, _, _, hb2, h3, h4, by omega, by omega⟩
end
/-! ### lengths.py: visits with given lengths -/
section
variable {P : Program} {w : World} {K : PySem.W.Frag} {mg : Str → Option Value} {base : Heap}
def facs (m : Nat) : Nat → List Nat → List Int
  | _, [] => []
  | s, l :: L => fac m s l :: facs m l L
theorem facs_len (m : Nat) : ∀ (L : List Nat) (s : Nat), (facs m s L).length = L.length
  | [], _ => rfl
  | l :: L, s => by show (facs m l L).length + 1 = _; rw [facs_len m L l]; rfl
theorem facs_at (m : Nat) : ∀ {L : List Nat} {s i x : Nat}, L[i]? = some x → (facs m s L)[i]? = some (fac m (prv s L i) x)
  | [], _, _, _, h => by simp at h
  | y :: L, s, 0, x, h => by
    simp at h
    subst h
    rfl
  | y :: L, s, i + 1, x, h => by
    have h' : L[i]? = some x := by simpa using h
    have ih := facs_at m (s := y) h'
    have e : prv s (y :: L) (i + 1) = prv y L i := by
      unfold prv
      rw [if_neg (by omega), Nat.add_sub_cancel]
      cases i with
      | zero => rfl
      | succ i => rw [if_neg (by omega)]; rfl
    rw [e]
    exact ih
def spFacs (K : PySem.W.Frag) : Sp := fun vs H Q _ => ∃ (m : Nat) (a : Addr) (L : List Nat), vs = [.int m, .ref a] ∧ SqL K H a ((nz L).map V.int) ∧ L.length ≤ 300 ∧ ∀ r H', H r = none → Ex H H' → H' r = some (.lst ((facs m 0 L).map V.int)) → Q (.ref r) H'
def JF (H : Hp) (m : Nat) (a : Addr) (L : List Nat) (i : Nat) (σ' : L2.St) (H' : Hp) : Prop := ∃ l2 r, σ' = [some (.int m), some (.ref a), l2, some (.ref r), some (.int (prv 0 L i : Nat))] ∧ H r = none ∧ Ex H H' ∧ H' r = some (.lst (((facs m 0 L).map V.int).take i))
theorem ok_factors_of (T : Txt K mg) : FnOk P w K mg base CX0 1 T.f_factors_of T.fd_factors_of ["many", "lengths"] (spFacs K) := by
  refine T.F_factors_of.ok sc_factors_of (fun vs H Q E h => ?_) (fun cdv A outer s H vs Q E hr h => ?_)
  · obtain ⟨m, a, L, rfl, _⟩ := h
    rfl
  · obtain ⟨m, a, L, rfl, hA, hl, k⟩ := h
    apply Exists.intro
    apply And.intro
    · apply pss_cons
      · exact (ps_par (i := 3) (j := 4) (by rfl) sc_factors_of.nd rfl rfl (by decide) rfl rfl (pa_cons (pe_lst pa_nil) (pa_cons pe_int pa_nil)) (by rfl))
      apply pss_cons
      · apply ps_for PassesOwn.never rfl
        · exact (k_pi_list (K := K) rfl (pv 1))
        · exact (pg_name (i := 2) sc_factors_of.nd rfl (.inl rfl))
        · apply pss_cons
          · exact (ps_expr (k_bm (K := K) rfl (pe_bm PySem.F.plainAttrs_list PySem.F.slot_list_append PySem.F.type_list_append mt_append (pv 3) (pa_cons (pe_ifExp (pt_cmpR op_gt (pv 2) (pv 4) (by rfl)) (pe_callB (call_max2 rfl) (by rfl) T.n_max (by decide +kernel) (pa_cons pe_int (pa_cons (pe_op op_sub (pv 0) (pv 4)) pa_nil))) pe_int) pa_nil))))
          apply pss_one
          exact (ps_set (i := 4) sc_factors_of.nd rfl (.inl rfl) (pv 2))
      apply pss_one
      exact (ps_ret (pv 3))
    walk_at "sx"
    refine ⟨sz_ok (by omega), fun r nr => ⟨_, _, ⟨rfl, rfl⟩, ?_⟩⟩
    have e1 := Ex.new nr (o := .lst [])
    refine ⟨⟨_, ex_l e1 hA⟩, ?_⟩
    refine lg_list (xs := (nz L).map V.int) (JF H m a L) ⟨none, r, rfl, nr, e1, by rw [upd_same]; rfl⟩ (fun i σ' H' _ hP => by obtain ⟨_, _, _, _, e, _⟩ := hP; exact ex_l e hA)
      (fun i x σ' H' hx hP => ?_) (fun σ' H' hP => ?_)
    · obtain ⟨l2, r, rfl, nr, e, hr⟩ := hP
      obtain ⟨x, hx', rfl⟩ := at_nz hx
      have hi := (List.getElem?_eq_some_iff.mp hx').1
      walk_at "sx"
      refine ⟨tyL hr, ?_⟩
      have hlen : (((facs m 0 L).map V.int).take i).length = i := by
        rw [List.length_take, List.length_map, facs_len]
        omega
      have hst : ∀ v : Int, v = fac m (prv 0 L i) x → rAppend (V.ref r) [V.int v] H' fun x_1 H1 => JF H m a L (i + 1) [some (V.int m), some (V.ref a), some (V.int x), some (V.ref r), some (V.int x)] H1 := fun v ev => by
        refine appL hr (BC.sz_lt (by rw [hlen]; omega)) ?_
        refine ⟨_, r, by rw [prv_succ hx'], nr, e.mut nr, ?_⟩
        rw [upd_same, take_succ (at_ints (facs_at m hx')), ev]
      by_cases c : ((prv 0 L i : Nat) : Int) < (x : Int)
      · rw [if_pos c]
        refine ⟨_, _, ⟨rfl, rfl⟩, hst _ ?_⟩
        have c' : prv 0 L i < x := by omega
        unfold fac
        simp only [c', if_true]
      · rw [if_neg c]
        refine hst _ ?_
        have c' : ¬ prv 0 L i < x := by omega
        unfold fac
        simp only [c', if_false]
    · obtain ⟨l2, r, rfl, nr, e, hr⟩ := hP
      walk_at "sx"
      rw [List.take_of_length_le (by rw [List.length_map, List.length_map, facs_len, nz_len]; omega)] at hr
      exact k r _ nr e hr
def prodL : List Int → Int
  | [] => 1
  | f :: F => f * prodL F
def sufs (F : List Int) : List Int := (List.range (F.length + 1)).map fun i => prodL (F.drop i)
theorem sufs_len (F : List Int) : (sufs F).length = F.length + 1 := by unfold sufs; rw [List.length_map, List.length_range]
theorem sufs_at {F : List Int} {i : Nat} (h : i ≤ F.length) : (sufs F)[i]? = some (prodL (F.drop i)) := by
  unfold sufs
  rw [List.getElem?_map, List.getElem?_range (by omega)]
  rfl
theorem prodL_le : ∀ {F : List Int}, (∀ f ∈ F, 0 ≤ f ∧ f ≤ 40) → 0 ≤ prodL F ∧ prodL F ≤ ((40 ^ F.length : Nat) : Int)
  | [], _ => ⟨by show (0 : Int) ≤ 1; omega, Int.le_refl _⟩
  | f :: F, h => by
    obtain ⟨a, b⟩ := prodL_le (F := F) fun g hg => h g (List.mem_cons_of_mem _ hg)
    obtain ⟨c, d⟩ := h f List.mem_cons_self
    refine ⟨Int.mul_nonneg c a, ?_⟩
    show f * prodL F ≤ ((40 ^ (F.length + 1) : Nat) : Int)
    have e := Int.mul_le_mul d b a (by omega)
    have z : ((40 ^ (F.length + 1) : Nat) : Int) = 40 * ((40 ^ F.length : Nat) : Int) := by rw [Nat.pow_succ, Nat.mul_comm]; rfl
    omega
theorem prodL_big {F : List Int} (h : ∀ f ∈ F, 0 ≤ f ∧ f ≤ 40) (hl : F.length ≤ 300) : prodL F ≤ BIG := by
  refine Int.le_trans (prodL_le h).2 ?_
  have a : 40 ^ F.length ≤ 40 ^ 300 := Nat.pow_le_pow_right (by omega) hl
  exact Int.le_trans (Int.ofNat_le.mpr a) (by decide +kernel)
theorem big_abs {x : Int} (h0 : 0 ≤ x) (h : x ≤ BIG) : x.natAbs < 2 ^ 2001 := by
  have a : x.natAbs ≤ BIG.natAbs := by omega
  exact Nat.lt_of_le_of_lt a (by decide +kernel)
def backs (F : List Int) (j : Nat) : List Int := (List.range (j + 1)).map fun i => prodL (F.drop (F.length - i))
theorem backs_rev (F : List Int) : (backs F F.length).reverse = sufs F := by
  apply List.ext_getElem?
  intro i
  by_cases h : i < F.length + 1
  · rw [List.getElem?_reverse (by unfold backs; rw [List.length_map, List.length_range]; exact h), sufs_at (by omega)]
    unfold backs
    rw [List.length_map, List.length_range, List.getElem?_map, List.getElem?_range (by omega)]
    show some (prodL (F.drop (F.length - (F.length + 1 - 1 - i)))) = _
    rw [show F.length - (F.length + 1 - 1 - i) = i by omega]
  · rw [List.getElem?_eq_none (by rw [List.length_reverse]; unfold backs; rw [List.length_map, List.length_range]; omega), List.getElem?_eq_none (by rw [sufs_len]; omega)]
def spProd (K : PySem.W.Frag) : Sp := fun vs H Q _ => ∃ (a : Addr) (F : List Int), vs = [.ref a] ∧ SqL K H a (F.map V.int) ∧ F.length ≤ 300 ∧ (∀ f ∈ F, 0 ≤ f ∧ f ≤ 40) ∧ ∀ r H', H r = none → Ex H H' → H' r = some (.lst ((sufs F).map V.int)) → Q (.ref r) H'
def JPb (H Hz : Hp) (a r z : Addr) (F : List Int) (i : Nat) (σ' : L2.St) (H' : Hp) : Prop := ∃ l2, σ' = [some (.ref a), some (.ref r), l2] ∧ Ex H H' ∧ H' z = some (.lst (F.reverse.map V.int)) ∧ H' r = some (.lst ((backs F i).map V.int))
theorem ok_products_behind (T : Txt K mg) : FnOk P w K mg base CX0 1 T.f_products_behind T.fd_products_behind ["factors"] (spProd K) := by
  refine T.F_products_behind.ok sc_products_behind (fun vs H Q E h => ?_) (fun cdv A outer s H vs Q E hr h => ?_)
  · obtain ⟨a, F, rfl, _⟩ := h
    rfl
  · obtain ⟨a, F, rfl, hA, hl, hF, k⟩ := h
    apply Exists.intro
    apply And.intro
    · apply pss_cons
      · exact (ps_set (i := 1) sc_products_behind.nd rfl (.inl rfl) (pe_lst (pa_cons pe_int pa_nil)))
      apply pss_cons
      · apply ps_for PassesOwn.never rfl
        · exact (k_pi_list (K := K) rfl (k_rev (K := K) rfl (pv 0)))
        · exact (pg_name (i := 2) sc_products_behind.nd rfl (.inl rfl))
        · apply pss_one
          exact (ps_expr (k_bm (K := K) rfl (pe_bm PySem.F.plainAttrs_list PySem.F.slot_list_append PySem.F.type_list_append mt_append (pv 1) (pa_cons (pe_op op_mulX (pe_ix (k_ix_list (K := K) rfl) (pv 1) (pe_un un_neg pe_int) (fun _ _ => rfl)) (pv 2)) pa_nil))))
      apply pss_one
      exact (ps_ret (k_rev (K := K) rfl (pv 1)))
    walk_at "sx"
    refine ⟨sz_ok (by omega), fun r nr => ⟨_, ex_l (Ex.new nr) hA, fun z nz => ?_⟩⟩
    have e1 := Ex.new nr (o := .lst [V.int 1])
    have e2 := e1.trans (Ex.new nz (o := .lst (F.map V.int).reverse))
    have nrz : r ≠ z := ne_of_none upd_same nz
    refine ⟨⟨_, .inl (.inl upd_same)⟩, ?_⟩
    have hz : (upd (upd H r (.lst [V.int 1])) z (.lst (F.map V.int).reverse)) z = some (.lst (F.reverse.map V.int)) := by rw [upd_same, List.map_reverse]
    generalize hHz : upd (upd H r (.lst [V.int 1])) z (.lst (F.map V.int).reverse) = Hz at e2 hz ⊢
    have hr0 : Hz r = some (.lst [V.int 1]) := by rw [← hHz, upd_ne nrz, upd_same]
    refine lg_list (xs := F.reverse.map V.int) (JPb H Hz a r z F) ⟨none, rfl, e2, hz, by rw [hr0]; unfold backs; simp [prodL]⟩ (fun i σ' H' _ hP => by obtain ⟨_, _, _, hz, _⟩ := hP; exact .inl (.inl hz))
      (fun i x σ' H' hx hP => ?_) (fun σ' H' hP => ?_)
    · obtain ⟨l1, rfl, e, hz, hr⟩ := hP
      obtain ⟨x, hx', rfl⟩ := ints_at hx
      have hi : i < F.length := by
        have := (List.getElem?_eq_some_iff.mp hx').1
        rwa [List.length_reverse] at this
      rw [List.getElem?_reverse hi] at hx'
      have hlen : (backs F i).length = i + 1 := by unfold backs; rw [List.length_map, List.length_range]
      have hlast : (backs F i)[i]? = some (prodL (F.drop (F.length - i))) := by
        unfold backs
        rw [List.getElem?_map, List.getElem?_range (by omega)]
        rfl
      have hd : F.drop (F.length - (i + 1)) = x :: F.drop (F.length - i) := by
        obtain ⟨h1, h2⟩ := List.getElem?_eq_some_iff.mp hx'
        rw [List.drop_eq_getElem_cons (show F.length - (i + 1) < F.length by omega)]
        have : F.length - (i + 1) = F.length - 1 - i := by omega
        simp only [this, h2]
        rw [show F.length - 1 - i + 1 = F.length - i by omega]
      have hb : backs F i ++ [prodL (F.drop (F.length - i)) * x] = backs F (i + 1) := by
        unfold backs
        rw [List.range_succ (n := i + 1), List.map_append]
        congr 1
        show _ = [prodL (F.drop (F.length - (i + 1)))]
        rw [hd]
        show _ = [x * prodL _]
        rw [Int.mul_comm]
      have hx0 := hF x (List.mem_of_getElem? hx')
      have hdr : ∀ f ∈ F.drop (F.length - i), 0 ≤ f ∧ f ≤ 40 := fun f hf => hF f (List.mem_of_mem_drop hf)
      have hP0 := (prodL_le hdr).1
      have hP1 := prodL_big hdr (by rw [List.length_drop]; omega)
      walk_at "sx"
      refine ⟨tyL hr, ?_⟩
      refine ixL (.inl (.inl hr)) (atI_last (by rw [List.length_map, hlen, Nat.add_sub_cancel]; exact at_ints hlast)) ?_
      walk_at "sx"
      refine ⟨.inr (wide_mul (a := 2001) (b := 10) (big_abs hP0 hP1) (by omega) (by omega) (by omega) (by omega)), ?_⟩
      refine appL hr (BC.sz_lt (by rw [List.length_map, hlen]; omega)) ?_
      have er : (backs F i).map V.int ++ [V.int (prodL (F.drop (F.length - i)) * x)] = (backs F (i + 1)).map V.int := by rw [← hb, List.map_append]; rfl
      rw [er]
      exact ⟨_, rfl, e.mut nr, by rw [upd_ne (Ne.symm nrz)]; exact hz, upd_same⟩
    · obtain ⟨l1, rfl, e, hz, hr⟩ := hP
      walk_at "sx"
      refine ⟨_, .inl (.inl hr), fun y ny => ?_⟩
      refine k y _ (fresh_back e ny) (e.trans (Ex.new ny)) ?_
      rw [upd_same, ← List.map_reverse, List.length_map, List.length_reverse, backs_rev]
theorem prodL_drop (m : Nat) : ∀ (L : List Nat) (s i : Nat), i ≤ L.length → prodL ((facs m s L).drop i) = prod m (prv s L i) (L.drop i)
  | L, s, 0, _ => by
    have h : ∀ (L : List Nat) (s : Nat), prodL (facs m s L) = prod m s L := fun L => by
      induction L with
      | nil => intro s; rfl
      | cons l L ih => intro s; show fac m s l * prodL (facs m l L) = fac m s l * prod m l L; rw [ih]
    exact h L s
  | [], s, i + 1, h => by simp at h
  | l :: L, s, i + 1, h => by
    show prodL ((facs m l L).drop i) = prod m _ (L.drop i)
    have e : prv s (l :: L) (i + 1) = prv l L i := by
      unfold prv
      rw [if_neg (by omega), Nat.add_sub_cancel]
      cases i with
      | zero => rfl
      | succ i => rw [if_neg (by omega)]; rfl
    rw [prodL_drop m L l i (by simpa using h), e]
theorem facs_le (m : Nat) (hm : m ≤ 40) : ∀ (L : List Nat) (s : Nat), ∀ f ∈ facs m s L, 0 ≤ f ∧ f ≤ 40
  | [], _, f, h => (List.not_mem_nil h).elim
  | l :: L, s, f, h => by
    rcases List.mem_cons.mp h with rfl | h
    · unfold fac
      split
      · split <;> omega
      · omega
    · exact facs_le m hm L l f h
def spCountV (K : PySem.W.Frag) : Sp := fun vs H Q _ => ∃ (m q : Nat) (a : Addr) (L : List Nat), vs = [.int m, .ref a] ∧ 1 ≤ m ∧ m ≤ 40 ∧ SqL K H a ((nz L).map V.int) ∧ L.length ≤ 300 ∧ q ≤ 40 ∧ Ok q 0 L ∧ ∀ H', Ex H H' → Q (.int (prod m 0 L)) H'
theorem ok_count_visits (T : Txt K mg) : FnOk P w K mg base CX0 4 T.f_count_visits T.fd_count_visits ["many", "lengths"] (spCountV K) := by
  refine T.F_count_visits.ok sc_count_visits (fun vs H Q E h => ?_) (fun cdv A outer s H vs Q E hr h => ?_)
  · obtain ⟨m, q, a, L, rfl, _⟩ := h
    rfl
  · obtain ⟨m, q, a, L, rfl, h1, h2, hA, hl, hq, hL, k⟩ := h
    apply Exists.intro
    apply And.intro
    · apply pss_cons
      · exact (ps_expr (pe_call (ok_check_number T) (hr.mono (by decide)) (by rfl) T.m_check_number T.F_check_number.kp T.b_check_number .nil pass0 (pa_cons (pv 0) (pa_cons pe_int (pa_cons (pe_glob (v := .int 40) rfl T.c_MOST_PAGES ⟨_, rfl⟩) pa_nil)))))
      apply pss_cons
      · exact (ps_expr (pe_call (ok_check_lengths T) (hr.mono (by decide)) (by rfl) T.m_check_lengths T.F_check_lengths.kp T.b_check_lengths .nil pass0 (pa_cons (pv 1) pa_nil)))
      apply pss_one
      exact (ps_ret (pe_ix (k_ix_list (K := K) rfl) (pe_call (ok_products_behind T) (hr.mono (by decide)) (by rfl) T.m_products_behind T.F_products_behind.kp T.b_products_behind .nil pass0 (pa_cons (pe_call (ok_factors_of T) (hr.mono (by decide)) (by rfl) T.m_factors_of T.F_factors_of.kp T.b_factors_of .nil pass0 (pa_cons (pv 0) (pa_cons (pv 1) pa_nil))) pa_nil)) pe_int (fun _ _ => rfl)))
    walk_at "sx"
    refine ⟨m, 1, 40, rfl, by omega, by omega, ?_⟩
    walk_at "sx"
    refine ⟨a, q, L, rfl, hA, hl, hq, hL, ?_⟩
    walk_at "sx"
    refine ⟨m, a, L, rfl, hA, hl, fun r H1 nr e1 hr => ?_⟩
    refine ⟨r, _, rfl, .inl (.inl hr), by rw [facs_len]; exact hl, facs_le m h2 L 0, fun r2 H2 nr2 e2 hr2 => ?_⟩
    refine ixL (.inl (.inl hr2)) (atI_n (j := 0) rfl (at_ints (sufs_at (by omega)))) ?_
    rw [prodL_drop m L 0 0 (by omega)]
    exact k _ (e1.trans e2)
theorem lens_nz : ∀ (R t : List Int), (List.range R.length).map (fun i => (((R.take (i + 1)).foldl vis t).length : Int)) = nz (lensF t R)
  | [], _ => rfl
  | p :: R, t => by
    have ih := lens_nz R (vis t p)
    rw [List.length_cons, List.range_succ_eq_map, List.map_cons, List.map_map]
    show ((vis t p).length : Int) :: (List.range R.length).map _ = ((vis t p).length : Int) :: nz (lensF (vis t p) R)
    rw [← ih]
    rfl
theorem lens_eq (R : List Int) : lens R = nz (lensF [] R) := lens_nz R []
theorem lensF_len : ∀ (R t : List Int), (lensF t R).length = R.length
  | [], _ => rfl
  | p :: R, t => by show (lensF _ R).length + 1 = _; rw [lensF_len R]; rfl
theorem lensF_ok {m : Nat} : ∀ (R t : List Int), t.Nodup → Pg m t → Pg m R → Ok m t.length (lensF t R)
  | [], _, _, _, _ => trivial
  | p :: R, t, h1, h2, h3 => by
    have hp := h3 p List.mem_cons_self
    have h4 := vis_nodup h1 (p := p)
    have h5 := vis_pg h2 hp.1 hp.2
    have h6 := nodup_len m h4 h5
    have h7 := vis_le t p
    exact ⟨vis_pos t p, by omega, lensF_ok R (vis t p) h4 h5 fun x hx => h3 x (List.mem_cons_of_mem _ hx)⟩
/-- the trail after i of the visits -/
def tra (R : List Int) (i : Nat) : List Int := trl (R.take i)
theorem lensF_drop {R t : List Int} : ∀ {i : Nat}, i ≤ R.length → (lensF t R).drop i = lensF ((R.take i).foldl vis t) (R.drop i) := fun {i} h => by
  induction R generalizing t i with
  | nil =>
    have : i = 0 := by simpa using h
    subst this
    rfl
  | cons p R ih =>
    cases i with
    | zero => rfl
    | succ i => exact ih (t := vis t p) (by simpa using h)
theorem prv_tra {R : List Int} {i : Nat} (h : i ≤ R.length) : prv 0 (lensF [] R) i = (tra R i).length := by
  cases i with
  | zero => rfl
  | succ i =>
    have hi : i < R.length := by omega
    have hr : R[i]? = some R[i] := List.getElem?_eq_getElem hi
    have e : (lensF [] R)[i]? = some (tra R (i + 1)).length := by
      have d := lensF_drop (t := []) (R := R) (i := i) (by omega)
      rw [List.drop_eq_getElem_cons hi] at d
      have hi2 : i < (lensF [] R).length := by rw [lensF_len]; exact hi
      rw [List.drop_eq_getElem_cons hi2] at d
      have d0 := (List.cons.inj d).1
      rw [List.getElem?_eq_getElem hi2, d0]
      show some (vis (trl (R.take i)) R[i]).length = _
      rw [← trl_snoc hr]
      rfl
    exact prv_succ e
theorem kept_filter (n : Nat) (k : Nat → Bool) (f : Nat → V) : kept n k f = ((List.range n).filter k).map f := by
  induction n with
  | zero => rfl
  | succ n ih =>
    rw [List.range_succ, List.filter_append, List.map_append, ← ih]
    cases c : k n with
    | true => rw [kept_yes c]; simp [c]
    | false => rw [kept_no c]; simp [c]
theorem kept_fresh (m : Nat) (t : List Int) : kept m (fun i => !decide (((i : Nat) : Int) ∈ t)) (fun i => V.int ((i : Nat) : Int)) = (VS.fresh m t).map V.int := by
  rw [kept_filter]
  unfold VS.fresh
  rw [List.filter_map, List.map_map]
  congr 1
  congr 1
  funext i
  simp
theorem vr_cons {m : Nat} {t R : List Int} {p : Int} : vr m t (p :: R) = (if p ∈ t then 0 else ((VS.fresh m t).idxOf p : Nat) * prod m (vis t p).length (lensF (vis t p) R)) + vr m (vis t p) R := rfl
theorem tra_succ {R : List Int} {i : Nat} {p : Int} (h : R[i]? = some p) : tra R (i + 1) = vis (tra R i) p := trl_snoc h
theorem prod_at {m : Nat} {R : List Int} {i : Nat} (h : i ≤ R.length) : prodL ((facs m 0 (lensF [] R)).drop i) = prod m (tra R i).length (lensF (tra R i) (R.drop i)) := by
  rw [prodL_drop m _ 0 i (by rw [lensF_len]; exact h), prv_tra h, lensF_drop h]
  rfl
theorem len_at {R : List Int} {i : Nat} (h : i < R.length) : (lensF [] R)[i]? = some (tra R (i + 1)).length := by
  have e := lens_at h
  rw [lens_eq] at e
  unfold nz at e
  rw [List.getElem?_map] at e
  cases q : (lensF [] R)[i]? with
  | none => rw [q] at e; cases e
  | some x =>
    rw [q] at e
    have z : (x : Int) = ((trl (R.take (i + 1))).length : Int) := Option.some.inj e
    show some x = some (trl (R.take (i + 1))).length
    congr 1
    omega
theorem ne_of_some_none {H : Hp} {a b : Addr} {o : HO} (h : H a = some o) (n : H b = none) : b ≠ a := fun e => by subst e; rw [h] at n; cases n
def spNthV (K : PySem.W.Frag) : Sp := fun vs H Q _ => ∃ (m : Nat) (a : Addr) (R : List Int), vs = [.int m, .ref a, .int (vr m [] R)] ∧ 1 ≤ m ∧ m ≤ 40 ∧ SqL K H a ((nz (lensF [] R)).map V.int) ∧ R.length ≤ 300 ∧ Pg m R ∧ ∀ r H', H r = none → Ex H H' → H' r = some (.lst (R.map V.int)) → Q (.ref r) H'
def JNv (H2 : Hp) (m : Nat) (a : Addr) (R : List Int) (pr f : Addr) (i : Nat) (σ' : L2.St) (H' : Hp) : Prop := ∃ l7 l8 l9 l10 l11 tr, σ' = [some (.int m), some (.ref a), some (.int (vr m [] R)), some (.ref pr), some (.ref tr), some (.int (vr m (tra R i) (R.drop i))), some (.ref f), l7, l8, l9, l10, l11] ∧
  Ex H2 H' ∧ tr ≠ f ∧ H' tr = some (.lst ((tra R i).map V.int)) ∧ H' f = some (.lst ((R.map V.int).take i))
theorem ok_nth_visits (T : Txt K mg) : FnOk P w K mg base CX0 5 T.f_nth_visits T.fd_nth_visits ["many", "lengths", "index"] (spNthV K) := by
  refine T.F_nth_visits.ok sc_nth_visits (fun vs H Q E h => ?_) (fun cdv A outer s H vs Q E hr h => ?_)
  · obtain ⟨m, a, R, rfl, _⟩ := h
    rfl
  · obtain ⟨m, a, R, rfl, h1, h2, hA, hl, hp, k⟩ := h
    apply Exists.intro
    apply And.intro
    · apply pss_cons
      · exact (ps_expr (pe_call (ok_check_number T) (hr.mono (by decide)) (by rfl) T.m_check_number T.F_check_number.kp T.b_check_number .nil pass0 (pa_cons (pv 2) (pa_cons pe_int (pa_cons (pe_op op_sub (pe_call (ok_count_visits T) (hr.mono (by decide)) (by rfl) T.m_count_visits T.F_count_visits.kp T.b_count_visits .nil pass0 (pa_cons (pv 0) (pa_cons (pv 1) pa_nil))) pe_int) pa_nil)))))
      apply pss_cons
      · exact (ps_set (i := 3) sc_nth_visits.nd rfl (.inl rfl) (pe_call (ok_products_behind T) (hr.mono (by decide)) (by rfl) T.m_products_behind T.F_products_behind.kp T.b_products_behind .nil pass0 (pa_cons (pe_call (ok_factors_of T) (hr.mono (by decide)) (by rfl) T.m_factors_of T.F_factors_of.kp T.b_factors_of .nil pass0 (pa_cons (pv 0) (pa_cons (pv 1) pa_nil))) pa_nil)))
      apply pss_cons
      · exact (ps_asg (pe_tup (pa_cons (pe_lst pa_nil) (pa_cons (pv 2) (pa_cons (pe_lst pa_nil) pa_nil)))) (k_tup (K := K) (n := 3) rfl rfl (pgs_cons (pg_name (i := 4) sc_nth_visits.nd rfl (.inr rfl)) (pgs_cons (pg_name (i := 5) sc_nth_visits.nd rfl (.inl rfl)) (pgs_cons (pg_name (i := 6) sc_nth_visits.nd rfl (.inl rfl)) pgs_nil)))))
      apply pss_cons
      · apply ps_for PassesOwn.never rfl
        · exact (k_pi_enum (K := K) rfl (by rfl) T.n_enumerate (pa_cons (pv 1) pa_nil))
        · exact (k_tup (K := K) (n := 2) rfl rfl (pgs_cons (pg_name (i := 7) sc_nth_visits.nd rfl (.inl rfl)) (pgs_cons (pg_name (i := 8) sc_nth_visits.nd rfl (.inl rfl)) pgs_nil)))
        · apply pss_cons
          · apply ps_if
            · exact (pt_cmpR op_gt (pv 8) (pe_callB (k_len (K := K) rfl) (by rfl) T.n_len PySem.boot_len (pa_cons (pv 4) pa_nil)) (by rfl))
            · apply pss_cons
              · exact (ps_setLc (i := 9) (own := [("page", 10)]) rfl sc_nth_visits.nd rfl rfl (sw_true rfl rfl rfl (by decide +kernel)) (pi_range1 (by rfl) T.n_range (pa_cons (pv 0) pa_nil)) (blkOk_by (own := [("page", 10)]) (N := ["many", "lengths", "index", "products", "trail", "rest", "found", "place", "length", "free", "page", "choice"]) (sc := defScope s_nth_visits) (by decide +kernel)) (fun _ _ _ _ _ => by exact (pg_name (i := 10) sc_nth_visits.nd rfl (.inl rfl))) (fun _ _ _ _ _ => by exact (pts_one (pt_cmpR (k_notIn (K := K) rfl) (pv 10) (pv 4) (by rfl)))) (fun _ _ _ _ _ => by exact (pv 10)))
              apply pss_cons
              · exact (ps_asg (pe_callB call_dmX (by rfl) T.n_divmod (by decide +kernel) (pa_cons (pv 5) (pa_cons (pe_ix (k_ix_list (K := K) rfl) (pv 3) (pe_op op_add (pv 7) pe_int) (fun _ _ => rfl)) pa_nil))) (k_tup (K := K) (n := 2) rfl rfl (pgs_cons (pg_name (i := 11) sc_nth_visits.nd rfl (.inl rfl)) (pgs_cons (pg_name (i := 5) sc_nth_visits.nd rfl (.inl rfl)) pgs_nil))))
              apply pss_one
              exact (ps_set (i := 10) sc_nth_visits.nd rfl (.inl rfl) (pe_ix (k_ix_list (K := K) rfl) (pv 9) (pv 11) (fun _ _ => rfl)))
            · apply pss_one
              exact (ps_set (i := 10) sc_nth_visits.nd rfl (.inl rfl) (pe_ix (k_ix_list (K := K) rfl) (pv 4) (pe_op op_sub (pv 8) pe_int) (fun _ _ => rfl)))
          apply pss_cons
          · exact (ps_expr (k_bm (K := K) rfl (pe_bm PySem.F.plainAttrs_list PySem.F.slot_list_append PySem.F.type_list_append mt_append (pv 6) (pa_cons (pv 10) pa_nil))))
          apply pss_one
          exact (ps_set (i := 4) sc_nth_visits.nd rfl (.inr rfl) (pe_call (ok_visited T) (hr.mono (by decide)) (by rfl) T.m_visited T.F_visited.kp T.b_visited .nil pass0 (pa_cons (pv 4) (pa_cons (pv 10) pa_nil))))
      apply pss_one
      exact (ps_ret (pv 6))
    have hok := lensF_ok (m := m) R [] List.nodup_nil (pg_nil _) hp
    have hlen := lensF_len R []
    have hrk := vr_lt m R [] List.nodup_nil (pg_nil _) hp
    walk_at "sx"
    refine ⟨m, m, a, lensF [] R, rfl, h1, h2, hA, by omega, h2, hok, fun H1 e1 => ?_⟩
    walk_at "sx"
    refine ⟨_, 0, _, rfl, hrk.1, by have := hrk.2; simp only [List.length_nil] at this; omega, ?_⟩
    walk_at "sx"
    refine ⟨m, a, lensF [] R, rfl, ex_l e1 hA, by omega, fun fa H2 nfa e2 hfa => ?_⟩
    refine ⟨fa, _, rfl, .inl (.inl hfa), by rw [facs_len]; omega, facs_le m h2 _ 0, fun pr H3 npr e3 hpr => ?_⟩
    refine ⟨sz_ok (by omega), fun t0 nt0 => ⟨sz_ok (by omega), fun f nf => ?_⟩⟩
    refine ⟨sz_ok (by simp), fun tp ntp => g_three upd_same ?_⟩
    have ntf : t0 ≠ f := ne_of_none upd_same nf
    have e4 := ((Ex.new nt0 (o := .lst [])).trans (Ex.new nf (o := .lst []))).trans (Ex.new ntp (o := .tup [V.ref t0, V.int (vr m [] R), V.ref f]))
    have e03 := (e1.trans e2).trans e3
    walk_at "sx"
    refine ⟨_, ex_l (e03.trans e4) hA, ?_⟩
    refine lg_enum (xs := (nz (lensF [] R)).map V.int) (JNv H3 m a R pr f) ⟨none, none, none, none, none, t0, rfl, e4, ntf, (Ex.new ntp) _ _ (by rw [upd_ne ntf, upd_same]; rfl), (Ex.new ntp) _ _ (by rw [upd_same]; rfl)⟩ (fun i σ' H' hi hP => by obtain ⟨_, _, _, _, _, _, _, e, _⟩ := hP; exact ex_l (e03.trans e) hA)
      (fun i x σ' H' T hx hP nT => ?_) (fun σ' H' hP => ?_)
    · obtain ⟨l7, l8, l9, l10, l11, tr, rfl, e, ntr, htr, hf⟩ := hP
      obtain ⟨x, hx', rfl⟩ := at_nz hx
      have hi : i < R.length := by
        have := (List.getElem?_eq_some_iff.mp hx').1
        rwa [hlen] at this
      rw [len_at hi] at hx'
      obtain rfl : (tra R (i + 1)).length = x := Option.some.inj hx'
      have hRi : R[i]? = some R[i] := List.getElem?_eq_getElem hi
      have hd : R.drop i = R[i] :: R.drop (i + 1) := List.drop_eq_getElem_cons hi
      have hpb := hp.at hRi
      generalize R[i] = p at hRi hd hpb
      have hts := tra_succ hRi
      have tn : (tra R i).Nodup := trl_nodup (hp.take i)
      have tp' : Pg m (tra R i) := trl_pg (hp.take i)
      refine g_two upd_same ?_
      have e5 := Ex.new nT (o := .tup [V.int i, V.int (tra R (i + 1)).length])
      simp only [List.set_cons_zero, List.set_cons_succ]
      have htr5 := e5 _ _ htr
      have hf5 := e5 _ _ hf
      have e35 := e.trans e5
      generalize upd H' T (.tup [V.int i, V.int (tra R (i + 1)).length]) = H5 at e5 htr5 hf5 e35 ⊢
      refine seq_cut (fun σ6 H6 => ∃ l9 l11, σ6 = [some (.int m), some (.ref a), some (.int (vr m [] R)), some (.ref pr), some (.ref tr), some (.int (vr m (tra R (i + 1)) (R.drop (i + 1)))), some (.ref f), some (.int i), some (.int (tra R (i + 1)).length), l9, some (.int p), l11] ∧ Ex H5 H6) (fun N hN => ?_) (fun σ6 H6 hC => ?_)
      · walk_at "sx"
        refine lenL (.inl (.inl htr5)) ?_
        rw [List.length_map]
        rw [hd, vr_cons, ← hts]
        by_cases c : p ∈ tra R i
        · have v := vis_in c
          rw [← hts] at v
          have g : ¬ (((tra R i).length : Nat) : Int) < (((tra R (i + 1)).length : Nat) : Int) := by omega
          simp only [c, if_true]
          walk_at "sx"
          rw [if_neg g]
          refine ixL (.inl (.inl htr5)) (atI_n (j := (tra R i).idxOf p) (by omega) (at_ints (ns := tra R i) (n := p) ?_)) ?_
          · have hl := List.idxOf_lt_length_of_mem c
            rw [List.getElem?_eq_getElem hl, List.getElem_idxOf hl]
          · rw [Int.zero_add]
            exact hN _ _ ⟨_, _, rfl, Ex.refl _⟩
        · have v := vis_out c
          rw [← hts] at v
          have g : (((tra R i).length : Nat) : Int) < (((tra R (i + 1)).length : Nat) : Int) := by omega
          simp only [c, if_false]
          walk_at "sx"
          rw [if_pos g]
          refine ⟨by omega, by omega, fun D nD => ?_⟩
          rw [Int.toNat_natCast]
          refine lc_rng (lo := 0) (n := m) (fun j => !decide (((j : Nat) : Int) ∈ tra R i)) (fun i => V.int ((i : Nat) : Int)) nD (by omega) (fun u => rfl) (fun j hj => ?_) (fun j hj _ => by rw [show (0 : Int) + j = (j : Int) by omega]; exact ev_var rfl) (fun H6 e6 hD => ?_)
          · refine et_is (et_test (ev_op (ev_var rfl) (ev_var rfl) (rv_niL (.inl (.inl htr5)) rfl (flat_ints _)))) ?_
            rw [inV_ints, show (0 : Int) + j = (j : Int) by omega]
          rw [kept_fresh] at hD
          have hpi := prod_at (m := m) (R := R) (i := i + 1) (by omega)
          have hfac := facs_le m h2 (lensF [] R) 0
          have hbig := prodL_big (F := (facs m 0 (lensF [] R)).drop (i + 1)) (fun f hf => hfac f (List.mem_of_mem_drop hf)) (by rw [List.length_drop, facs_len]; omega)
          have hrr := vr_lt m (R.drop (i + 1)) (tra R (i + 1)) (trl_nodup (hp.take (i + 1))) (trl_pg (hp.take (i + 1))) (fun x hx => hp x (List.mem_of_mem_drop hx))
          have hm : p ∈ VS.fresh m (tra R i) := fresh_mem.mpr ⟨hpb, c⟩
          have hil := List.idxOf_lt_length_of_mem hm
          rw [hpi] at hbig
          refine ixL (.inl (.inl ((e35.trans e6) _ _ hpr))) (atI_n (j := i + 1) (by omega) (at_ints (sufs_at (by rw [facs_len, hlen]; omega)))) ?_
          rw [hpi]
          generalize prod m (tra R (i + 1)).length (lensF (tra R (i + 1)) (R.drop (i + 1))) = Pp at hrr hbig ⊢
          have ppos : 0 < Pp := by omega
          refine ⟨_, _, rfl, wide_div (b := 2001) ppos (big_lt ppos hbig) (by omega) (by omega), fun T2 nT2 => g_two upd_same ?_⟩
          have e7 := Ex.new nT2 (o := .tup [V.int ((((List.idxOf p (VS.fresh m (tra R i)) : Nat) : Int) * Pp + vr m (tra R (i + 1)) (R.drop (i + 1))) / Pp), V.int ((((List.idxOf p (VS.fresh m (tra R i)) : Nat) : Int) * Pp + vr m (tra R (i + 1)) (R.drop (i + 1))) % Pp)])
          have hdiv : (((List.idxOf p (VS.fresh m (tra R i)) : Nat) : Int) * Pp + vr m (tra R (i + 1)) (R.drop (i + 1))) / Pp = ((List.idxOf p (VS.fresh m (tra R i)) : Nat) : Int) := by
            rw [Int.add_comm, Int.add_mul_ediv_right _ _ (by omega), Int.ediv_eq_zero_of_lt hrr.1 hrr.2, Int.zero_add]
          have hmod : (((List.idxOf p (VS.fresh m (tra R i)) : Nat) : Int) * Pp + vr m (tra R (i + 1)) (R.drop (i + 1))) % Pp = vr m (tra R (i + 1)) (R.drop (i + 1)) := by
            rw [Int.add_comm, Int.add_mul_emod_self_right, Int.emod_eq_of_lt hrr.1 hrr.2]
          rw [hdiv, hmod] at e7 ⊢
          walk_at "sx"
          refine ixL (.inl (.inl (e7 _ _ hD))) (atI_n rfl (at_ints (ns := VS.fresh m (tra R i)) (n := p) ?_)) ?_
          · rw [List.getElem?_eq_getElem hil, List.getElem_idxOf hil]
          · exact hN _ _ ⟨_, _, rfl, e6.trans e7⟩
      · obtain ⟨l9, l11, rfl, e6⟩ := hC
        walk_at "sx"
        refine ⟨tyL (e6 _ _ hf5), ?_⟩
        refine appL (e6 _ _ hf5) (BC.sz_lt (by rw [List.length_take]; omega)) ?_
        refine ⟨tr, tra R i, p, rfl, by rw [upd_ne ntr]; exact e6 _ _ htr5, ?_, fun r H7 nr e7 hr => ?_⟩
        · have := nodup_len m tn tp'
          omega
        · have nf3 : H3 f = none := fresh_back (Ex.new nt0) nf
          refine ⟨_, _, _, _, _, r, rfl, ((e35.trans e6).mut nf3).trans e7, ne_of_some_none upd_same nr, by rw [hts]; exact hr, ?_⟩
          rw [e7 _ _ upd_same, take_succ (at_ints hRi)]
    · obtain ⟨l7, l8, l9, l10, l11, tr, rfl, e, ntr, htr, hf⟩ := hP
      walk_at "sx"
      refine k f _ (fresh_back (e03.trans (Ex.new nt0)) nf) (e03.trans e) ?_
      rw [hf, List.take_of_length_le (by rw [List.length_map, List.length_map, nz_len, hlen]; omega)]
theorem range_fresh {m : Nat} {t : List Int} {p : Nat} (hp : p < m) (hn : ((p : Nat) : Int) ∉ t) : (VS.fresh p t).length = (VS.fresh m t).idxOf ((p : Nat) : Int) := by
  have e : List.range m = List.range p ++ p :: (List.range m).drop (p + 1) := by
    conv => lhs; rw [← List.take_append_drop p (List.range m)]
    rw [List.take_range, Nat.min_eq_left (by omega), List.drop_eq_getElem_cons (by rw [List.length_range]; exact hp), List.getElem_range]
  have f : VS.fresh m t = VS.fresh p t ++ ((p : Nat) : Int) :: (((List.range m).drop (p + 1)).map fun i : Nat => (i : Int)).filter fun q => decide (q ∉ t) := by
    unfold VS.fresh
    rw [e, List.map_append, List.filter_append, List.map_cons, List.filter_cons_of_pos (by exact decide_eq_true hn)]
    congr 2
    rw [← e]
  have no : ((p : Nat) : Int) ∉ VS.fresh p t := fun h => by
    have := (fresh_mem.mp h).1.2
    omega
  rw [f, List.idxOf_append, if_neg no, List.idxOf_cons_self, Nat.zero_add]
def spRankV (K : PySem.W.Frag) : Sp := fun vs H Q _ => ∃ (m : Nat) (a : Addr) (R : List Int), vs = [.int m, .ref a] ∧ 1 ≤ m ∧ m ≤ 40 ∧ SqL K H a (R.map V.int) ∧ R.length ≤ 300 ∧ Pg m R ∧ ∀ H', Ex H H' → Q (.int (vr m [] R)) H'
def JRv (H3 : Hp) (m : Nat) (a : Addr) (R : List Int) (pr : Addr) (i : Nat) (σ' : L2.St) (H' : Hp) : Prop := ∃ l5 l6 l7 tr, σ' = [some (.int m), some (.ref a), some (.ref pr), some (.ref tr), some (.int (vr m [] R - vr m (tra R i) (R.drop i))), l5, l6, l7] ∧
  Ex H3 H' ∧ H' tr = some (.lst ((tra R i).map V.int))
theorem ok_visits_rank (T : Txt K mg) : FnOk P w K mg base CX0 5 T.f_visits_rank T.fd_visits_rank ["many", "visits"] (spRankV K) := by
  refine T.F_visits_rank.ok sc_visits_rank (fun vs H Q E h => ?_) (fun cdv A outer s H vs Q E hr h => ?_)
  · obtain ⟨m, a, R, rfl, _⟩ := h
    rfl
  · obtain ⟨m, a, R, rfl, h1, h2, hA, hl, hp, k⟩ := h
    apply Exists.intro
    apply And.intro
    · apply pss_cons
      · exact (ps_expr (pe_call (ok_check_number T) (hr.mono (by decide)) (by rfl) T.m_check_number T.F_check_number.kp T.b_check_number .nil pass0 (pa_cons (pv 0) (pa_cons pe_int (pa_cons (pe_glob (v := .int 40) rfl T.c_MOST_PAGES ⟨_, rfl⟩) pa_nil)))))
      apply pss_cons
      · exact (ps_expr (pe_call (ok_check_visits T) (hr.mono (by decide)) (by rfl) T.m_check_visits T.F_check_visits.kp T.b_check_visits .nil pass0 (pa_cons (pv 1) pa_nil)))
      apply pss_cons
      · apply ps_if
        · exact (pt_not (pt_val (pe_callB (k_all (K := K) rfl rfl) (by rfl) T.n_all (by decide +kernel) (pa_cons (pe_lc (own := [("page", 6)]) rfl sc_visits_rank.nd (k_pi_list (K := K) rfl (pv 1)) (blkOk_by (own := [("page", 6)]) (N := ["many", "visits", "products", "trail", "found", "place", "page", "other"]) (sc := defScope s_visits_rank) (by decide +kernel)) (fun _ _ _ _ _ => by exact (pg_name (i := 6) sc_visits_rank.nd rfl (.inl rfl))) (fun _ _ _ _ _ => by exact pts_nil) (fun _ _ _ _ _ => by exact (pe_cmpR op_lt (pv 6) (pv 0) (by rfl)))) pa_nil))))
        · apply pss_one
          exact ps_never
        · exact pss_nil
      apply pss_cons
      · exact (ps_set (i := 2) sc_visits_rank.nd rfl (.inl rfl) (pe_call (ok_products_behind T) (hr.mono (by decide)) (by rfl) T.m_products_behind T.F_products_behind.kp T.b_products_behind .nil pass0 (pa_cons (pe_call (ok_factors_of T) (hr.mono (by decide)) (by rfl) T.m_factors_of T.F_factors_of.kp T.b_factors_of .nil pass0 (pa_cons (pv 0) (pa_cons (pe_call (ok_lengths_in T) (hr.mono (by decide)) (by rfl) T.m_lengths_in T.F_lengths_in.kp T.b_lengths_in .nil pass0 (pa_cons (pv 1) pa_nil)) pa_nil))) pa_nil)))
      apply pss_cons
      · exact (ps_asg (pe_tup (pa_cons (pe_lst pa_nil) (pa_cons pe_int pa_nil))) (k_tup (K := K) (n := 2) rfl rfl (pgs_cons (pg_name (i := 3) sc_visits_rank.nd rfl (.inr rfl)) (pgs_cons (pg_name (i := 4) sc_visits_rank.nd rfl (.inl rfl)) pgs_nil))))
      apply pss_cons
      · apply ps_for PassesOwn.never rfl
        · exact (k_pi_enum (K := K) rfl (by rfl) T.n_enumerate (pa_cons (pv 1) pa_nil))
        · exact (k_tup (K := K) (n := 2) rfl rfl (pgs_cons (pg_name (i := 5) sc_visits_rank.nd rfl (.inl rfl)) (pgs_cons (pg_name (i := 6) sc_visits_rank.nd rfl (.inl rfl)) pgs_nil)))
        · apply pss_cons
          · apply ps_if
            · exact (pt_cmpR (k_notIn (K := K) rfl) (pv 6) (pv 3) (by rfl))
            · apply pss_one
              exact (ps_aug (i := 4) sc_visits_rank.nd rfl (.inl rfl) (pe_op op_mulX (pe_callB (k_len (K := K) rfl) (by rfl) T.n_len PySem.boot_len (pa_cons (pe_lc (own := [("other", 7)]) rfl sc_visits_rank.nd (pi_range1 (by rfl) T.n_range (pa_cons (pv 6) pa_nil)) (blkOk_by (own := [("other", 7)]) (N := ["many", "visits", "products", "trail", "found", "place", "page", "other"]) (sc := defScope s_visits_rank) (by decide +kernel)) (fun _ _ _ _ _ => by exact (pg_name (i := 7) sc_visits_rank.nd rfl (.inl rfl))) (fun _ _ _ _ _ => by exact (pts_one (pt_cmpR (k_notIn (K := K) rfl) (pv 7) (pv 3) (by rfl)))) (fun _ _ _ _ _ => by exact (pv 7))) pa_nil)) (pe_ix (k_ix_list (K := K) rfl) (pv 2) (pe_op op_add (pv 5) pe_int) (fun _ _ => rfl))) ip_add)
            · exact pss_nil
          apply pss_one
          exact (ps_set (i := 3) sc_visits_rank.nd rfl (.inr rfl) (pe_call (ok_visited T) (hr.mono (by decide)) (by rfl) T.m_visited T.F_visited.kp T.b_visited .nil pass0 (pa_cons (pv 3) (pa_cons (pv 6) pa_nil))))
      apply pss_one
      exact (ps_ret (pv 4))
    have hlen := lensF_len R []
    walk_at "sx"
    refine ⟨m, 1, 40, rfl, by omega, by omega, ?_⟩
    walk_at "sx"
    refine ⟨a, R, rfl, hA, hl, hp.mono (by omega), fun H1 e1 => ?_⟩
    walk_at "sx"
    have hA1 := ex_l e1 hA
    refine ⟨⟨_, hA1⟩, fun D nD => ?_⟩
    refine lc_list (fun _ => true) (fun _ => V.bl true) hA1 nD (by rw [List.length_map]; omega) (fun u => rfl) (fun i x _ => tyes) (fun i x hx _ => ?_) (fun H2 e2 hD => ?_)
    · obtain ⟨n, hn, rfl⟩ := ints_at hx
      have := hp.at hn
      refine ev_is (ev_op (ev_var rfl) (ev_var rfl) rv_I0) ?_
      rw [decide_eq_true (by omega)]
    rw [kept_const] at hD
    have e5 : List.replicate (R.map V.int).length (V.bl true) = (List.replicate R.length true).map V.bl := by rw [List.map_replicate, List.length_map]
    rw [e5] at hD
    refine allL (.inl (.inl hD)) ?_
    rw [all_true]
    walk_at "sx"
    have hA2 := ex_l e2 hA1
    refine ⟨a, R, rfl, hA2, hl, fun lr H3 nlr e3 hlr => ?_⟩
    refine ⟨m, lr, lensF [] R, rfl, .inl (.inl (by rw [hlr, lens_eq])), by omega, fun fa H4 nfa e4 hfa => ?_⟩
    refine ⟨fa, _, rfl, .inl (.inl hfa), by rw [facs_len]; omega, facs_le m h2 _ 0, fun pr H5 npr e5' hpr => ?_⟩
    walk_at "sx"
    refine ⟨sz_ok (by omega), fun t0 nt0 => ⟨sz_ok (by omega), fun tp ntp => g_two upd_same ?_⟩⟩
    have e6 := (Ex.new nt0 (o := .lst [])).trans (Ex.new ntp (o := .tup [V.ref t0, V.int 0]))
    have e05 := ((((e1.trans e2).trans e3).trans e4).trans e5')
    walk_at "sx"
    refine ⟨_, ex_l (e05.trans e6) hA, ?_⟩
    refine lg_enum (xs := R.map V.int) (JRv H5 m a R pr) ⟨none, none, none, t0, by rw [show tra R 0 = [] from rfl, List.drop_zero, Int.sub_self], e6, (Ex.new ntp) _ _ (by rw [upd_same]; rfl)⟩ (fun i σ' H' hi hP => by obtain ⟨_, _, _, _, _, e, _⟩ := hP; exact ex_l (e05.trans e) hA)
      (fun i x σ' H' T hx hP nT => ?_) (fun σ' H' hP => ?_)
    · obtain ⟨l5, l6, l7, tr, rfl, e, htr⟩ := hP
      obtain ⟨p, hRi, rfl⟩ := ints_at hx
      have hi : i < R.length := (List.getElem?_eq_some_iff.mp hRi).1
      have hd : R.drop i = p :: R.drop (i + 1) := by
        obtain ⟨h, e⟩ := List.getElem?_eq_some_iff.mp hRi
        rw [List.drop_eq_getElem_cons h, e]
      have hpb := hp.at hRi
      have hts := tra_succ hRi
      have tn : (tra R i).Nodup := trl_nodup (hp.take i)
      have tp' : Pg m (tra R i) := trl_pg (hp.take i)
      have tl := nodup_len m tn tp'
      refine g_two upd_same ?_
      have e7 := Ex.new nT (o := .tup [V.int i, V.int p])
      simp only [List.set_cons_zero, List.set_cons_succ]
      have htr5 := e7 _ _ htr
      have e57 := e.trans e7
      generalize upd H' T (.tup [V.int i, V.int p]) = H7 at e7 htr5 e57 ⊢
      refine seq_cut (fun σ6 H6 => ∃ l7, σ6 = [some (.int m), some (.ref a), some (.ref pr), some (.ref tr), some (.int (vr m [] R - vr m (tra R (i + 1)) (R.drop (i + 1)))), some (.int i), some (.int p), l7] ∧ Ex H7 H6) (fun N hN => ?_) (fun σ6 H6 hC => ?_)
      · walk_at "sx"
        refine ninL (.inl (.inl htr5)) ?_
        by_cases c : p ∈ tra R i
        · rw [decide_eq_true c]
          walk_at "sx"
          have hv : vr m (tra R i) (R.drop i) = vr m (tra R (i + 1)) (R.drop (i + 1)) := by
            rw [hd, vr_cons, if_pos c, ← hts, Int.zero_add]
          rw [hv]
          exact hN _ _ ⟨_, rfl, Ex.refl _⟩
        · rw [decide_eq_false c]
          walk_at "sx"
          obtain ⟨pn, rfl⟩ : ∃ pn : Nat, p = pn := ⟨p.toNat, by omega⟩
          refine ⟨by omega, by omega, fun D2 nD2 => ?_⟩
          rw [Int.toNat_natCast]
          refine lc_rng (lo := 0) (n := pn) (fun j => !decide (((j : Nat) : Int) ∈ tra R i)) (fun j => V.int ((j : Nat) : Int)) nD2 (by omega) (fun u => rfl) (fun j hj => ?_) (fun j hj _ => by rw [show (0 : Int) + j = (j : Int) by omega]; exact ev_var rfl) (fun H8 e8 hD2 => ?_)
          · refine et_is (et_test (ev_op (ev_var rfl) (ev_var rfl) (rv_niL (.inl (.inl htr5)) rfl (flat_ints _)))) ?_
            rw [inV_ints, show (0 : Int) + j = (j : Int) by omega]
          rw [kept_fresh] at hD2
          refine lenL (.inl (.inl hD2)) ?_
          rw [List.length_map, range_fresh (m := m) (by omega) c]
          have hpi := prod_at (m := m) (R := R) (i := i + 1) (by omega)
          have hfac := facs_le m h2 (lensF [] R) 0
          have hin : ∀ f ∈ (facs m 0 (lensF [] R)).drop (i + 1), 0 ≤ f ∧ f ≤ 40 := fun f hf => hfac f (List.mem_of_mem_drop hf)
          have hbig := prodL_big hin (by rw [List.length_drop, facs_len]; omega)
          have hnn := (prodL_le hin).1
          rw [hpi] at hbig hnn
          refine ixL (.inl (.inl ((e57.trans e8) _ _ hpr))) (atI_n (j := i + 1) (by omega) (at_ints (sufs_at (by rw [facs_len, hlen]; omega)))) ?_
          rw [hpi]
          have hm : ((pn : Nat) : Int) ∈ VS.fresh m (tra R i) := fresh_mem.mpr ⟨hpb, c⟩
          have hil := List.idxOf_lt_length_of_mem hm
          have hfl := fresh_len m tn tp'
          walk_at "sx"
          refine ⟨.inr (wide_mul (a := 10) (b := 2001) (by omega) (big_abs hnn hbig) (by omega) (by omega) (by omega)), ?_⟩
          have hv : vr m [] R - vr m (tra R i) (R.drop i) + ((List.idxOf ((pn : Nat) : Int) (VS.fresh m (tra R i)) : Nat) : Int) * prod m (tra R (i + 1)).length (lensF (tra R (i + 1)) (R.drop (i + 1))) = vr m [] R - vr m (tra R (i + 1)) (R.drop (i + 1)) := by
            rw [hd, vr_cons, if_neg c, ← hts]
            omega
          rw [hv]
          exact hN _ _ ⟨_, rfl, e8⟩
      · obtain ⟨l7, rfl, e8⟩ := hC
        walk_at "sx"
        refine ⟨tr, tra R i, p, rfl, e8 _ _ htr5, by omega, fun r H9 nr e9 hr => ?_⟩
        exact ⟨_, _, _, r, rfl, (e57.trans e8).trans e9, by rw [hts]; exact hr⟩
    · obtain ⟨l5, l6, l7, tr, rfl, e, htr⟩ := hP
      walk_at "sx"
      rw [List.length_map, List.drop_length]
      rw [show vr m [] R - vr m (tra R R.length) [] = vr m [] R from Int.sub_zero _]
      exact k _ (e05.trans e)
end
section
variable {P : Program} {w : World} {K : PySem.W.Frag} {mg : Str → Option Value} {base : Heap}
/-- drawn lengths -/
def spRow : Sp := fun vs H Q _ => ∃ (b : Addr) (m t c : Nat), vs = [.ref b, .int m, .int t] ∧ 1 ≤ m ∧ m ≤ 40 ∧ t ≤ 300 ∧ BagAt H b c ∧ c ≤ 900000 ∧
  ∀ r (L : List Nat) H', H r = none → Fx b H H' → BagAt H' b (c + 1 + 3 * t) → H' r = some (.lst ((nz L).map V.int)) → L.length = t → Ok m 0 L → Q (.ref r) H'
def JPr (H : Hp) (b : Addr) (m t c : Nat) (wy : Int) (i : Nat) (σ' : L2.St) (H' : Hp) : Prop := ∃ l3 l6 l7 f L, σ' = [some (.ref b), some (.int m), some (.int t), l3, some (.ref f), some (.int wy), l6, l7] ∧
  H f = none ∧ f ≠ b ∧ Fx b H H' ∧ BagAt H' b (c + 1 + 3 * i) ∧ H' f = some (.lst ((nz L).map V.int)) ∧ L.length = i ∧ Ok m 0 L
theorem ok_law_row (T : Txt K mg) : FnOk P w K mg base CX0 2 T.f_law_row T.fd_law_row ["_law_bag_here", "_law_wide", "_law_long"] spRow := by
  refine T.F_law_row.ok sc_law_row (fun vs H Q E h => ?_) (fun cdv A outer s H vs Q E hr h => ?_)
  · obtain ⟨b, m, t, c, rfl, _⟩ := h
    rfl
  · obtain ⟨b, m, t, c, rfl, h1, h2, h3, hB, hc, k⟩ := h
    apply Exists.intro
    apply And.intro
    · apply pss_cons
      · exact (ps_par (i := 4) (j := 5) (by rfl) sc_law_row.nd rfl rfl (by decide) rfl rfl (pa_cons (pe_lst pa_nil) (pa_cons (pe_call (ok_law_draw T) (hr.mono (by decide)) (by rfl) T.m_law_draw T.F_law_draw.kp T.b_law_draw .nil pass0 (pa_cons (pv 0) (pa_cons pe_int pa_nil))) pa_nil)) (by rfl))
      apply pss_cons
      · apply ps_for PassesOwn.never rfl
        · exact (pi_range1 (by rfl) T.n_range (pa_cons (pv 2) pa_nil))
        · exact (pg_name (i := 3) sc_law_row.nd rfl (.inl rfl))
        · apply pss_cons
          · exact (ps_set (i := 6) sc_law_row.nd rfl (.inl rfl) (pe_callB (call_min2 rfl) (by rfl) T.n_min (by decide +kernel) (pa_cons (pv 1) (pa_cons (pe_op op_add pe_int (pe_ifExp (pt_cmpR (k_neD (K := K) rfl hr.units) (pv 4) (pe_lst pa_nil) (by rfl)) (pe_ix (k_ix_list (K := K) rfl) (pv 4) (pe_un un_neg pe_int) (fun _ _ => rfl)) pe_int)) pa_nil))))
          apply pss_cons
          · exact (ps_set (i := 7) sc_law_row.nd rfl (.inl rfl) (pe_lst (pa_cons (pe_op op_add pe_int (pe_call (ok_law_draw T) (hr.mono (by decide)) (by rfl) T.m_law_draw T.F_law_draw.kp T.b_law_draw .nil pass0 (pa_cons (pv 0) (pa_cons (pv 6) pa_nil)))) (pa_cons (pv 6) (pa_cons (pe_callB (call_max2 rfl) (by rfl) T.n_max (by decide +kernel) (pa_cons pe_int (pa_cons (pe_op op_sub (pv 6) (pe_call (ok_law_draw T) (hr.mono (by decide)) (by rfl) T.m_law_draw T.F_law_draw.kp T.b_law_draw .nil pass0 (pa_cons (pv 0) (pa_cons pe_int pa_nil)))) pa_nil))) (pa_cons (pe_op op_add pe_int (pe_call (ok_law_draw T) (hr.mono (by decide)) (by rfl) T.m_law_draw T.F_law_draw.kp T.b_law_draw .nil pass0 (pa_cons (pv 0) (pa_cons (pe_callB (call_min2 rfl) (by rfl) T.n_min (by decide +kernel) (pa_cons (pv 6) (pa_cons pe_int pa_nil))) pa_nil)))) pa_nil))))))
          apply pss_one
          exact (ps_expr (k_bm (K := K) rfl (pe_bm PySem.F.plainAttrs_list PySem.F.slot_list_append PySem.F.type_list_append mt_append (pv 4) (pa_cons (pe_ix (k_ix_list (K := K) rfl) (pv 7) (pv 5) (fun _ _ => rfl)) pa_nil))))
      apply pss_one
      exact (ps_ret (pv 4))
    walk_at "sx"
    refine ⟨sz_ok (by omega), fun f nf => ?_⟩
    have e1 := Ex.new nf (o := .lst [])
    have nfb : f ≠ b := hB.apart nf
    refine ⟨b, 4, c, rfl, by omega, big_of (by omega), hB.ex e1, by omega, fun wy H1 w0 w1 f1 b1 => ?_⟩
    refine ⟨_, _, ⟨rfl, rfl⟩, ?_⟩
    refine ⟨by omega, by omega, ?_⟩
    rw [Int.toNat_natCast]
    refine lg_rng (JPr H b m t c wy) ⟨none, none, none, f, [], rfl, nf, nfb, (Fx.of e1).trans f1, b1, f1 _ _ nfb upd_same, rfl, trivial⟩ (fun i σ' H' hi hP => ?_) (fun σ' H' hP => ?_)
    · obtain ⟨l3, l6, l7, f, L, rfl, nf, nfb, fx, hb, hf, hL, hok⟩ := hP
      simp only [x_gn]
      refine seq_asg (fun v H' => ∃ tp : Nat, v = .int tp ∧ tp = min (L.getLast?.getD 0 + 1) m ∧ Fx b H H' ∧ BagAt H' b (c + 1 + 3 * i) ∧ H' f = some (.lst ((nz L).map V.int))) (fun R hR => ?_) (fun v H2 hC => ?_)
      · walk_at "sx"
        refine ⟨sz_ok (by omega), fun z nz1 => ?_⟩
        have ez := Ex.new nz1 (o := .lst [])
        refine neInts (ms := []) (.inl (.inl (ez _ _ hf))) (.inl (.inl upd_same)) ?_
        walk_at "sx"
        by_cases q : L = []
        · subst q
          rw [decide_eq_true (show nz [] = [] from rfl)]
          rw [if_neg (by decide)]
          refine ⟨_, _, ⟨rfl, rfl⟩, ?_⟩
          refine hR _ _ ⟨1, ?_, by simp; omega, fx.trans (Fx.of ez), hb.ex ez, ez _ _ hf⟩
          congr 1
          split <;> omega
        · have qn : nz L ≠ [] := fun e => q (by unfold nz at e; exact List.map_eq_nil_iff.mp e)
          rw [decide_eq_false qn]
          rw [if_pos (by rfl)]
          have hl : L[L.length - 1]? = some (L.getLast?.getD 0) := by
            rw [List.getLast?_eq_getElem?]
            have : L.length - 1 < L.length := by have := List.length_pos_iff.mpr q; omega
            rw [List.getElem?_eq_getElem this]
            rfl
          refine ixL (.inl (.inl (ez _ _ hf))) (atI_last (by rw [List.length_map, nz_len]; exact nz_at hl)) ?_
          walk_at "sx"
          refine ⟨_, _, ⟨rfl, rfl⟩, ?_⟩
          refine hR _ _ ⟨min (L.getLast?.getD 0 + 1) m, ?_, rfl, fx.trans (Fx.of ez), hb.ex ez, ez _ _ hf⟩
          congr 1
          split <;> omega
      obtain ⟨tp, rfl, htp, fx2, hb2, hf2⟩ := hC
      have tp1 : 1 ≤ tp ∧ tp ≤ 40 := by omega
      walk_at "sx"
      refine ⟨b, _, _, rfl, by omega, big_of (by omega), hb2, by omega, fun r1 H3 r10 r11 f3 b3 => ?_⟩
      walk_at "sx"
      refine ⟨b, _, _, rfl, by omega, big_of (by omega), b3, by omega, fun r2 H4 r20 r21 f4 b4 => ?_⟩
      walk_at "sx"
      refine ⟨_, _, ⟨rfl, rfl⟩, _, _, ⟨rfl, rfl⟩, ?_⟩
      refine ⟨b, _, _, rfl, by split <;> omega, big_of (by split <;> omega), b4, by omega, fun r3 H5 r30 r31 f5 b5 => ?_⟩
      have p3 : r3 < tp := by split at r31 <;> omega
      walk_at "sx"
      refine ⟨sz_ok (by omega), fun z nz1 => ?_⟩
      have mx : (if (tp : Int) - r2 > 1 then (tp : Int) - r2 else 1) ≥ 1 ∧ (if (tp : Int) - r2 > 1 then (tp : Int) - r2 else 1) ≤ tp := by split <;> omega
      have ez := Ex.new nz1 (o := .lst [V.int (1 + r1), V.int tp, V.int (if (tp : Int) - r2 > 1 then (tp : Int) - r2 else 1), V.int (1 + r3)])
      have F5 := ((f3.trans f4).trans f5).trans (Fx.of ez)
      have hf5 := F5 _ _ nfb hf2
      refine ⟨tyL hf5, ?_⟩
      obtain ⟨y, hy, ea⟩ := pickI (ns := [1 + r1, (tp : Int), (if (tp : Int) - r2 > 1 then (tp : Int) - r2 else 1), 1 + r3]) w0 w1
      have py : 1 ≤ y ∧ y ≤ tp := by
        simp only [List.mem_cons, List.mem_nil_iff, or_false] at hy
        rcases hy with rfl | rfl | rfl | rfl <;> omega
      refine ixL (.inl (.inl upd_same)) ea ?_
      refine appL hf5 (BC.sz_lt (by rw [List.length_map, nz_len]; omega)) ?_
      obtain ⟨yn, rfl⟩ : ∃ yn : Nat, y = yn := ⟨y.toNat, by rw [Int.toNat_of_nonneg (by omega)]⟩
      have er : (nz L).map V.int ++ [V.int (yn : Int)] = (nz (L ++ [yn])).map V.int := by unfold nz; rw [List.map_append, List.map_append]; rfl
      rw [er]
      exact ⟨_, _, _, f, L ++ [yn], rfl, nf, nfb, (fx2.trans F5).mut nf, ((b5.ex ez).off nfb).mono (by omega), upd_same, by rw [List.length_append, List.length_singleton, hL], ok_snoc hok (by omega) (by omega)⟩
    · obtain ⟨l3, l6, l7, f, L, rfl, nf, nfb, fx, hb, hf, hL, hok⟩ := hP
      walk_at "sx"
      exact k f L _ nf fx hb hf hL hok
end
end LW

set_option Elab.async false
set_option linter.all false
set_option maxRecDepth 100000
set_option maxHeartbeats 4000000
namespace LW
open PySem PySem.Spec PyProof.Rows L2 BC Evl TR LN VS FM

local macro_rules | `(tactic| walk_at "sx") => `(tactic| try simp only [x_seq, x_next, x_brk, x_cnt, x_nev, x_ret, x_retN, x_drop, x_ifS, x_asg, x_gn, x_gsub, x_par, x_par3, x_aug, x_for, x_lc, x_rng1, x_rng2, x_rng3, x_ilist, x_itup, x_ienum, x_izip, x_izipA, x_istr, x_var, x_c, x_op, x_un, x_test, x_b, x_chain, x_and, x_or, x_not, x_andV, x_orV, x_notV, x_ife, x_nil, x_cons, x_lst, x_tup, x_cb, x_call, x_callK, x_bm, x_bm0, x_tru, x_sl, x_nopart, x_part, x_revL, x_I0, x_I, x_U, x_ip, x_ipC, x_eqI, x_neI, x_eqB, x_neB, x_eqS, x_neS, x_isB, x_isNB, x_lrg, x_gall, x_rg1, x_rg2,
  L2.start, List.map_cons, List.map_nil, List.length_cons, List.length_nil, Nat.reduceAdd, Nat.reduceSub, Nat.sub_self, Nat.zero_add, List.replicate, List.replicate_succ, List.replicate_zero, List.append_nil, List.cons_append, List.nil_append, List.set_cons_zero, List.set_cons_succ, List.getElem?_cons_zero, List.getElem?_cons_succ, Option.some.injEq, V.int.injEq, V.bl.injEq, V.ref.injEq, V.str.injEq, List.cons.injEq, and_true, true_and, exists_eq_left', exists_eq_left, exists_and_left, exists_eq, if_true, if_false, ite_true, ite_false, Bool.true_eq_false, Bool.false_eq_true, reduceIte, reduceCtorEq, Bool.not_true, Bool.not_false, decide_true, decide_false, decide_eq_true_eq, Bool.and_true, Bool.true_and, Bool.and_self, Bool.and_false, Bool.false_and, Bool.or_self, Bool.or_false, Bool.false_or, Bool.or_true, Bool.true_or, eq_self])

/-! ### the law's own trails -/
section
variable {P : Program} {w : World} {K : PySem.W.Frag} {mg : Str → Option Value} {base : Heap}
theorem ok_law_after (T : Txt K mg) : FnOk P w K mg base CX0 1 T.f_law_after T.fd_law_after ["_law_trail_here", "_law_page_here"] (spVisited K) := by
  refine T.F_law_after.ok sc_law_after (fun vs H Q E h => ?_) (fun cdv A outer s H vs Q E hr h => ?_)
  · obtain ⟨a, t, p, rfl, _⟩ := h
    rfl
  · obtain ⟨a, t, p, rfl, hA, hl, k⟩ := h
    apply Exists.intro
    apply And.intro
    · apply pss_cons
      · apply ps_if
        · exact (pt_cmpR (k_in (K := K) rfl) (pv 1) (pv 0) (by rfl))
        · apply pss_one
          exact (ps_ret (pe_slice (k_sl_list (K := K) rfl) (pv 0) po_none (po_some (pe_op op_add (k_bm (K := K) rfl (pe_bm PySem.F.plainAttrs_list PySem.F.slot_list_index PySem.F.type_list_index (k_index (K := K) rfl) (pv 0) (pa_cons (pv 1) pa_nil))) pe_int))))
        · exact pss_nil
      apply pss_one
      exact (ps_ret (pe_op op_cat (pv 0) (pe_lst (pa_cons (pv 1) pa_nil))))
    walk_at "sx"
    refine inL (.inl (.inl hA)) ?_
    walk_at "sx"
    by_cases m : p ∈ t
    · have hi := List.idxOf_lt_length_of_mem m
      simp only [m]
      walk_at "sx"
      refine ⟨tyL hA, ?_⟩
      refine idxL (.inl (.inl hA)) m ?_
      walk_at "sx"
      refine slL (.inl (.inl hA)) fun r nr => ?_
      refine k r _ nr (Ex.new nr) ?_
      rw [upd_same, cut_to (j := t.idxOf p + 1) _ (by omega) (by rw [List.length_map]; omega)]
      unfold vis
      rw [if_pos m, List.map_take]
    · simp only [m]
      walk_at "sx"
      refine ⟨sz_ok (by omega), fun z nz => ?_⟩
      have e1 := Ex.new nz (o := .lst [V.int p])
      refine catL (e1 _ _ hA) upd_same (sz_ok (by rw [List.length_map, List.length_singleton]; omega)) fun r nr => ?_
      refine k r _ (fresh_back e1 nr) (e1.trans (Ex.new nr)) ?_
      rw [upd_same]
      unfold vis
      rw [if_neg m, List.map_append]
      rfl
def JS (H : Hp) (a : Addr) (ns : List Int) (i : Nat) (σ' : L2.St) (H' : Hp) : Prop := ∃ l1 t q, σ' = [some (.ref a), l1, some (.ref q), some (.ref t)] ∧ H q = none ∧ t ≠ q ∧ Ex H H' ∧ H' t = some (.lst ((trl (ns.take i)).map V.int)) ∧ H' q = some (.lst (((lens ns).map V.int).take i))
theorem ok_law_sizes (T : Txt K mg) : FnOk P w K mg base CX0 2 T.f_law_sizes T.fd_law_sizes ["_law_row_here"] (spLensIn K) := by
  refine T.F_law_sizes.ok sc_law_sizes (fun vs H Q E h => ?_) (fun cdv A outer s H vs Q E hr h => ?_)
  · obtain ⟨a, ns, rfl, _⟩ := h
    rfl
  · obtain ⟨a, ns, rfl, hA, hl, k⟩ := h
    apply Exists.intro
    apply And.intro
    · apply pss_cons
      · exact (ps_par (i := 2) (j := 3) (by rfl) sc_law_sizes.nd rfl rfl (by decide) rfl rfl (pa_cons (pe_lst pa_nil) (pa_cons (pe_lst pa_nil) pa_nil)) (by rfl))
      apply pss_cons
      · apply ps_for PassesOwn.never rfl
        · exact (k_pi_list (K := K) rfl (pv 0))
        · exact (pg_name (i := 1) sc_law_sizes.nd rfl (.inl rfl))
        · apply pss_cons
          · exact (ps_set (i := 3) sc_law_sizes.nd rfl (.inl rfl) (pe_call (ok_law_after T) (hr.mono (by decide)) (by rfl) T.m_law_after T.F_law_after.kp T.b_law_after .nil pass0 (pa_cons (pv 3) (pa_cons (pv 1) pa_nil))))
          apply pss_one
          exact (ps_expr (k_bm (K := K) rfl (pe_bm PySem.F.plainAttrs_list PySem.F.slot_list_append PySem.F.type_list_append mt_append (pv 2) (pa_cons (pe_callB (k_len (K := K) rfl) (by rfl) T.n_len PySem.boot_len (pa_cons (pv 3) pa_nil)) pa_nil))))
      apply pss_one
      exact (ps_ret (pv 2))
    walk_at "sx"
    refine ⟨sz_ok (by omega), fun q nq => ⟨sz_ok (by omega), fun t nt => ?_⟩⟩
    refine ⟨_, _, ⟨rfl, rfl⟩, ?_⟩
    have e1 := Ex.new nq (o := .lst [])
    have e2 := e1.trans (Ex.new nt (o := .lst []))
    have nqt : q ≠ t := ne_of_none upd_same nt
    refine ⟨⟨_, ex_l e2 hA⟩, ?_⟩
    refine lg_list (xs := ns.map V.int) (JS H a ns) ⟨none, t, q, rfl, nq, Ne.symm nqt, e2, by rw [upd_same]; rfl, by rw [upd_ne nqt, upd_same]; rfl⟩ (fun i σ' H' _ hP => by obtain ⟨_, _, _, _, _, _, e, _⟩ := hP; exact ex_l e hA)
      (fun i x σ' H' hx hP => ?_) (fun σ' H' hP => ?_)
    · obtain ⟨l1, t, q, rfl, nq, tq, e, ht, hq⟩ := hP
      obtain ⟨n, hn, rfl⟩ := ints_at hx
      have hi : i < ns.length := by
        rw [List.getElem?_eq_some_iff] at hn
        exact hn.1
      have ht1 : (trl (ns.take i)).length ≤ 300 := by
        have := trl_le (ns.take i) []
        rw [List.length_take] at this
        show ((ns.take i).foldl vis []).length ≤ 300
        simp only [List.length_nil] at this
        omega
      walk_at "sx"
      refine ⟨t, _, n, rfl, ht, by omega, fun r H1 nr e3 hr => ?_⟩
      have hq1 := e3 _ _ hq
      walk_at "sx"
      refine ⟨tyL hq1, ?_⟩
      refine lenL (.inl (.inl hr)) ?_
      refine appL hq1 (BC.sz_lt (by rw [List.length_take]; omega)) ?_
      rw [← trl_snoc hn, List.length_map]
      have hrq : r ≠ q := fun z => by
        subst z
        rw [hq] at nr
        cases nr
      refine ⟨_, r, q, rfl, nq, hrq, (e.trans e3).mut nq, by rw [upd_ne hrq, hr, ← trl_snoc hn], ?_⟩
      rw [upd_same, take_succ (at_ints (lens_at hi))]
    · obtain ⟨l1, t, q, rfl, nq, tq, e, ht, hq⟩ := hP
      walk_at "sx"
      refine k q _ nq e ?_
      rw [hq, List.take_of_length_le (by rw [List.length_map, List.length_map, lens_len]; omega)]
end
section
variable {P : Program} {w : World} {K : PySem.W.Frag} {mg : Str → Option Value} {base : Heap}
/-- drawn visits -/
def spPages : Sp := fun vs H Q _ => ∃ (b : Addr) (m t c : Nat), vs = [.ref b, .int m, .int t] ∧ 1 ≤ m ∧ m ≤ 40 ∧ t ≤ 300 ∧ BagAt H b c ∧ c ≤ 900000 ∧
  ∀ r (ns : List Int) H', H r = none → Fx b H H' → BagAt H' b (c + 1 + 8 * t) → H' r = some (.lst (ns.map V.int)) → ns.length = t → Pg m ns → Q (.ref r) H'
def JP (H : Hp) (b : Addr) (m t c : Nat) (wy : Int) (i : Nat) (σ' : L2.St) (H' : Hp) : Prop := ∃ l3 l7 l8 l9 l10 l11 f g ns tr, σ' = [some (.ref b), some (.int m), some (.int t), l3, some (.ref f), some (.ref g), some (.int wy), l7, l8, l9, l10, l11] ∧
  H f = none ∧ f ≠ b ∧ g ≠ b ∧ f ≠ g ∧ Fx b H H' ∧ BagAt H' b (c + 1 + 8 * i) ∧ H' f = some (.lst (ns.map V.int)) ∧ H' g = some (.lst (tr.map V.int)) ∧ ns.length = i ∧ Pg m ns ∧ Pg m tr ∧ tr.length ≤ i
theorem ok_law_pages (T : Txt K mg) : FnOk P w K mg base CX0 2 T.f_law_pages T.fd_law_pages ["_law_bag_here", "_law_wide", "_law_long"] spPages := by
  refine T.F_law_pages.ok sc_law_pages (fun vs H Q E h => ?_) (fun cdv A outer s H vs Q E hr h => ?_)
  · obtain ⟨b, m, t, c, rfl, _⟩ := h
    rfl
  · obtain ⟨b, m, t, c, rfl, h1, h2, h3, hB, hc, k⟩ := h
    apply Exists.intro
    apply And.intro
    · apply pss_cons
      · exact (ps_asg (pe_tup (pa_cons (pe_lst pa_nil) (pa_cons (pe_lst pa_nil) (pa_cons (pe_call (ok_law_draw T) (hr.mono (by decide)) (by rfl) T.m_law_draw T.F_law_draw.kp T.b_law_draw .nil pass0 (pa_cons (pv 0) (pa_cons pe_int pa_nil))) pa_nil)))) (k_tup (K := K) (n := 3) rfl rfl (pgs_cons (pg_name (i := 4) sc_law_pages.nd rfl (.inl rfl)) (pgs_cons (pg_name (i := 5) sc_law_pages.nd rfl (.inr rfl)) (pgs_cons (pg_name (i := 6) sc_law_pages.nd rfl (.inl rfl)) pgs_nil)))))
      apply pss_cons
      · apply ps_for PassesOwn.never rfl
        · exact (pi_range1 (by rfl) T.n_range (pa_cons (pv 2) pa_nil))
        · exact (pg_name (i := 3) sc_law_pages.nd rfl (.inl rfl))
        · apply pss_cons
          · exact (ps_setLc (i := 7) (own := [("_law_one", 11)]) rfl sc_law_pages.nd rfl rfl (sw_true rfl rfl rfl (by decide +kernel)) (pi_range1 (by rfl) T.n_range (pa_cons (pv 1) pa_nil)) (blkOk_by (own := [("_law_one", 11)]) (N := ["_law_bag_here", "_law_wide", "_law_long", "_law_turn", "_law_found", "_law_trail_here", "_law_way", "_law_fresh", "_law_new", "_law_old", "_law_some", "_law_one"]) (sc := defScope s_law_pages) (by decide +kernel)) (fun _ _ _ _ _ => by exact (pg_name (i := 11) sc_law_pages.nd rfl (.inl rfl))) (fun _ _ _ _ _ => by exact (pts_one (pt_cmpR (k_notIn (K := K) rfl) (pv 11) (pv 5) (by rfl)))) (fun _ _ _ _ _ => by exact (pv 11)))
          apply pss_cons
          · exact (ps_set (i := 8) sc_law_pages.nd rfl (.inl rfl) (pe_ifExp (pt_cmpR (k_neD (K := K) rfl hr.units) (pv 7) (pe_lst pa_nil) (by rfl)) (pe_ix (k_ix_list (K := K) rfl) (pv 7) (pe_call (ok_law_draw T) (hr.mono (by decide)) (by rfl) T.m_law_draw T.F_law_draw.kp T.b_law_draw .nil pass0 (pa_cons (pv 0) (pa_cons (pe_callB (k_len (K := K) rfl) (by rfl) T.n_len PySem.boot_len (pa_cons (pv 7) pa_nil)) pa_nil))) (fun _ _ => rfl)) (pe_ix (k_ix_list (K := K) rfl) (pv 5) pe_int (fun _ _ => rfl))))
          apply pss_cons
          · exact (ps_set (i := 9) sc_law_pages.nd rfl (.inl rfl) (pe_ifExp (pt_cmpR (k_neD (K := K) rfl hr.units) (pv 5) (pe_lst pa_nil) (by rfl)) (pe_ix (k_ix_list (K := K) rfl) (pv 5) (pe_call (ok_law_draw T) (hr.mono (by decide)) (by rfl) T.m_law_draw T.F_law_draw.kp T.b_law_draw .nil pass0 (pa_cons (pv 0) (pa_cons (pe_callB (k_len (K := K) rfl) (by rfl) T.n_len PySem.boot_len (pa_cons (pv 5) pa_nil)) pa_nil))) (fun _ _ => rfl)) (pv 8)))
          apply pss_cons
          · exact (ps_set (i := 10) sc_law_pages.nd rfl (.inl rfl) (pe_lst (pa_cons (pe_call (ok_law_draw T) (hr.mono (by decide)) (by rfl) T.m_law_draw T.F_law_draw.kp T.b_law_draw .nil pass0 (pa_cons (pv 0) (pa_cons (pv 1) pa_nil))) (pa_cons (pe_ix (k_ix_list (K := K) rfl) (pe_lst (pa_cons (pv 8) (pa_cons (pv 8) (pa_cons (pv 8) (pa_cons (pv 9) pa_nil))))) (pe_call (ok_law_draw T) (hr.mono (by decide)) (by rfl) T.m_law_draw T.F_law_draw.kp T.b_law_draw .nil pass0 (pa_cons (pv 0) (pa_cons pe_int pa_nil))) (fun _ _ => rfl)) (pa_cons (pe_ix (k_ix_list (K := K) rfl) (pe_lst (pa_cons (pv 8) (pa_cons (pv 9) pa_nil))) (pe_call (ok_law_draw T) (hr.mono (by decide)) (by rfl) T.m_law_draw T.F_law_draw.kp T.b_law_draw .nil pass0 (pa_cons (pv 0) (pa_cons pe_int pa_nil))) (fun _ _ => rfl)) pa_nil)))))
          apply pss_cons
          · exact (ps_set (i := 11) sc_law_pages.nd rfl (.inl rfl) (pe_ix (k_ix_list (K := K) rfl) (pe_op op_cat (pv 10) (pe_lst (pa_cons (pe_call (ok_law_draw T) (hr.mono (by decide)) (by rfl) T.m_law_draw T.F_law_draw.kp T.b_law_draw .nil pass0 (pa_cons (pv 0) (pa_cons (pe_callB (call_min2 rfl) (by rfl) T.n_min (by decide +kernel) (pa_cons (pv 1) (pa_cons pe_int pa_nil))) pa_nil))) pa_nil))) (pv 6) (fun _ _ => rfl)))
          apply pss_cons
          · exact (ps_expr (k_bm (K := K) rfl (pe_bm PySem.F.plainAttrs_list PySem.F.slot_list_append PySem.F.type_list_append mt_append (pv 4) (pa_cons (pv 11) pa_nil))))
          apply pss_one
          exact (ps_set (i := 5) sc_law_pages.nd rfl (.inr rfl) (pe_call (ok_law_after T) (hr.mono (by decide)) (by rfl) T.m_law_after T.F_law_after.kp T.b_law_after .nil pass0 (pa_cons (pv 5) (pa_cons (pv 11) pa_nil))))
      apply pss_one
      exact (ps_ret (pv 4))
    walk_at "sx"
    refine ⟨sz_ok (by omega), fun f nf => ⟨sz_ok (by omega), fun g ng => ?_⟩⟩
    have e1 := Ex.new nf (o := .lst [])
    have e2 := e1.trans (Ex.new ng (o := .lst []))
    have nfg : f ≠ g := ne_of_none upd_same ng
    have nfb : f ≠ b := hB.apart nf
    have ngb : g ≠ b := (hB.ex e1).apart ng
    refine ⟨b, 4, c, rfl, by omega, big_of (by omega), hB.ex e2, by omega, fun wy H1 w0 w1 f1 b1 => ?_⟩
    refine ⟨sz_ok (by simp), fun p np => g_three upd_same ?_⟩
    have x0 := Ex.new np (o := .tup [V.ref f, V.ref g, V.int wy])
    walk_at "sx"
    refine ⟨by omega, by omega, ?_⟩
    rw [Int.toNat_natCast]
    refine lg_rng (JP H b m t c wy) ⟨none, none, none, none, none, none, f, g, [], [], rfl, nf, nfb, ngb, nfg, ((Fx.of e2).trans f1).trans (Fx.of x0), b1.ex x0, x0 _ _ (f1 _ _ nfb (by rw [upd_ne nfg, upd_same]; rfl)), x0 _ _ (f1 _ _ ngb (by rw [upd_same]; rfl)), rfl, pg_nil _, pg_nil _, Nat.le_refl _⟩ (fun i σ' H' hi hP => ?_) (fun σ' H' hP => ?_)
    · obtain ⟨l3, l7, l8, l9, l10, l11, f, g, ns, tr, rfl, nf, nfb, ngb, nfg, fx, hb, hf, hg, hn, pn, pt, ht⟩ := hP
      walk_at "sx"
      refine ⟨by omega, by omega, fun D nD => ?_⟩
      rw [Int.toNat_natCast]
      refine lc_rng (lo := 0) (n := m) (fun i => !decide (((i : Nat) : Int) ∈ tr)) (fun i => V.int ((i : Nat) : Int)) nD (by omega) (fun u => rfl) (fun i hi => ?_) (fun i hi _ => by rw [show (0 : Int) + i = (i : Int) by omega]; exact ev_var rfl) (fun H2 e2 hD => ?_)
      · refine et_is (et_test (ev_op (ev_var rfl) (ev_var rfl) (rv_niL (.inl (.inl hg)) rfl (flat_ints tr)))) ?_
        rw [inV_ints, show (0 : Int) + i = (i : Int) by omega]
      · obtain ⟨fr, ef, m1, m2⟩ := kept_ints m (fun i => !decide (((i : Nat) : Int) ∈ tr)) (fun i => ((i : Nat) : Int))
        rw [ef] at hD
        have pf : Pg m fr := fun x hx => by
          obtain ⟨i, a, _, rfl⟩ := m1 x hx
          omega
        have tne : fr = [] → (0 : Int) ∈ tr := fun e => by
          have := m2 e 0 (by omega)
          simpa using this
        have nDb : D ≠ b := hb.apart nD
        have hf2 := e2 _ _ hf
        have hg2 := e2 _ _ hg
        have hb2 := hb.ex e2
        have fx2 := fx.trans (Fx.of e2)
        refine ⟨sz_ok (by omega), fun z1 nz1 => ?_⟩
        have x1 := Ex.new nz1 (o := .lst [])
        refine neInts (ms := []) (.inl (.inl (x1 _ _ hD))) (.inl (.inl upd_same)) ?_
        walk_at "sx"
        -- the new page
        have hnew : ∀ (R : V → Hp → Prop), (∀ (v : Int) (H3 : Hp), 0 ≤ v → v < m → Fx b H2 H3 → BagAt H3 b (c + 1 + 8 * i + 1) → R (.int v) H3) → (if (!decide (fr = [])) = true then BC.rLen K [V.ref D] (upd H2 z1 (.lst [])) (fun x H3 => spDraw [V.ref b, x] H3 (fun y H3 => rIxL K (.ref D) y H3 R) E0) else rIxL K (.ref g) (.int 0) (upd H2 z1 (.lst [])) R) := fun R hR => by
          by_cases q : fr = []
          · rw [decide_eq_true q]
            have t0 := tne q
            have tl : 0 < tr.length := List.length_pos_of_mem t0
            have t1 : tr[0]? = some tr[0] := List.getElem?_eq_getElem tl
            obtain ⟨a0, a1⟩ := pt.at t1
            rw [if_neg (by decide)]
            exact ixL (.inl (.inl (x1 _ _ hg2))) (atI_n (j := 0) rfl (at_ints t1)) (hR _ _ a0 a1 (Fx.of x1) ((hb2.ex x1).mono (by omega)))
          · rw [decide_eq_false q]
            have fl : 0 < fr.length := List.length_pos_iff.mpr q
            have fl2 : fr.length ≤ m := by
              have := kept_len m (fun i => !decide (((i : Nat) : Int) ∈ tr)) (fun i => V.int ((i : Nat) : Int))
              rw [ef, List.length_map] at this
              exact this
            rw [if_pos (by rfl)]
            refine lenL (.inl (.inl (x1 _ _ hD))) ?_
            rw [List.length_map]
            refine ⟨b, _, _, rfl, by omega, big_of (by omega), hb2.ex x1, by omega, fun r H3 r0 r1 f3 b3 => ?_⟩
            obtain ⟨v, hv, ea⟩ := pickI (ns := fr) r0 r1
            obtain ⟨a0, a1⟩ := pf v hv
            exact ixL (.inl (.inl (f3 _ _ nDb (x1 _ _ hD)))) ea (hR _ _ a0 a1 ((Fx.of x1).trans f3) b3)
        refine hnew _ fun v H3 v0 v1 f3 b3 => ?_
        have fx3 := fx2.trans f3
        have hf3 := f3 _ _ nfb hf2
        have hg3 := f3 _ _ ngb hg2
        refine ⟨sz_ok (by omega), fun z2 nz2 => ?_⟩
        have x2 := Ex.new nz2 (o := .lst [])
        refine neInts (ms := []) (.inl (.inl (x2 _ _ hg3))) (.inl (.inl upd_same)) ?_
        walk_at "sx"
        have hold : ∀ (R : V → Hp → Prop), (∀ (u : Int) (H4 : Hp), 0 ≤ u → u < m → Fx b H3 H4 → BagAt H4 b (c + 1 + 8 * i + 2) → R (.int u) H4) → (if (!decide (tr = [])) = true then BC.rLen K [V.ref g] (upd H3 z2 (.lst [])) (fun x H3 => spDraw [V.ref b, x] H3 (fun y H3 => rIxL K (.ref g) y H3 R) E0) else R (.int v) (upd H3 z2 (.lst []))) := fun R hR => by
          by_cases q : tr = []
          · rw [decide_eq_true q]
            rw [if_neg (by decide)]
            exact hR _ _ v0 v1 (Fx.of x2) ((b3.ex x2).mono (by omega))
          · rw [decide_eq_false q]
            have fl : 0 < tr.length := List.length_pos_iff.mpr q
            rw [if_pos (by rfl)]
            refine lenL (.inl (.inl (x2 _ _ hg3))) ?_
            rw [List.length_map]
            refine ⟨b, _, _, rfl, by omega, big_of (by omega), b3.ex x2, by omega, fun r H4 r0 r1 f4 b4 => ?_⟩
            obtain ⟨u, hu, ea⟩ := pickI (ns := tr) r0 r1
            obtain ⟨a0, a1⟩ := pt u hu
            exact ixL (.inl (.inl (f4 _ _ ngb (x2 _ _ hg3)))) ea (hR _ _ a0 a1 ((Fx.of x2).trans f4) b4)
        refine hold _ fun u H4 u0 u1 f4 b4 => ?_
        refine ⟨b, _, _, rfl, by omega, big_of (by omega), b4, by omega, fun r1 H5 r10 r11 f5 b5 => ?_⟩
        refine ⟨sz_ok (by omega), fun z3 nz3 => ?_⟩
        have x3 := Ex.new nz3 (o := .lst [V.int v, V.int v, V.int v, V.int u])
        refine ⟨b, _, _, rfl, by omega, big_of (by omega), b5.ex x3, by omega, fun r2 H6 r20 r21 f6 b6 => ?_⟩
        obtain ⟨y2, hy2, ea2⟩ := pickI (ns := [v, v, v, u]) r20 r21
        have p2 : 0 ≤ y2 ∧ y2 < m := by
          simp only [List.mem_cons, List.mem_nil_iff, or_false] at hy2
          omega
        refine ixL (.inl (.inl (f6 _ _ (b5.apart nz3) upd_same))) ea2 ?_
        refine ⟨sz_ok (by omega), fun z4 nz4 => ?_⟩
        have x4 := Ex.new nz4 (o := .lst [V.int v, V.int u])
        refine ⟨b, _, _, rfl, by omega, big_of (by omega), b6.ex x4, by omega, fun r3 H7 r30 r31 f7 b7 => ?_⟩
        obtain ⟨y3, hy3, ea3⟩ := pickI (ns := [v, u]) r30 r31
        have p3 : 0 ≤ y3 ∧ y3 < m := by
          simp only [List.mem_cons, List.mem_nil_iff, or_false] at hy3
          omega
        refine ixL (.inl (.inl (f7 _ _ (b6.apart nz4) upd_same))) ea3 ?_
        refine ⟨sz_ok (by omega), fun z5 nz5 => ?_⟩
        have x5 := Ex.new nz5 (o := .lst [V.int r1, V.int y2, V.int y3])
        refine ⟨_, _, ⟨rfl, rfl⟩, ?_⟩
        refine ⟨b, _, _, rfl, by split <;> omega, big_of (by split <;> omega), b7.ex x5, by omega, fun r4 H8 r40 r41 f8 b8 => ?_⟩
        have p4 : r4 < m := by split at r41 <;> omega
        have hz5 := f8 _ _ (b7.apart nz5) upd_same
        refine ⟨sz_ok (by omega), fun z6 nz6 => ?_⟩
        have x6 := Ex.new nz6 (o := .lst [V.int r4])
        refine catL (x6 _ _ hz5) upd_same (sz_ok (by simp)) fun z7 nz7 => ?_
        have x7 := Ex.new nz7 (o := .lst ([V.int r1, V.int y2, V.int y3] ++ [V.int r4]))
        obtain ⟨y4, hy4, ea4⟩ := pickI (ns := [r1, y2, y3, r4]) w0 w1
        have p5 : 0 ≤ y4 ∧ y4 < m := by
          simp only [List.mem_cons, List.mem_nil_iff, or_false] at hy4
          omega
        refine ixL (xs := [V.int r1, V.int y2, V.int y3, V.int r4]) (.inl (.inl upd_same)) ea4 ?_
        walk_at "sx"
        have F8 := (((((f4.trans f5).trans (Fx.of x3)).trans f6).trans (Fx.of x4)).trans f7).trans (Fx.of x5)
        have F9 := ((F8.trans f8).trans (Fx.of x6)).trans (Fx.of x7)
        have hf9 := F9 _ _ nfb hf3
        have hg9 := F9 _ _ ngb hg3
        have b9 := (b8.ex x6).ex x7
        refine ⟨tyL hf9, ?_⟩
        refine appL hf9 (BC.sz_lt (by rw [List.length_map]; omega)) ?_
        have fx9 := fx3.trans F9
        refine ⟨g, tr, y4, rfl, by rw [upd_ne (Ne.symm nfg)]; exact hg9, by omega, fun g2 H10 ng2 e10 hg2' => ?_⟩
        have hf10 := e10 _ _ upd_same
        have nfg2 : f ≠ g2 := ne_of_none upd_same ng2
        have b10 : BagAt H10 b (c + 1 + 8 * (i + 1)) := by
          obtain ⟨q0, q1, q2, qb, qr⟩ := b9.mono (show _ ≤ c + 1 + 8 * (i + 1) by omega)
          exact ⟨q0, q1, q2, e10 _ _ (by rw [upd_ne (Ne.symm nfb)]; exact qb), qr⟩
        have ngb2 : g2 ≠ b := fun z => by
          subst z
          obtain ⟨q0, q1, q2, qb, qr⟩ := b9
          rw [upd_ne (Ne.symm nfb)] at ng2
          have z2 := qb.symm.trans ng2
          cases z2
        have fx10 : Fx b H H10 := fun a o na h => e10 _ _ (by rw [upd_ne (ne_of_none h nf)]; exact fx9 _ _ na h)
        refine ⟨_, _, _, _, _, _, f, g2, ns ++ [y4], vis tr y4, rfl, nf, nfb, ngb2, nfg2, fx10, b10, by rw [List.map_append]; exact hf10, hg2', by rw [List.length_append, List.length_singleton, hn], fun x hx => ?_, vis_pg pt p5.1 p5.2, ?_⟩
        · rcases List.mem_append.mp hx with hx | hx
          · exact pn x hx
          · rw [List.mem_singleton.mp hx]; exact p5
        · have := vis_le tr y4
          omega
    · obtain ⟨l3, l7, l8, l9, l10, l11, f, g, ns, tr, rfl, nf, nfb, ngb, nfg, fx, hb, hf, hg, hn, pn, pt, ht⟩ := hP
      walk_at "sx"
      exact k f ns _ nf fx hb hf hn pn
end
section
variable {P : Program} {w : World} {K : PySem.W.Frag} {mg : Str → Option Value} {base : Heap}
def spFalse : Sp := fun _ _ _ _ => False
def spEq (K : PySem.W.Frag) (n : Nat) : Sp := fun vs H Q _ => ∃ (x y : V) (d : PyData), vs = [x, y] ∧ Dp K H x d ∧ Dp K H y d ∧ Sh n d ∧ ∀ H', Ex H H' → Q (.bl true) H'
theorem eq_base (T : Txt K mg) : FnOk P w K mg base CX0 0 T.f_law_equal T.fd_law_equal ["_law_found", "_law_due"] spFalse :=
  ⟨fun _ _ _ _ h => h.elim, fun _ _ _ _ _ _ _ _ _ _ _ _ _ h => h.elim⟩
theorem eq_step (T : Txt K mg) {lv n : Nat} {sp0 : Sp} (hsp : n = 0 ∨ ∃ n', n = n' + 1 ∧ sp0 = spEq K n') (G : FnOk P w K mg base CX0 lv T.f_law_equal T.fd_law_equal ["_law_found", "_law_due"] sp0) :
    FnOk P w K mg base CX0 (lv + 1) T.f_law_equal T.fd_law_equal ["_law_found", "_law_due"] (spEq K n) := by
  refine T.F_law_equal.ok sc_law_equal (fun vs H Q E h => ?_) (fun cdv A outer s H vs Q E hr h => ?_)
  · obtain ⟨x, y, d, rfl, _⟩ := h
    rfl
  · obtain ⟨x, y, d, rfl, hx, hy, hs, k⟩ := h
    apply Exists.intro
    apply And.intro
    · apply pss_cons
      · apply ps_if
        · exact (pt_val (pe_callB (k_isiT (K := K) rfl) (by rfl) T.n_isinstance (by decide +kernel) (pa_cons (pv 1) (pa_cons (pe_tup (pa_cons (pe_bltn (v := .ty "list") (by rfl) T.n_list (by decide +kernel) rfl) (pa_cons (pe_bltn (v := .ty "tuple") (by rfl) T.n_tuple (by decide +kernel) rfl) pa_nil))) pa_nil))))
        · apply pss_cons
          · apply ps_if
            · exact (PW.pt (pw_or (pt_cmpR op_ne (pe_callB (k_isi (K := K) rfl) (by rfl) T.n_isinstance (by decide +kernel) (pa_cons (pv 0) (pa_cons (pe_bltn (v := .ty "list") (by rfl) T.n_list (by decide +kernel) rfl) pa_nil))) (pe_callB (k_isi (K := K) rfl) (by rfl) T.n_isinstance (by decide +kernel) (pa_cons (pv 1) (pa_cons (pe_bltn (v := .ty "list") (by rfl) T.n_list (by decide +kernel) rfl) pa_nil))) (by rfl)) (pw_or1 (pt_cmpR op_ne (pe_callB (k_isi (K := K) rfl) (by rfl) T.n_isinstance (by decide +kernel) (pa_cons (pv 0) (pa_cons (pe_bltn (v := .ty "tuple") (by rfl) T.n_tuple (by decide +kernel) rfl) pa_nil))) (pe_callB (k_isi (K := K) rfl) (by rfl) T.n_isinstance (by decide +kernel) (pa_cons (pv 1) (pa_cons (pe_bltn (v := .ty "tuple") (by rfl) T.n_tuple (by decide +kernel) rfl) pa_nil))) (by rfl)))))
            · apply pss_one
              exact (ps_ret pe_bl)
            · exact pss_nil
          apply pss_one
          exact (ps_ret (pe_and (pe_cmpR op_eq (pe_callB (k_len (K := K) rfl) (by rfl) T.n_len PySem.boot_len (pa_cons (pv 0) pa_nil)) (pe_callB (k_len (K := K) rfl) (by rfl) T.n_len PySem.boot_len (pa_cons (pv 1) pa_nil)) (by rfl)) (pe_one (pe_callB (k_all (K := K) rfl rfl) (by rfl) T.n_all (by decide +kernel) (pa_cons (pe_lc (own := [("_law_one", 2), ("_law_two", 3)]) rfl sc_law_equal.nd (k_pi_zipA (K := K) rfl (by rfl) T.n_zip (pa_cons (pv 0) (pa_cons (pv 1) pa_nil))) (blkOk_by (own := [("_law_one", 2), ("_law_two", 3)]) (N := ["_law_found", "_law_due", "_law_one", "_law_two"]) (sc := defScope s_law_equal) (by decide +kernel)) (fun _ _ _ _ _ => by exact (k_tup (K := K) (n := 2) rfl rfl (pgs_cons (pg_name (i := 2) sc_law_equal.nd rfl (.inl rfl)) (pgs_cons (pg_name (i := 3) sc_law_equal.nd rfl (.inl rfl)) pgs_nil)))) (fun _ _ _ _ _ => by exact pts_nil) (fun _ _ _ _ _ => by exact (pe_call G hr (by rfl) T.m_law_equal T.F_law_equal.kp T.b_law_equal .nil pass0 (pa_cons (pv 2) (pa_cons (pv 3) pa_nil))))) pa_nil)))))
        · exact pss_nil
      apply pss_cons
      · apply ps_if
        · exact (PW.pt (pw_or (pt_cmpR op_isN (pv 1) pe_non (by rfl)) (pw_or1 (pt_val (pe_callB (k_isiT (K := K) rfl) (by rfl) T.n_isinstance (by decide +kernel) (pa_cons (pv 1) (pa_cons (pe_tup (pa_cons (pe_bltn (v := .ty "bool") (by rfl) T.n_bool (by decide +kernel) rfl) (pa_cons (pe_bltn (v := .ty "str") (by rfl) T.n_str (by decide +kernel) rfl) pa_nil))) pa_nil)))))))
        · apply pss_one
          exact (ps_ret (pe_and (pe_cmpR op_eq (pv 0) (pv 1) (by rfl)) (pe_one (pe_cmpR op_eq (pe_callB (k_isi (K := K) rfl) (by rfl) T.n_isinstance (by decide +kernel) (pa_cons (pv 0) (pa_cons (pe_bltn (v := .ty "bool") (by rfl) T.n_bool (by decide +kernel) rfl) pa_nil))) (pe_callB (k_isi (K := K) rfl) (by rfl) T.n_isinstance (by decide +kernel) (pa_cons (pv 1) (pa_cons (pe_bltn (v := .ty "bool") (by rfl) T.n_bool (by decide +kernel) rfl) pa_nil))) (by rfl)))))
        · exact pss_nil
      apply pss_one
      exact (ps_ret (pe_and (pe_callB (k_isi (K := K) rfl) (by rfl) T.n_isinstance (by decide +kernel) (pa_cons (pv 0) (pa_cons (pe_bltn (v := .ty "int") (by rfl) T.n_int (by decide +kernel) rfl) pa_nil))) (pe_and (pe_not (pe_callB (k_isi (K := K) rfl) (by rfl) T.n_isinstance (by decide +kernel) (pa_cons (pv 0) (pa_cons (pe_bltn (v := .ty "bool") (by rfl) T.n_bool (by decide +kernel) rfl) pa_nil)))) (pe_one (pe_cmpR op_eq (pv 0) (pv 1) (by rfl))))))
    walk_at "sx"
    refine ⟨sz_ok (by omega), fun p np => ?_⟩
    have e1 := Ex.new np (o := .tup [V.ty "list", V.ty "tuple"])
    have ty := tyx_d (ex_d e1 _ _ hy)
    have tx := tyx_d (ex_d e1 _ _ hx)
    cases hs with
    | non n =>
      simp only [tyn] at ty tx
      cases hx; cases hy
      refine isiT2 (b := false) (c := false) ty upd_same (by decide +kernel) (by decide +kernel) ?_
      walk_at "sx"
      refine eq_same (by rfl) ?_
      walk_at "sx"
      refine isi_x (b := false) tx (by decide +kernel) ?_
      refine isi_x (b := false) ty (by decide +kernel) ?_
      walk_at "sx"
      exact k _ e1
    | bl n b =>
      simp only [tyn] at ty tx
      cases hx; cases hy
      refine isiT2 (b := false) (c := false) ty upd_same (by decide +kernel) (by decide +kernel) ?_
      walk_at "sx"
      refine ⟨sz_ok (by omega), fun p2 np2 => ?_⟩
      have e2 := Ex.new np2 (o := .tup [V.ty "bool", V.ty "str"])
      refine isiT2 (b := true) (c := false) (.base (.bl b)) upd_same (by decide +kernel) (by decide +kernel) ?_
      walk_at "sx"
      refine isi_x (b := true) (.base (.bl b)) (by decide +kernel) ?_
      refine isi_x (b := true) (.base (.bl b)) (by decide +kernel) ?_
      walk_at "sx"
      exact k _ (e1.trans e2)
    | int n i =>
      simp only [tyn] at ty tx
      cases hx; cases hy
      refine isiT2 (b := false) (c := false) ty upd_same (by decide +kernel) (by decide +kernel) ?_
      walk_at "sx"
      refine ⟨sz_ok (by omega), fun p2 np2 => ?_⟩
      have e2 := Ex.new np2 (o := .tup [V.ty "bool", V.ty "str"])
      refine isiT2 (b := false) (c := false) (.base (.int i)) upd_same (by decide +kernel) (by decide +kernel) ?_
      walk_at "sx"
      refine isi_x (b := true) (.base (.int i)) (by decide +kernel) ?_
      walk_at "sx"
      refine isi_x (b := false) (.base (.int i)) (by decide +kernel) ?_
      walk_at "sx"
      exact k _ (e1.trans e2)
    | str n s =>
      simp only [tyn] at ty tx
      cases hx; cases hy
      refine isiT2 (b := false) (c := false) ty upd_same (by decide +kernel) (by decide +kernel) ?_
      walk_at "sx"
      refine ⟨sz_ok (by omega), fun p2 np2 => ?_⟩
      have e2 := Ex.new np2 (o := .tup [V.ty "bool", V.ty "str"])
      refine isiT2 (b := false) (c := true) (.base (.str s)) upd_same (by decide +kernel) (by decide +kernel) ?_
      walk_at "sx"
      refine isi_x (b := false) (.base (.str s)) (by decide +kernel) ?_
      refine isi_x (b := false) (.base (.str s)) (by decide +kernel) ?_
      walk_at "sx"
      exact k _ (e1.trans e2)
    | @lst n' ds hl h =>
      simp only [tyn] at ty tx
      obtain ⟨n2, en, rfl⟩ : ∃ n2, n' + 1 = n2 + 1 ∧ sp0 = spEq K n2 := by
        rcases hsp with q | ⟨n2, q1, q2⟩
        · omega
        · exact ⟨n2, q1, q2⟩
      obtain rfl : n' = n2 := by omega
      cases ex_d e1 _ _ hx with
      | lst hx1 hx2 =>
      cases ex_d e1 _ _ hy with
      | lst hy1 hy2 =>
      refine isiT2 (b := true) (c := false) ty upd_same (by decide +kernel) (by decide +kernel) ?_
      walk_at "sx"
      refine isi_x (b := true) tx (by decide +kernel) ?_
      refine isi_x (b := true) ty (by decide +kernel) ?_
      walk_at "sx"
      refine isi_x (b := false) tx (by decide +kernel) ?_
      refine isi_x (b := false) ty (by decide +kernel) ?_
      walk_at "sx"
      refine lenL hx1 ?_
      refine lenL hy1 ?_
      have lx := dp_len hx2
      have ly := dp_len hy2
      rw [lx, ly]
      walk_at "sx"
      refine ⟨_, _, ⟨rfl, rfl⟩, _, _, .inl ⟨hx1, hy1, fun D nD => ?_⟩⟩
      refine lc_zip (fun _ => true) (fun _ => V.bl true) hx1 hy1 (by omega) nD (by omega) (fun u v => rfl) (fun i u v _ _ => tyes) (fun i u v hu hv _ => ?_) (fun H2 e2 hD => ?_)
      · obtain ⟨d1, f1, g1⟩ := dp_at hx2 hu
        obtain ⟨d2, f2, g2⟩ := dp_at hy2 hv
        rw [f1] at f2
        cases f2
        refine ev_call (vs := [u, v]) (ea_cons (ev_var rfl) (ea_cons (ev_var rfl) ea_nil)) (fun H3 e3 Q3 q3 E3 => ?_)
        exact ⟨u, v, d1, rfl, ex_d e3 _ _ g1, ex_d e3 _ _ g2, h _ (List.mem_of_getElem? f1), q3⟩
      · rw [kept_const] at hD
        have e5 : List.replicate ds.length (V.bl true) = (List.replicate ds.length true).map V.bl := by rw [List.map_replicate]
        rw [lx, e5] at hD
        refine allL (.inl (.inl hD)) ?_
        rw [all_true]
        exact k _ (e1.trans e2)
    | @tup n' ds hl h =>
      simp only [tyn] at ty tx
      obtain ⟨n2, en, rfl⟩ : ∃ n2, n' + 1 = n2 + 1 ∧ sp0 = spEq K n2 := by
        rcases hsp with q | ⟨n2, q1, q2⟩
        · omega
        · exact ⟨n2, q1, q2⟩
      obtain rfl : n' = n2 := by omega
      cases ex_d e1 _ _ hx with
      | tup hx1 hx2 =>
      cases ex_d e1 _ _ hy with
      | tup hy1 hy2 =>
      refine isiT2 (b := false) (c := true) ty upd_same (by decide +kernel) (by decide +kernel) ?_
      walk_at "sx"
      refine isi_x (b := false) tx (by decide +kernel) ?_
      refine isi_x (b := false) ty (by decide +kernel) ?_
      walk_at "sx"
      refine isi_x (b := true) tx (by decide +kernel) ?_
      refine isi_x (b := true) ty (by decide +kernel) ?_
      walk_at "sx"
      refine lenT hx1 ?_
      refine lenT hy1 ?_
      have lx := dp_len hx2
      have ly := dp_len hy2
      rw [lx, ly]
      walk_at "sx"
      refine ⟨_, _, ⟨rfl, rfl⟩, _, _, .inr ⟨hx1, hy1, fun D nD => ?_⟩⟩
      refine lc_zipT (fun _ => true) (fun _ => V.bl true) hx1 hy1 (by omega) nD (by omega) (fun u v => rfl) (fun i u v _ _ => tyes) (fun i u v hu hv _ => ?_) (fun H2 e2 hD => ?_)
      · obtain ⟨d1, f1, g1⟩ := dp_at hx2 hu
        obtain ⟨d2, f2, g2⟩ := dp_at hy2 hv
        rw [f1] at f2
        cases f2
        refine ev_call (vs := [u, v]) (ea_cons (ev_var rfl) (ea_cons (ev_var rfl) ea_nil)) (fun H3 e3 Q3 q3 E3 => ?_)
        exact ⟨u, v, d1, rfl, ex_d e3 _ _ g1, ex_d e3 _ _ g2, h _ (List.mem_of_getElem? f1), q3⟩
      · rw [kept_const] at hD
        have e5 : List.replicate ds.length (V.bl true) = (List.replicate ds.length true).map V.bl := by rw [List.map_replicate]
        rw [lx, e5] at hD
        refine allL (.inl (.inl hD)) ?_
        rw [all_true]
        exact k _ (e1.trans e2)
theorem ok_law_equal (T : Txt K mg) : FnOk P w K mg base CX0 3 T.f_law_equal T.fd_law_equal ["_law_found", "_law_due"] (spEq K 2) :=
  eq_step T (.inr ⟨1, rfl, rfl⟩) (eq_step T (.inr ⟨0, rfl, rfl⟩) (eq_step T (n := 0) (.inl rfl) (eq_base T)))
end
end LW

set_option Elab.async false
set_option linter.all false
set_option maxRecDepth 100000
set_option maxHeartbeats 4000000
namespace LW
open PySem PySem.Spec PyProof.Rows L2 BC Evl TR LN VS FM

local macro_rules | `(tactic| walk_at "sx") => `(tactic| try simp only [x_seq, x_next, x_brk, x_cnt, x_nev, x_ret, x_retN, x_drop, x_ifS, x_asg, x_gn, x_gsub, x_par, x_par3, x_aug, x_for, x_lc, x_rng1, x_rng2, x_rng3, x_ilist, x_itup, x_ienum, x_izip, x_izipA, x_istr, x_var, x_c, x_op, x_un, x_test, x_b, x_chain, x_and, x_or, x_not, x_andV, x_orV, x_notV, x_ife, x_nil, x_cons, x_lst, x_tup, x_cb, x_call, x_callK, x_bm, x_bm0, x_tru, x_sl, x_nopart, x_part, x_revL, x_I0, x_I, x_U, x_ip, x_ipC, x_eqI, x_neI, x_eqB, x_neB, x_eqS, x_neS, x_isB, x_isNB, x_lrg, x_gall, x_rg1, x_rg2,
  L2.start, List.map_cons, List.map_nil, List.length_cons, List.length_nil, Nat.reduceAdd, Nat.reduceSub, Nat.sub_self, Nat.zero_add, List.replicate, List.replicate_succ, List.replicate_zero, List.append_nil, List.cons_append, List.nil_append, List.set_cons_zero, List.set_cons_succ, List.getElem?_cons_zero, List.getElem?_cons_succ, Option.some.injEq, V.int.injEq, V.bl.injEq, V.ref.injEq, V.str.injEq, List.cons.injEq, and_true, true_and, exists_eq_left', exists_eq_left, exists_and_left, exists_eq, if_true, if_false, ite_true, ite_false, Bool.true_eq_false, Bool.false_eq_true, reduceIte, reduceCtorEq, Bool.not_true, Bool.not_false, decide_true, decide_false, decide_eq_true_eq, Bool.and_true, Bool.true_and, Bool.and_self, Bool.and_false, Bool.false_and, Bool.or_self, Bool.or_false, Bool.false_or, Bool.or_true, Bool.true_or, eq_self])

/-! ### numbers read digit by digit -/
section
def ch (m : Nat) : List Int → List Int → List Int
  | _, [] => []
  | t, p :: R => (if p ∈ t then 0 else (((VS.fresh m t).idxOf p : Nat) : Int)) :: ch m (vis t p) R
theorem ch_len (m : Nat) : ∀ (R t : List Int), (ch m t R).length = R.length
  | [], _ => rfl
  | p :: R, t => by show (ch m _ R).length + 1 = _; rw [ch_len m R]; rfl
def mx : Int → List Int → List Int → Int
  | v, f :: F, c :: C => mx (v * f + c) F C
  | v, _, _ => v
theorem mx_snoc : ∀ (F C : List Int) (v f c : Int), F.length = C.length → mx v (F ++ [f]) (C ++ [c]) = mx v F C * f + c
  | [], [], _, _, _, _ => rfl
  | _ :: F, _ :: C, _, f, c, h => mx_snoc F C _ f c (by simpa using h)
  | [], _ :: _, _, _, _, h => by simp at h
  | _ :: _, [], _, _, _, h => by simp at h
theorem mx_vr (m : Nat) : ∀ (R t : List Int) (v : Int), mx v (facs m t.length (lensF t R)) (ch m t R) = v * prod m t.length (lensF t R) + vr m t R
  | [], t, v => by show v = v * 1 + 0; omega
  | p :: R, t, v => by
    show mx (v * fac m t.length (vis t p).length + _) (facs m (vis t p).length (lensF (vis t p) R)) (ch m (vis t p) R) = v * (fac m t.length (vis t p).length * prod m (vis t p).length (lensF (vis t p) R)) + vr m t (p :: R)
    rw [mx_vr m R (vis t p), vr_cons]
    by_cases c : p ∈ t
    · rw [if_pos c, if_pos c, Int.add_mul, Int.mul_assoc, Int.zero_mul]
      omega
    · rw [if_neg c, if_neg c, Int.add_mul, Int.mul_assoc]
      omega
theorem ch_lt (m : Nat) : ∀ (R t : List Int), t.Nodup → Pg m t → Pg m R → ∀ (i : Nat) (f c : Int), (facs m t.length (lensF t R))[i]? = some f → (ch m t R)[i]? = some c → 0 ≤ c ∧ c < f
  | [], _, _, _, _, i, f, c, h, _ => by
    have h' : ([] : List Int)[i]? = some f := h
    simp at h'
  | p :: R, t, h1, h2, h3, 0, f, c, hf, hc => by
    have hp := h3 p List.mem_cons_self
    have ef : fac m t.length (vis t p).length = f := Option.some.inj hf
    have ec : (if p ∈ t then 0 else (((VS.fresh m t).idxOf p : Nat) : Int)) = c := Option.some.inj hc
    by_cases q : p ∈ t
    · have v := vis_in q
      rw [if_pos q] at ec
      have e : fac m t.length (vis t p).length = 1 := by unfold fac; rw [if_neg (by omega)]
      omega
    · have v := vis_out q
      rw [if_neg q] at ec
      have hm : p ∈ VS.fresh m t := fresh_mem.mpr ⟨hp, q⟩
      have hi := List.idxOf_lt_length_of_mem hm
      have hl := fresh_len m h1 h2
      have e : fac m t.length (vis t p).length = ((m - t.length : Nat) : Int) := by unfold fac; rw [if_pos (by omega), if_pos (by omega)]; omega
      omega
  | p :: R, t, h1, h2, h3, i + 1, f, c, hf, hc => by
    have hp := h3 p List.mem_cons_self
    exact ch_lt m R (vis t p) (vis_nodup h1) (vis_pg h2 hp.1 hp.2) (fun x hx => h3 x (List.mem_cons_of_mem _ hx)) i f c hf hc
theorem ch_drop (m : Nat) {R t : List Int} : ∀ {i : Nat}, i ≤ R.length → (ch m t R).drop i = ch m ((R.take i).foldl vis t) (R.drop i) := fun {i} h => by
  induction R generalizing t i with
  | nil =>
    have : i = 0 := by simpa using h
    subst this
    rfl
  | cons p R ih =>
    cases i with
    | zero => rfl
    | succ i => exact ih (t := vis t p) (by simpa using h)
theorem ch_at (m : Nat) {R : List Int} {i : Nat} {p : Int} (h : R[i]? = some p) : (ch m [] R)[i]? = some (if p ∈ tra R i then 0 else (((VS.fresh m (tra R i)).idxOf p : Nat) : Int)) := by
  obtain ⟨hi, e⟩ := List.getElem?_eq_some_iff.mp h
  have d := ch_drop m (t := []) (R := R) (i := i) (by omega)
  have hd : R.drop i = p :: R.drop (i + 1) := by rw [List.drop_eq_getElem_cons hi, e]
  rw [hd] at d
  have z : ((ch m [] R).drop i)[0]? = (ch m [] R)[i]? := by rw [List.getElem?_drop, Nat.add_zero]
  rw [← z, d]
  rfl
theorem take_si {xs : List Int} {i : Nat} {v : Int} (h : xs[i]? = some v) : xs.take (i + 1) = xs.take i ++ [v] := by
  rw [List.take_add_one, h]; rfl
/-- the number that the first k digits make -/
def pvl (F C : List Int) (k : Nat) : Int := mx 0 (F.take k) (C.take k)
theorem pvl_succ {F C : List Int} {k : Nat} {f c : Int} (hf : F[k]? = some f) (hc : C[k]? = some c) : pvl F C (k + 1) = pvl F C k * f + c := by
  unfold pvl
  have h1 := (List.getElem?_eq_some_iff.mp hf).1
  have h2 := (List.getElem?_eq_some_iff.mp hc).1
  rw [take_si hf, take_si hc, mx_snoc _ _ _ _ _ (by rw [List.length_take, List.length_take]; omega)]
theorem pvl_mono {F C : List Int} (hl : F.length = C.length) (hb : ∀ (i : Nat) (f c : Int), F[i]? = some f → C[i]? = some c → 0 ≤ c ∧ c < f) : ∀ d k, k + d = F.length → 0 ≤ pvl F C k ∧ pvl F C k ≤ pvl F C F.length := fun d k h => by
  have nn : ∀ k, k ≤ F.length → 0 ≤ pvl F C k := fun k => by
    induction k with
    | zero => intro _; exact Int.le_refl _
    | succ k ih =>
      intro h
      have hf : F[k]? = some F[k] := List.getElem?_eq_getElem (by omega)
      have hc : C[k]? = some (C[k]'(by omega)) := List.getElem?_eq_getElem (by omega)
      have b := hb _ _ _ hf hc
      rw [pvl_succ hf hc]
      have := Int.mul_nonneg (ih (by omega)) (show 0 ≤ F[k] by omega)
      omega
  refine ⟨nn k (by omega), ?_⟩
  induction d generalizing k with
  | zero =>
    have : k = F.length := by omega
    rw [this]
    exact Int.le_refl _
  | succ d ih =>
    have hf : F[k]? = some F[k] := List.getElem?_eq_getElem (by omega)
    have hc : C[k]? = some (C[k]'(by omega)) := List.getElem?_eq_getElem (by omega)
    have b := hb _ _ _ hf hc
    have s := pvl_succ hf hc
    have a := ih (k + 1) (by omega)
    have g : pvl F C k * 1 ≤ pvl F C k * F[k] := Int.mul_le_mul_of_nonneg_left (by omega) (nn k (by omega))
    rw [Int.mul_one] at g
    omega
theorem prv_at {L : List Nat} {i : Nat} (h : i < L.length) : ((0 :: nz L).map V.int)[i]? = some (.int (prv 0 L i : Nat)) := by
  cases i with
  | zero => rfl
  | succ i =>
    have e : L[i]? = some L[i] := List.getElem?_eq_getElem (by omega)
    rw [prv_succ e, List.map_cons, List.getElem?_cons_succ]
    exact nz_at e
end
section
variable {P : Program} {w : World} {K : PySem.W.Frag} {mg : Str → Option Value} {base : Heap}
def spDig : Sp := fun vs H Q _ => ∃ (m : Nat) (a : Addr) (L : List Nat), vs = [.int m, .ref a] ∧ H a = some (.lst ((nz L).map V.int)) ∧ L.length ≤ 300 ∧ ∀ r H', H r = none → Ex H H' → H' r = some (.lst ((facs m 0 L).map V.int)) → Q (.ref r) H'
def JDg (H H2 : Hp) (m : Nat) (a z : Addr) (L : List Nat) (i : Nat) (σ' : L2.St) (H' : Hp) : Prop := ∃ r l3 l4, σ' = [some (.int m), some (.ref a), some (.ref r), l3, l4] ∧ H r = none ∧ z ≠ r ∧ Ex H H' ∧ H' z = some (.lst ((0 :: nz L).map V.int)) ∧ H' r = some (.lst (((facs m 0 L).map V.int).take i))
theorem ok_law_digits (T : Txt K mg) : FnOk P w K mg base CX0 1 T.f_law_digits T.fd_law_digits ["_law_wide", "_law_sizes_here"] spDig := by
  refine T.F_law_digits.ok sc_law_digits (fun vs H Q E h => ?_) (fun cdv A outer s H vs Q E hr h => ?_)
  · obtain ⟨m, a, L, rfl, _⟩ := h
    rfl
  · obtain ⟨m, a, L, rfl, hA, hl, k⟩ := h
    apply Exists.intro
    apply And.intro
    · apply pss_cons
      · exact (ps_set (i := 2) sc_law_digits.nd rfl (.inl rfl) (pe_lst pa_nil))
      apply pss_cons
      · apply ps_for PassesOwn.never rfl
        · exact (k_pi_zipA (K := K) rfl (by rfl) T.n_zip (pa_cons (pe_op op_cat (pe_lst (pa_cons pe_int pa_nil)) (pv 1)) (pa_cons (pv 1) pa_nil)))
        · exact (k_tup (K := K) (n := 2) rfl rfl (pgs_cons (pg_name (i := 3) sc_law_digits.nd rfl (.inl rfl)) (pgs_cons (pg_name (i := 4) sc_law_digits.nd rfl (.inl rfl)) pgs_nil)))
        · apply pss_one
          exact (ps_expr (k_bm (K := K) rfl (pe_bm PySem.F.plainAttrs_list PySem.F.slot_list_append PySem.F.type_list_append mt_append (pv 2) (pa_cons (pe_ifExp (pt_cmpR op_gt (pv 4) (pv 3) (by rfl)) (pe_callB (call_max2 rfl) (by rfl) T.n_max (by decide +kernel) (pa_cons pe_int (pa_cons (pe_op op_sub (pv 0) (pv 3)) pa_nil))) pe_int) pa_nil))))
      apply pss_one
      exact (ps_ret (pv 2))
    walk_at "sx"
    refine ⟨sz_ok (by omega), fun r nr => ⟨sz_ok (by omega), fun z0 nz0 => ?_⟩⟩
    have e1 := Ex.new nr (o := .lst [])
    have e2 := e1.trans (Ex.new nz0 (o := .lst [V.int 0]))
    have nr0 : r ≠ z0 := ne_of_none upd_same nz0
    refine catL upd_same (e2 _ _ hA) (sz_ok (by rw [List.length_map, nz_len, List.length_cons, List.length_nil]; omega)) fun z nzz => ?_
    have e3 := e2.trans (Ex.new nzz (o := .lst ([V.int 0] ++ (nz L).map V.int)))
    have hr3 : (upd (upd (upd H r (.lst [])) z0 (.lst [V.int 0])) z (.lst ([V.int 0] ++ (nz L).map V.int))) r = some (.lst []) := (Ex.new nzz) _ _ (by rw [upd_ne nr0, upd_same])
    have nzr : z ≠ r := fun q => by
      subst q
      rw [upd_ne nr0, upd_same] at nzz
      cases nzz
    have hz3 : (upd (upd (upd H r (.lst [])) z0 (.lst [V.int 0])) z (.lst ([V.int 0] ++ (nz L).map V.int))) z = some (.lst ((0 :: nz L).map V.int)) := by rw [upd_same]; rfl
    generalize (upd (upd (upd H r (.lst [])) z0 (.lst [V.int 0])) z (.lst ([V.int 0] ++ (nz L).map V.int))) = H3 at e3 hr3 hz3 ⊢
    refine ⟨_, _, ⟨rfl, rfl⟩, ?_⟩
    refine ⟨_, _, .inl ⟨.inl (.inl hz3), .inl (.inl (e3 _ _ hA)), ?_⟩⟩
    refine lg_zipS (xs := (0 :: nz L).map V.int) (ys := (nz L).map V.int) (by rw [List.length_map, List.length_map, List.length_cons]; omega) (JDg H H3 m a z L) ⟨r, none, none, rfl, nr, nzr, e3, hz3, by rw [hr3]; rfl⟩ (fun i σ' H' hP => by obtain ⟨_, _, _, _, _, _, e, hz, _⟩ := hP; exact ⟨.inl (.inl hz), .inl (.inl (e _ _ hA))⟩)
      (fun i x y T σ' H' hx hy hP nT => ?_) (fun σ' H' hP => ?_)
    · obtain ⟨r, l3, l4, rfl, nr, nzr, e, hz, hr⟩ := hP
      obtain ⟨l, hl', rfl⟩ := at_nz hy
      have hi := (List.getElem?_eq_some_iff.mp hl').1
      rw [prv_at hi] at hx
      obtain rfl := Option.some.inj hx
      refine g_two upd_same ?_
      have e5 := Ex.new nT (o := .tup [V.int (prv 0 L i : Nat), V.int l])
      have hr5 := e5 _ _ hr
      have hz5 := e5 _ _ hz
      have e6 := e.trans e5
      generalize upd H' T (.tup [V.int (prv 0 L i : Nat), V.int l]) = H5 at e5 hr5 hz5 e6 ⊢
      walk_at "sx"
      refine ⟨tyL hr5, ?_⟩
      have hlen : (((facs m 0 L).map V.int).take i).length = i := by
        rw [List.length_take, List.length_map, facs_len]
        omega
      have hst : ∀ v : Int, v = fac m (prv 0 L i) l → rAppend (V.ref r) [V.int v] H5 fun x_1 H1 => JDg H H3 m a z L (i + 1) [some (V.int m), some (V.ref a), some (V.ref r), some (V.int (prv 0 L i : Nat)), some (V.int l)] H1 := fun v ev => by
        refine appL hr5 (BC.sz_lt (by rw [hlen]; omega)) ?_
        refine ⟨r, _, _, rfl, nr, nzr, e6.mut nr, by rw [upd_ne nzr]; exact hz5, ?_⟩
        rw [upd_same, take_succ (at_ints (facs_at m hl')), ev]
      by_cases c : ((prv 0 L i : Nat) : Int) < (l : Int)
      · rw [if_pos c]
        refine ⟨_, _, ⟨rfl, rfl⟩, hst _ ?_⟩
        have c' : prv 0 L i < l := by omega
        unfold fac
        simp only [c', if_true]
      · rw [if_neg c]
        refine hst _ ?_
        have c' : ¬ prv 0 L i < l := by omega
        unfold fac
        simp only [c', if_false]
    · obtain ⟨r, l3, l4, rfl, nr, nzr, e, hz, hr⟩ := hP
      walk_at "sx"
      rw [List.take_of_length_le (by rw [List.length_map, List.length_map, facs_len, nz_len]; omega)] at hr
      exact k r _ nr e hr
end
end LW

set_option Elab.async false
set_option linter.all false
set_option maxRecDepth 100000
set_option maxHeartbeats 4000000
namespace LW
open PySem PySem.Spec PyProof.Rows L2 BC Evl TR LN VS FM

local macro_rules | `(tactic| walk_at "sx") => `(tactic| try simp only [x_seq, x_next, x_brk, x_cnt, x_nev, x_ret, x_retN, x_drop, x_ifS, x_asg, x_gn, x_gsub, x_par, x_par3, x_aug, x_for, x_lc, x_rng1, x_rng2, x_rng3, x_ilist, x_itup, x_ienum, x_izip, x_izipA, x_istr, x_var, x_c, x_op, x_un, x_test, x_b, x_chain, x_and, x_or, x_not, x_andV, x_orV, x_notV, x_ife, x_nil, x_cons, x_lst, x_tup, x_cb, x_call, x_callK, x_bm, x_bm0, x_tru, x_sl, x_nopart, x_part, x_revL, x_I0, x_I, x_U, x_ip, x_ipC, x_eqI, x_neI, x_eqB, x_neB, x_eqS, x_neS, x_isB, x_isNB, x_lrg, x_gall, x_rg1, x_rg2,
  L2.start, List.map_cons, List.map_nil, List.length_cons, List.length_nil, Nat.reduceAdd, Nat.reduceSub, Nat.sub_self, Nat.zero_add, List.replicate, List.replicate_succ, List.replicate_zero, List.append_nil, List.cons_append, List.nil_append, List.set_cons_zero, List.set_cons_succ, List.getElem?_cons_zero, List.getElem?_cons_succ, Option.some.injEq, V.int.injEq, V.bl.injEq, V.ref.injEq, V.str.injEq, List.cons.injEq, and_true, true_and, exists_eq_left', exists_eq_left, exists_and_left, exists_eq, if_true, if_false, ite_true, ite_false, Bool.true_eq_false, Bool.false_eq_true, reduceIte, reduceCtorEq, Bool.not_true, Bool.not_false, decide_true, decide_false, decide_eq_true_eq, Bool.and_true, Bool.true_and, Bool.and_self, Bool.and_false, Bool.false_and, Bool.or_self, Bool.or_false, Bool.false_or, Bool.or_true, Bool.true_or, eq_self])

section
variable {P : Program} {w : World} {K : PySem.W.Frag} {mg : Str → Option Value} {base : Heap}
def spNthL : Sp := fun vs H Q _ => ∃ (m : Nat) (a : Addr) (R : List Int), vs = [.int m, .ref a, .int (vr m [] R)] ∧ 1 ≤ m ∧ m ≤ 40 ∧ H a = some (.lst ((nz (lensF [] R)).map V.int)) ∧ R.length ≤ 300 ∧ Pg m R ∧ ∀ r H', H r = none → Ex H H' → H' r = some (.lst (R.map V.int)) → Q (.ref r) H'
def JNa (H : Hp) (m : Nat) (a : Addr) (F C : List Int) (c y : Addr) (i : Nat) (σ' : L2.St) (H' : Hp) : Prop := ∃ l4, σ' = [some (.int m), some (.ref a), some (.int (pvl F C (F.length - i))), some (.ref c), l4, none, none, none, none, none, none] ∧ Ex H H' ∧ H' c = some (.lst ((C.drop (F.length - i)).map V.int)) ∧ H' y = some (.lst (F.reverse.map V.int))
def JNb (H2 : Hp) (m : Nat) (a : Addr) (R : List Int) (l2 l4 : Option V) (c f : Addr) (i : Nat) (σ' : L2.St) (H' : Hp) : Prop := ∃ l7 l8 l9 l10 tr, σ' = [some (.int m), some (.ref a), l2, some (.ref c), l4, some (.ref f), some (.ref tr), l7, l8, l9, l10] ∧ Ex H2 H' ∧ tr ≠ f ∧ H' tr = some (.lst ((tra R i).map V.int)) ∧ H' f = some (.lst ((R.map V.int).take i))
theorem ok_law_nth (T : Txt K mg) : FnOk P w K mg base CX0 2 T.f_law_nth T.fd_law_nth ["_law_wide", "_law_sizes_here", "_law_number"] spNthL := by
  refine T.F_law_nth.ok sc_law_nth (fun vs H Q E h => ?_) (fun cdv A outer s H vs Q E hr h => ?_)
  · obtain ⟨m, a, R, rfl, _⟩ := h
    rfl
  · obtain ⟨m, a, R, rfl, h1, h2, hA, hl, hp, k⟩ := h
    apply Exists.intro
    apply And.intro
    · apply pss_cons
      · exact (ps_set (i := 3) sc_law_nth.nd rfl (.inl rfl) (pe_lst pa_nil))
      apply pss_cons
      · apply ps_for PassesOwn.never rfl
        · exact (k_pi_list (K := K) rfl (k_rev (K := K) rfl (pe_call (ok_law_digits T) (hr.mono (by decide)) (by rfl) T.m_law_digits T.F_law_digits.kp T.b_law_digits .nil pass0 (pa_cons (pv 0) (pa_cons (pv 1) pa_nil)))))
        · exact (pg_name (i := 4) sc_law_nth.nd rfl (.inl rfl))
        · apply pss_cons
          · exact (ps_expr (k_bm (K := K) rfl (pe_bm PySem.F.plainAttrs_list PySem.F.slot_list_insert PySem.F.type_list_insert mt_insert (pv 3) (pa_cons pe_int (pa_cons (pe_op op_modX (pv 2) (pv 4)) pa_nil)))))
          apply pss_one
          exact (ps_set (i := 2) sc_law_nth.nd rfl (.inl rfl) (pe_op op_fdivX (pv 2) (pv 4)))
      apply pss_cons
      · exact (ps_asg (pe_tup (pa_cons (pe_lst pa_nil) (pa_cons (pe_lst pa_nil) pa_nil))) (k_tup (K := K) (n := 2) rfl rfl (pgs_cons (pg_name (i := 5) sc_law_nth.nd rfl (.inl rfl)) (pgs_cons (pg_name (i := 6) sc_law_nth.nd rfl (.inr rfl)) pgs_nil))))
      apply pss_cons
      · apply ps_for PassesOwn.never rfl
        · exact (k_pi_zipA (K := K) rfl (by rfl) T.n_zip (pa_cons (pv 1) (pa_cons (pv 3) pa_nil)))
        · exact (k_tup (K := K) (n := 2) rfl rfl (pgs_cons (pg_name (i := 7) sc_law_nth.nd rfl (.inl rfl)) (pgs_cons (pg_name (i := 8) sc_law_nth.nd rfl (.inl rfl)) pgs_nil)))
        · apply pss_cons
          · exact (ps_setLc (i := 9) (own := [("_law_one", 10)]) rfl sc_law_nth.nd rfl rfl (sw_true rfl rfl rfl (by decide +kernel)) (pi_range1 (by rfl) T.n_range (pa_cons (pv 0) pa_nil)) (blkOk_by (own := [("_law_one", 10)]) (N := ["_law_wide", "_law_sizes_here", "_law_number", "_law_choices", "_law_digit", "_law_found", "_law_trail_here", "_law_size", "_law_choice", "_law_fresh", "_law_one"]) (sc := defScope s_law_nth) (by decide +kernel)) (fun _ _ _ _ _ => by exact (pg_name (i := 10) sc_law_nth.nd rfl (.inl rfl))) (fun _ _ _ _ _ => by exact (pts_one (pt_cmpR (k_notIn (K := K) rfl) (pv 10) (pv 6) (by rfl)))) (fun _ _ _ _ _ => by exact (pv 10)))
          apply pss_cons
          · exact (ps_expr (k_bm (K := K) rfl (pe_bm PySem.F.plainAttrs_list PySem.F.slot_list_append PySem.F.type_list_append mt_append (pv 5) (pa_cons (pe_ifExp (pt_cmpR op_gt (pv 7) (pe_callB (k_len (K := K) rfl) (by rfl) T.n_len PySem.boot_len (pa_cons (pv 6) pa_nil)) (by rfl)) (pe_ix (k_ix_list (K := K) rfl) (pv 9) (pv 8) (fun _ _ => rfl)) (pe_ix (k_ix_list (K := K) rfl) (pv 6) (pe_op op_sub (pv 7) pe_int) (fun _ _ => rfl))) pa_nil))))
          apply pss_one
          exact (ps_set (i := 6) sc_law_nth.nd rfl (.inr rfl) (pe_call (ok_law_after T) (hr.mono (by decide)) (by rfl) T.m_law_after T.F_law_after.kp T.b_law_after .nil pass0 (pa_cons (pv 6) (pa_cons (pe_ix (k_ix_list (K := K) rfl) (pv 5) (pe_un un_neg pe_int) (fun _ _ => rfl)) pa_nil))))
      apply pss_one
      exact (ps_ret (pv 5))
    have hlen := lensF_len R []
    have hrk := vr_lt m R [] List.nodup_nil (pg_nil _) hp
    have hbd : ∀ (i : Nat) (f c : Int), (facs m 0 (lensF [] R))[i]? = some f → (ch m [] R)[i]? = some c → 0 ≤ c ∧ c < f := ch_lt m R [] List.nodup_nil (pg_nil _) hp
    have hmx : mx 0 (facs m 0 (lensF [] R)) (ch m [] R) = 0 * prod m 0 (lensF [] R) + vr m [] R := mx_vr m R [] 0
    have hfl := facs_le m h2 (lensF [] R) 0
    have hFl : (facs m 0 (lensF [] R)).length = R.length := by rw [facs_len, hlen]
    have hCl : (ch m [] R).length = R.length := ch_len m R []
    have hpr : prodL (facs m 0 (lensF [] R)) = prod m 0 (lensF [] R) := prodL_drop m (lensF [] R) 0 0 (by omega)
    have hbig := prodL_big hfl (by omega)
    have hch : ∀ {i : Nat} {p : Int}, R[i]? = some p → (ch m [] R)[i]? = some (if p ∈ tra R i then 0 else (((VS.fresh m (tra R i)).idxOf p : Nat) : Int)) := fun h => ch_at m h
    generalize hF : facs m 0 (lensF [] R) = F at hbd hmx hfl hFl hpr hbig ⊢
    generalize hC : ch m [] R = C at hbd hmx hCl hch ⊢
    have hpv : pvl F C F.length = vr m [] R := by
      unfold pvl
      rw [List.take_length, List.take_of_length_le (by omega), hmx]
      omega
    have hpb : ∀ j, j ≤ F.length → 0 ≤ pvl F C j ∧ pvl F C j ≤ BIG := fun j hj => by
      have a := pvl_mono (by omega) hbd (F.length - j) j (by omega)
      have b := hrk.2
      have c : prod m ([] : List Int).length (lensF [] R) = prod m 0 (lensF [] R) := rfl
      omega
    walk_at "sx"
    refine ⟨sz_ok (by omega), fun c nc => ?_⟩
    have e1 := Ex.new nc (o := .lst [])
    refine ⟨m, a, lensF [] R, rfl, e1 _ _ hA, by omega, fun dg H1 ndg e2 hdg => ?_⟩
    rw [hF] at hdg
    refine ⟨dg, rfl, _, .inl (.inl hdg), fun y ny => ⟨⟨_, .inl (.inl upd_same)⟩, ?_⟩⟩
    have e3 := (e1.trans e2).trans (Ex.new ny (o := .lst (F.map V.int).reverse))
    have hy3 : (upd H1 y (.lst (F.map V.int).reverse)) y = some (.lst (F.reverse.map V.int)) := by rw [upd_same, List.map_reverse]
    have hc3 : (upd H1 y (.lst (F.map V.int).reverse)) c = some (.lst []) := (Ex.new ny) _ _ (e2 _ _ upd_same)
    have ncy : c ≠ y := fun q => by
      subst q
      rw [e2 _ _ upd_same] at ny
      cases ny
    generalize upd H1 y (.lst (F.map V.int).reverse) = H3 at e3 hy3 hc3 ⊢
    rw [← hpv]
    refine lg_list (xs := F.reverse.map V.int) (JNa H m a F C c y) ⟨none, rfl, e3, by rw [hc3, Nat.sub_zero, List.drop_of_length_le (by omega)]; rfl, hy3⟩ (fun i σ' H' _ hP => by obtain ⟨_, _, _, _, hy⟩ := hP; exact .inl (.inl hy))
      (fun i x σ' H' hx hP => ?_) (fun σ' H' hP => ?_)
    · obtain ⟨l4, rfl, e, hc, hy⟩ := hP
      obtain ⟨x, hx', rfl⟩ := ints_at hx
      have hi : i < F.length := by
        have := (List.getElem?_eq_some_iff.mp hx').1
        rwa [List.length_reverse] at this
      rw [List.getElem?_reverse hi] at hx'
      obtain ⟨j, hj⟩ : ∃ j, F.length - i = j + 1 := ⟨F.length - i - 1, by omega⟩
      have hj2 : F.length - (i + 1) = j := by omega
      have hjf : F[j]? = some x := by
        rw [show F.length - 1 - i = j by omega] at hx'
        exact hx'
      have hjl : j < C.length := by omega
      have hjc : C[j]? = some C[j] := List.getElem?_eq_getElem hjl
      have hb := hbd _ _ _ hjf hjc
      have hd : C.drop j = C[j] :: C.drop (j + 1) := List.drop_eq_getElem_cons hjl
      generalize C[j] = d at hjc hb hd
      have hs := pvl_succ hjf hjc
      have hp1 := hpb j (by omega)
      have hmod : (pvl F C j * x + d) % x = d := by
        rw [Int.add_comm, Int.add_mul_emod_self_right, Int.emod_eq_of_lt hb.1 hb.2]
      have hdiv : (pvl F C j * x + d) / x = pvl F C j := by
        rw [Int.add_comm, Int.add_mul_ediv_right _ _ (by omega), Int.ediv_eq_zero_of_lt hb.1 hb.2, Int.zero_add]
      have hx40 := hfl x (List.mem_of_getElem? hjf)
      rw [hj] at hc
      rw [hj, hs]
      walk_at "sx"
      refine ⟨tyL hc, by omega, ?_⟩
      rw [hmod]
      refine ⟨_, _, _, ⟨rfl, rfl⟩, hc, BC.sz_lt (by rw [List.length_map, List.length_drop]; omega), by omega, by omega, ?_⟩
      refine ⟨wide_div (b := 10) (by omega) (by omega) (by omega) (by omega), ?_⟩
      rw [hdiv]
      refine ⟨_, by rw [hj2], e.mut nc, ?_, by rw [upd_ne (Ne.symm ncy)]; exact hy⟩
      rw [upd_same, hj2, hd]
      rfl
    · obtain ⟨l4, rfl, e, hc, hy⟩ := hP
      have z0 : F.length - (F.reverse.map V.int).length = 0 := by
        rw [List.length_map, List.length_reverse]
        omega
      rw [z0] at hc ⊢
      rw [List.drop_zero] at hc
      walk_at "sx"
      refine ⟨sz_ok (by omega), fun f nf => ⟨sz_ok (by omega), fun t0 nt0 => ?_⟩⟩
      refine ⟨sz_ok (by simp), fun tp ntp => g_two upd_same ?_⟩
      have ncf : c ≠ f := ne_of_none hc nf
      have nft : f ≠ t0 := ne_of_none upd_same nt0
      have e4 := ((Ex.new nf (o := .lst [])).trans (Ex.new nt0 (o := .lst []))).trans (Ex.new ntp (o := .tup [V.ref f, V.ref t0]))
      have hf4 := (Ex.new ntp (o := .tup [V.ref f, V.ref t0])) f _ (show upd (upd H' f (.lst [])) t0 (.lst []) f = some (.lst []) by rw [upd_ne nft, upd_same])
      have ht4 := (Ex.new ntp (o := .tup [V.ref f, V.ref t0])) t0 _ (show upd (upd H' f (.lst [])) t0 (.lst []) t0 = some (.lst []) by rw [upd_same])
      have hA4 := (e.trans e4) _ _ hA
      have hAp := e _ _ hA
      have hc4 := e4 _ _ hc
      generalize upd (upd (upd H' f (.lst [])) t0 (.lst [])) tp (.tup [V.ref f, V.ref t0]) = H5 at e4 hf4 ht4 hA4 hc4 ⊢
      walk_at "sx"
      refine ⟨_, _, ⟨rfl, rfl⟩, ?_⟩
      refine ⟨_, _, .inl ⟨.inl (.inl hA4), .inl (.inl hc4), ?_⟩⟩
      refine lg_zipS (xs := (nz (lensF [] R)).map V.int) (ys := C.map V.int) (by rw [List.length_map, List.length_map, nz_len]; omega) (JNb H' m a R _ l4 c f) ⟨none, none, none, none, t0, rfl, e4, Ne.symm nft, ht4, hf4⟩ (fun i σ2 H2 hP => by
        obtain ⟨_, _, _, _, _, _, e, _⟩ := hP
        exact ⟨.inl (.inl (e _ _ hAp)), .inl (.inl (e _ _ hc))⟩)
        (fun i x y2 T σ2 H2 hx hy2 hP nT => ?_) (fun σ2 H2 hP => ?_)
      · obtain ⟨l7, l8, l9, l10, tr, rfl, eb, ntr, htr, hf⟩ := hP
        obtain ⟨x, hx', rfl⟩ := at_nz hx
        obtain ⟨q, hq, rfl⟩ := ints_at hy2
        have hi : i < R.length := by
          have := (List.getElem?_eq_some_iff.mp hx').1
          rwa [hlen] at this
        rw [len_at hi] at hx'
        obtain rfl : (tra R (i + 1)).length = x := Option.some.inj hx'
        have hRi : R[i]? = some R[i] := List.getElem?_eq_getElem hi
        have hpb2 := hp.at hRi
        generalize R[i] = p at hRi hpb2
        rw [hch hRi] at hq
        obtain rfl := Option.some.inj hq
        have hts := tra_succ hRi
        have tn : (tra R i).Nodup := trl_nodup (hp.take i)
        have tp' : Pg m (tra R i) := trl_pg (hp.take i)
        refine g_two upd_same ?_
        generalize hcv : (if p ∈ tra R i then 0 else (((VS.fresh m (tra R i)).idxOf p : Nat) : Int)) = cv
        have e5 := Ex.new nT (o := .tup [V.int (tra R (i + 1)).length, V.int cv])
        simp only [List.set_cons_zero, List.set_cons_succ]
        have htr5 := e5 _ _ htr
        have hf5 := e5 _ _ hf
        have eb5 := eb.trans e5
        generalize upd H2 T (.tup [V.int (tra R (i + 1)).length, V.int cv]) = H6 at e5 htr5 hf5 eb5 ⊢
        walk_at "sx"
        refine ⟨by omega, by omega, fun D nD => ?_⟩
        rw [Int.toNat_natCast]
        refine lc_rng (lo := 0) (n := m) (fun j => !decide (((j : Nat) : Int) ∈ tra R i)) (fun i => V.int ((i : Nat) : Int)) nD (by omega) (fun u => rfl) (fun j hj => ?_) (fun j hj _ => by rw [show (0 : Int) + j = (j : Int) by omega]; exact ev_var rfl) (fun H7 e7 hD => ?_)
        · refine et_is (et_test (ev_op (ev_var rfl) (ev_var rfl) (rv_niL (.inl (.inl htr5)) rfl (flat_ints _)))) ?_
          rw [inV_ints, show (0 : Int) + j = (j : Int) by omega]
        rw [kept_fresh] at hD
        have htr7 := e7 _ _ htr5
        have hf7 := e7 _ _ hf5
        have eb7 := eb5.trans e7
        have hst : rAppend (V.ref f) [V.int p] H7 (fun x H1 => rIxL K (V.ref f) (V.int (-1)) H1 fun x H1 => spVisited K [V.ref tr, x] H1 (fun x H1 => JNb H' m a R (some (V.int (pvl F C 0))) l4 c f (i + 1) [some (V.int m), some (V.ref a), some (V.int (pvl F C 0)), some (V.ref c), l4, some (V.ref f), some x, some (V.int (tra R (i + 1)).length), some (V.int cv), some (V.ref D), l10] H1) E0) := by
          refine appL hf7 (BC.sz_lt (by rw [List.length_take]; omega)) ?_
          rw [← take_succ (at_ints hRi)]
          refine ixL (.inl (.inl upd_same)) (atI_last (v := .int p) ?_) ?_
          · rw [List.length_take, List.length_map, Nat.min_eq_left (by omega), Nat.add_sub_cancel, List.getElem?_take, if_pos (by omega)]
            exact at_ints hRi
          refine ⟨tr, tra R i, p, rfl, by rw [upd_ne ntr]; exact htr7, ?_, fun r H8 nr e8 hr => ?_⟩
          · have := nodup_len m tn tp'
            omega
          refine ⟨_, _, _, _, r, rfl, (eb7.mut nf).trans e8, ne_of_some_none upd_same nr, by rw [hts]; exact hr, e8 _ _ upd_same⟩
        refine ⟨tyL hf7, ?_⟩
        refine lenL (.inl (.inl htr7)) ?_
        rw [List.length_map]
        walk_at "sx"
        by_cases c0 : p ∈ tra R i
        · have v := vis_in c0
          rw [← hts] at v
          have g : ¬ (((tra R i).length : Nat) : Int) < (((tra R (i + 1)).length : Nat) : Int) := by omega
          rw [if_neg g]
          refine ixL (.inl (.inl htr7)) (atI_n (j := (tra R i).idxOf p) (by omega) (at_ints (ns := tra R i) (n := p) ?_)) hst
          have hl := List.idxOf_lt_length_of_mem c0
          rw [List.getElem?_eq_getElem hl, List.getElem_idxOf hl]
        · have v := vis_out c0
          rw [← hts] at v
          have g : (((tra R i).length : Nat) : Int) < (((tra R (i + 1)).length : Nat) : Int) := by omega
          rw [if_pos g]
          rw [if_neg c0] at hcv
          subst hcv
          have hm : p ∈ VS.fresh m (tra R i) := fresh_mem.mpr ⟨hpb2, c0⟩
          have hil := List.idxOf_lt_length_of_mem hm
          refine ixL (.inl (.inl hD)) (atI_n rfl (at_ints (ns := VS.fresh m (tra R i)) (n := p) ?_)) hst
          rw [List.getElem?_eq_getElem hil, List.getElem_idxOf hil]
      · obtain ⟨l7, l8, l9, l10, tr, rfl, eb, ntr, htr, hf⟩ := hP
        walk_at "sx"
        refine k f _ (fresh_back e nf) (e.trans eb) ?_
        rw [hf, List.take_of_length_le (by rw [List.length_map, List.length_map]; omega)]
end
end LW

set_option Elab.async false
set_option linter.all false
set_option maxRecDepth 100000
set_option maxHeartbeats 4000000
namespace LW
open PySem PySem.Spec PyProof.Rows L2 BC Evl TR LN VS FM

local macro_rules | `(tactic| walk_at "sx") => `(tactic| try simp only [x_seq, x_next, x_brk, x_cnt, x_nev, x_ret, x_retN, x_drop, x_ifS, x_asg, x_gn, x_gsub, x_par, x_par3, x_aug, x_for, x_lc, x_rng1, x_rng2, x_rng3, x_ilist, x_itup, x_ienum, x_izip, x_izipA, x_istr, x_var, x_c, x_op, x_un, x_test, x_b, x_chain, x_and, x_or, x_not, x_andV, x_orV, x_notV, x_ife, x_nil, x_cons, x_lst, x_tup, x_cb, x_call, x_callK, x_bm, x_bm0, x_tru, x_sl, x_nopart, x_part, x_revL, x_I0, x_I, x_U, x_ip, x_ipC, x_eqI, x_neI, x_eqB, x_neB, x_eqS, x_neS, x_isB, x_isNB, x_lrg, x_gall, x_rg1, x_rg2,
  L2.start, List.map_cons, List.map_nil, List.length_cons, List.length_nil, Nat.reduceAdd, Nat.reduceSub, Nat.sub_self, Nat.zero_add, List.replicate, List.replicate_succ, List.replicate_zero, List.append_nil, List.cons_append, List.nil_append, List.set_cons_zero, List.set_cons_succ, List.getElem?_cons_zero, List.getElem?_cons_succ, Option.some.injEq, V.int.injEq, V.bl.injEq, V.ref.injEq, V.str.injEq, List.cons.injEq, and_true, true_and, exists_eq_left', exists_eq_left, exists_and_left, exists_eq, if_true, if_false, ite_true, ite_false, Bool.true_eq_false, Bool.false_eq_true, reduceIte, reduceCtorEq, Bool.not_true, Bool.not_false, decide_true, decide_false, decide_eq_true_eq, Bool.and_true, Bool.true_and, Bool.and_self, Bool.and_false, Bool.false_and, Bool.or_self, Bool.or_false, Bool.false_or, Bool.or_true, Bool.true_or, eq_self])

section
theorem fresh_sorted (m : Nat) (t : List Int) : (VS.fresh m t).Pairwise (· < ·) := by
  unfold VS.fresh
  refine List.Pairwise.sublist List.filter_sublist ?_
  rw [List.pairwise_map]
  exact List.Pairwise.imp (fun {a b} (h : a < b) => Int.ofNat_lt.mpr h) List.pairwise_lt_range
theorem fresh_lt {m : Nat} {t : List Int} {p q : Int} (hp : p ∈ VS.fresh m t) (hq : q ∈ VS.fresh m t) (h : (VS.fresh m t).idxOf p < (VS.fresh m t).idxOf q) : p < q := by
  have a := List.idxOf_lt_length_of_mem hp
  have b := List.idxOf_lt_length_of_mem hq
  have s := List.pairwise_iff_getElem.mp (fresh_sorted m t) _ _ a b h
  rwa [List.getElem_idxOf a, List.getElem_idxOf b] at s
theorem vr_mono (m : Nat) : ∀ (R S t : List Int), t.Nodup → Pg m t → Pg m R → Pg m S → lensF t R = lensF t S → vr m t R < vr m t S → ∃ k, k < R.length ∧ (∀ i, i < k → R.getD i 0 = S.getD i 0) ∧ R.getD k 0 < S.getD k 0
  | [], [], t, _, _, _, _, _, h => by
    have h' : (0 : Int) < 0 := h
    omega
  | [], q :: S, t, _, _, _, _, e, _ => by
    have := congrArg List.length e
    rw [lensF_len, lensF_len] at this
    simp at this
  | p :: R, [], t, _, _, _, _, e, _ => by
    have := congrArg List.length e
    rw [lensF_len, lensF_len] at this
    simp at this
  | p :: R, q :: S, t, h1, h2, h3, h4, e, h => by
    have hp := h3 p List.mem_cons_self
    have hq := h4 q List.mem_cons_self
    have e' : (vis t p).length :: lensF (vis t p) R = (vis t q).length :: lensF (vis t q) S := e
    have e1 := (List.cons.inj e').1
    have e2 := (List.cons.inj e').2
    by_cases c : p = q
    · subst c
      rw [vr_cons, vr_cons, ← e2] at h
      obtain ⟨k, k1, k2, k3⟩ := vr_mono m R S (vis t p) (vis_nodup h1) (vis_pg h2 hp.1 hp.2) (fun x hx => h3 x (List.mem_cons_of_mem _ hx)) (fun x hx => h4 x (List.mem_cons_of_mem _ hx)) e2 (by omega)
      refine ⟨k + 1, by rw [List.length_cons]; omega, fun i hi => ?_, by simpa using k3⟩
      cases i with
      | zero => rfl
      | succ i => simpa using k2 i (by omega)
    · have np : p ∉ t ∧ q ∉ t := by
        by_cases a : p ∈ t
        · have va := vis_in a
          by_cases b : q ∈ t
          · have vb := vis_in b
            have la := List.idxOf_lt_length_of_mem a
            have lb := List.idxOf_lt_length_of_mem b
            have ei : t.idxOf p = t.idxOf q := by omega
            have g1 : t[t.idxOf p]? = some p := by rw [List.getElem?_eq_getElem la, List.getElem_idxOf la]
            have g2 : t[t.idxOf q]? = some q := by rw [List.getElem?_eq_getElem lb, List.getElem_idxOf lb]
            rw [ei, g2] at g1
            exact (c (Option.some.inj g1).symm).elim
          · have vb := vis_out b
            omega
        · have va := vis_out a
          refine ⟨a, fun b => ?_⟩
          have vb := vis_in b
          omega
      have mp : p ∈ VS.fresh m t := fresh_mem.mpr ⟨hp, np.1⟩
      have mq : q ∈ VS.fresh m t := fresh_mem.mpr ⟨hq, np.2⟩
      have bp := vr_lt m R (vis t p) (vis_nodup h1) (vis_pg h2 hp.1 hp.2) (fun x hx => h3 x (List.mem_cons_of_mem _ hx))
      have bq := vr_lt m S (vis t q) (vis_nodup h1) (vis_pg h2 hq.1 hq.2) (fun x hx => h4 x (List.mem_cons_of_mem _ hx))
      rw [vr_cons, vr_cons, if_neg np.1, if_neg np.2] at h
      rw [← e1, ← e2] at h bq
      generalize prod m (vis t p).length (lensF (vis t p) R) = Z at h bp bq
      have lt : (VS.fresh m t).idxOf p < (VS.fresh m t).idxOf q := by
        rcases Nat.lt_trichotomy ((VS.fresh m t).idxOf p) ((VS.fresh m t).idxOf q) with l | l | l
        · exact l
        · have a := List.idxOf_lt_length_of_mem mp
          have b := List.idxOf_lt_length_of_mem mq
          have g1 : (VS.fresh m t)[(VS.fresh m t).idxOf p]? = some p := by rw [List.getElem?_eq_getElem a, List.getElem_idxOf a]
          have g2 : (VS.fresh m t)[(VS.fresh m t).idxOf q]? = some q := by rw [List.getElem?_eq_getElem b, List.getElem_idxOf b]
          rw [l, g2] at g1
          exact (c (Option.some.inj g1).symm).elim
        · have g : ((((VS.fresh m t).idxOf q : Nat) : Int) + 1) * Z ≤ (((VS.fresh m t).idxOf p : Nat) : Int) * Z := Int.mul_le_mul_of_nonneg_right (by omega) (by omega)
          rw [Int.add_mul, Int.one_mul] at g
          omega
      exact ⟨0, by rw [List.length_cons]; omega, fun i hi => absurd hi (by omega), by simpa using fresh_lt mp mq lt⟩
theorem oks_of {q : Nat} : ∀ {p : Nat} {L : List Nat}, Ok q p L → OkS p L
  | _, [], _ => trivial
  | _, _ :: _, ⟨h1, h2, h3⟩ => ⟨h1, by omega, oks_of h3⟩
theorem prodL_snoc : ∀ (F : List Int) (f : Int), prodL (F ++ [f]) = prodL F * f
  | [], f => by show f * 1 = 1 * f; omega
  | g :: F, f => by show g * prodL (F ++ [f]) = g * prodL F * f; rw [prodL_snoc F f, Int.mul_assoc]
theorem nz_small {m : Nat} {L : List Nat} (hm : m ≤ 40) (h : Ok m 0 L) : ∀ n ∈ nz L, n.natAbs < 10 ^ 12 := fun n hn => by
  unfold nz at hn
  obtain ⟨x, hx, rfl⟩ := List.mem_map.mp hn
  have := ok_at h x hx
  omega
theorem sh_ints {ns : List Int} (h : ns.length ≤ 100000) : Sh 2 (.list (ns.map PyData.int)) := .lst (by rw [List.length_map]; omega) (fun d hd => by
  obtain ⟨n, _, rfl⟩ := List.mem_map.mp hd
  exact .int 1 n)
end
section
variable {P : Program} {w : World} {K : PySem.W.Frag} {mg : Str → Option Value} {base : Heap}
def spHolds : Sp := fun vs H Q _ => ∃ (b : Addr) (m q : Nat) (a : Addr) (L : List Nat) (c : Nat), vs = [.ref b, .int m, .ref a] ∧ 1 ≤ m ∧ m ≤ 40 ∧ q ≤ 40 ∧ H a = some (.lst ((nz L).map V.int)) ∧ L.length ≤ 300 ∧ Ok q 0 L ∧ a ≠ b ∧ BagAt H b c ∧ c ≤ 900000 ∧ ∀ H', Fx b H H' → BagAt H' b (c + 2) → Q (.bl true) H'
def JW (H1 : Hp) (b : Addr) (m : Nat) (a dg : Addr) (F : List Int) (bs : Str) (i : Nat) (σ' : L2.St) (H' : Hp) : Prop := ∃ l3, σ' = [some (.ref b), some (.int m), some (.ref a), l3, none, some (.int (prodL (F.take i))), some (.str bs), none] ∧ H' = H1
def JH (H1 : Hp) (b : Addr) (m : Nat) (a : Addr) (l3 : Option V) (wh : Int) (c : Nat) (bs : Str) (σ' : L2.St) (H' : Hp) : Prop := ∃ l4 l7, σ' = [some (.ref b), some (.int m), some (.ref a), l3, l4, some (.int wh), some (.str bs), l7] ∧ Fx b H1 H' ∧ BagAt H' b c
theorem ok_law_holds (T : Txt K mg) : FnG P w K mg base CX0 6 T.f_law_holds T.fd_law_holds ["_law_bag_here", "_law_wide", "_law_sizes_here"] spHolds := by
  refine fun_okN T.F_law_holds sc_law_holds (fun vs H Q E h => ?_) (fun cdv A outer s H vs Q E hG hr h => ?_)
  · obtain ⟨b, m, q, a, L, c, rfl, _⟩ := h
    rfl
  · obtain ⟨b, m, q, a, L, c, rfl, h1, h2, hq, hA, hl, hok, nab, hB, hc, k⟩ := h
    apply Exists.intro
    apply And.intro
    · apply pss_cons
      · exact (ps_par (i := 5) (j := 6) (by rfl) sc_law_holds.nd rfl rfl (by decide) rfl rfl (pa_cons pe_int (pa_cons (pe_callB (k_repr (K := K) rfl hG hr.units) (by rfl) T.n_repr (by decide +kernel) (pa_cons (pv 2) pa_nil)) pa_nil)) (by rfl))
      apply pss_cons
      · apply ps_for PassesOwn.never rfl
        · exact (k_pi_list (K := K) rfl (pe_call (ok_law_digits T) (hr.mono (by decide)) (by rfl) T.m_law_digits T.F_law_digits.kp T.b_law_digits .nil pass0 (pa_cons (pv 1) (pa_cons (pv 2) pa_nil))))
        · exact (pg_name (i := 3) sc_law_holds.nd rfl (.inl rfl))
        · apply pss_one
          exact (ps_set (i := 5) sc_law_holds.nd rfl (.inl rfl) (pe_op op_mulX (pv 5) (pv 3)))
      apply pss_cons
      · apply ps_if
        · exact (PW.pt (pw_or (pt_not (pt_val (pe_call (ok_law_equal T) (hr.mono (by decide)) (by rfl) T.m_law_equal T.F_law_equal.kp T.b_law_equal .nil pass0 (pa_cons (pe_call (ok_count_visits T) (hr.mono (by decide)) (by rfl) T.m_count_visits T.F_count_visits.kp T.b_count_visits .nil pass0 (pa_cons (pv 1) (pa_cons (pv 2) pa_nil))) (pa_cons (pv 5) pa_nil))))) (pw_or1 (pt_cmpR op_ne (pe_callB (k_repr (K := K) rfl hG hr.units) (by rfl) T.n_repr (by decide +kernel) (pa_cons (pv 2) pa_nil)) (pv 6) (by rfl)))))
        · apply pss_one
          exact (ps_ret pe_bl)
        · exact pss_nil
      apply pss_cons
      · apply ps_if
        · exact (pt_cmpR op_eq (pv 5) pe_int (by rfl))
        · apply pss_one
          exact (ps_ret pe_bl)
        · exact pss_nil
      apply pss_cons
      · apply ps_for PassesOwn.never rfl
        · exact (k_pi_list (K := K) rfl (pe_lst (pa_cons pe_int (pa_cons (pe_op op_sub (pv 5) pe_int) (pa_cons (pe_call (ok_law_draw T) (hr.mono (by decide)) (by rfl) T.m_law_draw T.F_law_draw.kp T.b_law_draw .nil pass0 (pa_cons (pv 0) (pa_cons (pv 5) pa_nil))) (pa_cons (pe_call (ok_law_draw T) (hr.mono (by decide)) (by rfl) T.m_law_draw T.F_law_draw.kp T.b_law_draw .nil pass0 (pa_cons (pv 0) (pa_cons (pv 5) pa_nil))) pa_nil))))))
        · exact (pg_name (i := 4) sc_law_holds.nd rfl (.inl rfl))
        · apply pss_cons
          · exact (ps_set (i := 7) sc_law_holds.nd rfl (.inl rfl) (pe_call (ok_nth_visits T) (hr.mono (by decide)) (by rfl) T.m_nth_visits T.F_nth_visits.kp T.b_nth_visits .nil pass0 (pa_cons (pv 1) (pa_cons (pv 2) (pa_cons (pv 4) pa_nil)))))
          apply pss_cons
          · apply ps_if
            · exact (PW.pt (pw_or (pt_not (pt_val (pe_call (ok_law_equal T) (hr.mono (by decide)) (by rfl) T.m_law_equal T.F_law_equal.kp T.b_law_equal .nil pass0 (pa_cons (pv 7) (pa_cons (pe_call (ok_law_nth T) (hr.mono (by decide)) (by rfl) T.m_law_nth T.F_law_nth.kp T.b_law_nth .nil pass0 (pa_cons (pv 1) (pa_cons (pv 2) (pa_cons (pv 4) pa_nil)))) pa_nil))))) (pw_or1 (pt_cmpR (k_neD (K := K) rfl hr.units) (pe_call (ok_lengths_of T) (hr.mono (by decide)) (by rfl) T.m_lengths_of T.F_lengths_of.kp T.b_lengths_of .nil pass0 (pa_cons (pv 7) pa_nil)) (pv 2) (by rfl)))))
            · apply pss_one
              exact (ps_ret pe_bl)
            · exact pss_nil
          apply pss_cons
          · apply ps_if
            · exact (pt_not (pt_val (pe_call (ok_law_equal T) (hr.mono (by decide)) (by rfl) T.m_law_equal T.F_law_equal.kp T.b_law_equal .nil pass0 (pa_cons (pe_call (ok_visits_rank T) (hr.mono (by decide)) (by rfl) T.m_visits_rank T.F_visits_rank.kp T.b_visits_rank .nil pass0 (pa_cons (pv 1) (pa_cons (pv 7) pa_nil))) (pa_cons (pv 4) pa_nil)))))
            · apply pss_one
              exact (ps_ret pe_bl)
            · exact pss_nil
          apply pss_one
          apply ps_if
          · exact (PW.pt (pw_and (pt_cmpR op_lt (pe_op op_add (pv 4) pe_int) (pv 5) (by rfl)) (pw_and1 (pt_cmpR (op_leL (K := K) rfl hr.units0) (pe_call (ok_nth_visits T) (hr.mono (by decide)) (by rfl) T.m_nth_visits T.F_nth_visits.kp T.b_nth_visits .nil pass0 (pa_cons (pv 1) (pa_cons (pv 2) (pa_cons (pe_op op_add (pv 4) pe_int) pa_nil)))) (pv 7) (by rfl)))))
          · apply pss_one
            exact (ps_ret pe_bl)
          · exact pss_nil
      apply pss_one
      exact (ps_ret (pe_cmpR op_eq (pe_callB (k_repr (K := K) rfl hG hr.units) (by rfl) T.n_repr (by decide +kernel) (pa_cons (pv 2) pa_nil)) (pv 6) (by rfl)))
    have hsm := nz_small hq hok
    have hoks := oks_of hok
    walk_at "sx"
    refine reprInts (.inl (.inl hA)) hsm (by rw [nz_len]; omega) ?_
    refine ⟨_, _, ⟨rfl, rfl⟩, ?_⟩
    walk_at "sx"
    refine ⟨m, a, L, rfl, hA, hl, fun dg H1 ndg e1 hdg => ?_⟩
    have hfl := facs_le m h2 L 0
    have hFl := facs_len m L 0
    have hpr : prodL (facs m 0 L) = prod m 0 L := prodL_drop m L 0 0 (by omega)
    generalize facs m 0 L = F at hdg hfl hFl hpr
    refine ⟨dg, rfl, ⟨_, .inl (.inl hdg)⟩, ?_⟩
    refine lg_list (xs := F.map V.int) (JW H1 b m a dg F (shInts (nz L))) ⟨none, rfl, rfl⟩ (fun i σ' H' _ hP => by obtain ⟨_, _, rfl⟩ := hP; exact .inl (.inl hdg))
      (fun i x σ' H' hx hP => ?_) (fun σ' H' hP => ?_)
    · obtain ⟨l3, rfl, rfl⟩ := hP
      obtain ⟨x, hx', rfl⟩ := ints_at hx
      have hb := hfl x (List.mem_of_getElem? hx')
      have hin : ∀ f ∈ F.take i, 0 ≤ f ∧ f ≤ 40 := fun f hf => hfl f (List.mem_of_mem_take hf)
      have p0 := (prodL_le hin).1
      have p1 := prodL_big hin (by rw [List.length_take]; omega)
      walk_at "sx"
      refine ⟨.inr (wide_mul (a := 2001) (b := 10) (big_abs p0 p1) (by omega) (by omega) (by omega) (by omega)), ?_⟩
      refine ⟨some (.int x), ?_, rfl⟩
      rw [take_si hx', prodL_snoc]
    · obtain ⟨l3, rfl, rfl⟩ := hP
      rw [List.take_of_length_le (by rw [List.length_map]; omega), hpr]
      have hbig := prodL_big hfl (by omega)
      rw [hpr] at hbig
      have hA1 := e1 _ _ hA
      have pnn := prod_nn m L 0
      walk_at "sx"
      refine ⟨m, q, a, L, rfl, h1, h2, .inl (.inl hA1), hl, hq, hok, fun H2 e2 => ?_⟩
      refine ⟨_, _, .int (prod m 0 L), rfl, .int _, .int _, .int _ _, fun H3 e3 => ?_⟩
      walk_at "sx"
      have e13 := (e1.trans e2).trans e3
      have hA3 := e13 _ _ hA
      have hB3 := hB.ex e13
      refine reprInts (.inl (.inl hA3)) hsm (by rw [nz_len]; omega) ?_
      walk_at "sx"
      by_cases w0 : prod m 0 L = 0
      · simp only [w0]
        walk_at "sx"
        exact k _ (Fx.of e13) (hB3.mono (by omega))
      simp only [w0]
      walk_at "sx"
      refine ⟨b, _, c, rfl, by omega, hbig, hB3, by omega, fun n2 H4 n20 n21 f4 b4 => ?_⟩
      refine ⟨b, _, _, rfl, by omega, hbig, b4, by omega, fun n3 H5 n30 n31 f5 b5 => ?_⟩
      refine ⟨sz_ok (by omega), fun z nz0 => ?_⟩
      have ez := Ex.new nz0 (o := .lst [V.int 0, V.int (prod m 0 L - 1), V.int n2, V.int n3])
      have nzb := b5.apart nz0
      have bz := b5.ex ez
      have fz := (((Fx.of e13).trans f4).trans f5).trans (Fx.of ez)
      have hzz : (upd H5 z (.lst [V.int 0, V.int (prod m 0 L - 1), V.int n2, V.int n3])) z = some (.lst ([0, prod m 0 L - 1, n2, n3].map V.int)) := upd_same
      generalize upd H5 z (.lst [V.int 0, V.int (prod m 0 L - 1), V.int n2, V.int n3]) = H6 at ez bz fz hzz ⊢
      have hA6 := fz _ _ nab hA
      refine ⟨⟨_, .inl (.inl hzz)⟩, ?_⟩
      refine lg_list (xs := [0, prod m 0 L - 1, n2, n3].map V.int) (fun _ => JH H6 b m a l3 (prod m 0 L) (c + 2) (shInts (nz L))) ⟨none, none, rfl, Fx.refl _ _, bz⟩ (fun i σ' H' _ hP => by obtain ⟨_, _, _, f, _⟩ := hP; exact .inl (.inl (f _ _ nzb hzz)))
        (fun i x σ' H' hx hP => ?_) (fun σ' H' hP => ?_)
      · obtain ⟨l4, l7, rfl, f, bb⟩ := hP
        obtain ⟨n, hn', rfl⟩ := ints_at hx
        have hb : 0 ≤ n ∧ n < prod m 0 L := by
          have hm := List.mem_of_getElem? hn'
          simp only [List.mem_cons, List.mem_nil_iff, or_false] at hm
          omega
        obtain ⟨R, r1, r2, r3⟩ := vfind m L [] n hoks List.nodup_nil (pg_nil _) hb.1 hb.2
        have hRl : R.length = L.length := by rw [← r2, lensF_len]
        subst r3
        have hA' := f _ _ nab hA6
        have p40 : Pg 40 R := r1.mono (by omega)
        walk_at "sx"
        refine ⟨m, a, R, rfl, h1, h2, .inl (.inl (by rw [r2]; exact hA')), by omega, r1, fun r Ha nr ea hr => ?_⟩
        walk_at "sx"
        refine ⟨m, a, R, rfl, h1, h2, by rw [r2]; exact ea _ _ hA', by omega, r1, fun rr Hb nrr eb hrr => ?_⟩
        refine ⟨.ref r, .ref rr, .list (R.map PyData.int), rfl, .lst (.inl (.inl (eb _ _ hr))) (dp_ints _), .lst (.inl (.inl hrr)) (dp_ints _), sh_ints (by omega), fun Hc ec => ?_⟩
        walk_at "sx"
        have hrc := ec _ _ (eb _ _ hr)
        have hAc := ec _ _ (eb _ _ (ea _ _ hA'))
        refine ⟨r, R, rfl, .inl (.inl hrc), by omega, p40, fun d Hd nd ed hd => ?_⟩
        rw [lens_eq, r2] at hd
        refine neInts (.inl (.inl hd)) (.inl (.inl (ed _ _ hAc))) ?_
        walk_at "sx"
        have hrd := ed _ _ hrc
        refine ⟨m, r, R, rfl, h1, h2, .inl (.inl hrd), by omega, r1, fun He ee => ?_⟩
        refine ⟨_, _, .int (vr m [] R), rfl, .int _, .int _, .int _ _, fun Hf ef => ?_⟩
        walk_at "sx"
        have Eb := ((((ea.trans eb).trans ec).trans ed).trans ee).trans ef
        have hrf := ef _ _ (ee _ _ hrd)
        by_cases g : vr m [] R + 1 < prod m 0 L
        · simp only [g]
          walk_at "sx"
          obtain ⟨S, s1, s2, s3⟩ := vfind m L [] (vr m [] R + 1) hoks List.nodup_nil (pg_nil _) (by omega) g
          have hSl : S.length = L.length := by rw [← s2, lensF_len]
          refine ⟨m, a, S, by rw [s3], h1, h2, .inl (.inl (by rw [s2]; exact Eb _ _ hA')), by omega, s1, fun nx Hg nnx eg hnx => ?_⟩
          obtain ⟨kk, k1, k2, k3⟩ := vr_mono m R S [] List.nodup_nil (pg_nil _) r1 s1 (by rw [r2, s2]) (by omega)
          refine leL_false (.inl (.inl hnx)) (.inl (.inl (eg _ _ hrf))) (k := kk) (by omega) (by omega) (fun i hi => (k2 i hi).symm) k3 ?_
          walk_at "sx"
          exact ⟨_, _, rfl, f.trans (Fx.of (Eb.trans eg)), bb.ex (Eb.trans eg)⟩
        · simp only [g]
          walk_at "sx"
          exact ⟨_, _, rfl, f.trans (Fx.of Eb), bb.ex Eb⟩
      · obtain ⟨l4, l7, rfl, f, bb⟩ := hP
        walk_at "sx"
        refine reprInts (.inl (.inl (f _ _ nab hA6))) hsm (by rw [nz_len]; omega) ?_
        walk_at "sx"
        exact k _ (fz.trans f) bb
end
end LW

set_option Elab.async false
set_option linter.all false
set_option maxRecDepth 100000
set_option maxHeartbeats 4000000
namespace LW
open PySem PySem.Spec PyProof.Rows L2 BC Evl TR LN VS FM

local macro_rules | `(tactic| walk_at "sx") => `(tactic| try simp only [x_seq, x_next, x_brk, x_cnt, x_nev, x_ret, x_retN, x_drop, x_ifS, x_asg, x_gn, x_gsub, x_par, x_par3, x_aug, x_for, x_lc, x_rng1, x_rng2, x_rng3, x_ilist, x_itup, x_ienum, x_izip, x_izipA, x_istr, x_var, x_c, x_op, x_un, x_test, x_b, x_chain, x_and, x_or, x_not, x_andV, x_orV, x_notV, x_ife, x_nil, x_cons, x_lst, x_tup, x_cb, x_call, x_callK, x_bm, x_bm0, x_tru, x_sl, x_nopart, x_part, x_revL, x_I0, x_I, x_U, x_ip, x_ipC, x_eqI, x_neI, x_eqB, x_neB, x_eqS, x_neS, x_isB, x_isNB, x_lrg, x_gall, x_rg1, x_rg2,
  L2.start, List.map_cons, List.map_nil, List.length_cons, List.length_nil, Nat.reduceAdd, Nat.reduceSub, Nat.sub_self, Nat.zero_add, List.replicate, List.replicate_succ, List.replicate_zero, List.append_nil, List.cons_append, List.nil_append, List.set_cons_zero, List.set_cons_succ, List.getElem?_cons_zero, List.getElem?_cons_succ, Option.some.injEq, V.int.injEq, V.bl.injEq, V.ref.injEq, V.str.injEq, List.cons.injEq, and_true, true_and, exists_eq_left', exists_eq_left, exists_and_left, exists_eq, if_true, if_false, ite_true, ite_false, Bool.true_eq_false, Bool.false_eq_true, reduceIte, reduceCtorEq, Bool.not_true, Bool.not_false, decide_true, decide_false, decide_eq_true_eq, Bool.and_true, Bool.true_and, Bool.and_self, Bool.and_false, Bool.false_and, Bool.or_self, Bool.or_false, Bool.false_or, Bool.or_true, Bool.true_or, eq_self])

section
variable {P : Program} {w : World} {K : PySem.W.Frag} {mg : Str → Option Value} {base : Heap}
def R40 : List Int := (List.range 40).map fun i : Nat => (i : Int)
theorem r40_pg : Pg 40 R40 := fun x hx => by
  obtain ⟨i, hi, rfl⟩ := List.mem_map.mp hx
  rw [List.mem_range] at hi
  omega
theorem r40_vr : vr 40 [] R40 = 0 := by decide +kernel
theorem r40_lens : rgV 1 41 = (nz (lensF [] R40)).map V.int := by decide +kernel
theorem r40_rg : rgV 0 40 = R40.map V.int := by decide +kernel
theorem min_if (t : Nat) : (if (60 : Int) < (t : Int) then (60 : Int) else (t : Int)) = ((min t 60 : Nat) : Int) := by split <;> omega
def spLaw (K : PySem.W.Frag) : Sp := fun vs H Q _ => ∃ (a : Addr) (ns : List Int), vs = [.ref a] ∧ SqL K H a (ns.map V.int) ∧ ns.length ≤ 63 ∧ ∀ H', Q (.bl true) H'
def JO (H1 : Hp) (a : Addr) (i : Nat) (σ' : L2.St) (H' : Hp) : Prop := ∃ l1 l2 l3 l4 l5 l6 l7 l8 l9, σ' = [some (.ref a), l1, l2, l3, l4, l5, l6, l7, l8, l9] ∧ Ex H1 H'
theorem ok_law (T : Txt K mg) : FnG P w K mg base CX0 7 T.f_law T.fd_law ["_law_script"] (spLaw K) := by
  refine fun_okN T.F_law sc_law (fun vs H Q E h => ?_) (fun cdv A outer s H vs Q E hG hr h => ?_)
  · obtain ⟨a, ns, rfl, _⟩ := h
    rfl
  · obtain ⟨a, ns, rfl, hA, hn, k⟩ := h
    apply Exists.intro
    apply And.intro
    · apply pss_cons
      · apply ps_for PassesOwn.never rfl
        · exact (k_pi_enum (K := K) rfl (by rfl) T.n_enumerate (pa_cons (pe_op op_cat (pe_slice (k_sl_list (K := K) rfl) (pv 0) po_none (po_some pe_int)) (pe_lst (pa_cons pe_int pa_nil))) pa_nil))
        · exact (k_tup (K := K) (n := 2) rfl rfl (pgs_cons (pg_name (i := 1) sc_law.nd rfl (.inl rfl)) (pgs_cons (pg_name (i := 2) sc_law.nd rfl (.inl rfl)) pgs_nil)))
        · apply pss_cons
          · exact (ps_set (i := 3) sc_law.nd rfl (.inl rfl) (pe_call (ok_law_bag T) (hr.mono (by decide)) (by rfl) T.m_law_bag T.F_law_bag.kp T.b_law_bag .nil pass0 (pa_cons (pv 2) pa_nil)))
          apply pss_cons
          · exact (ps_set (i := 4) sc_law.nd rfl (.inl rfl) (pe_cmpR op_eq (pv 1) (pe_callB (k_len (K := K) rfl) (by rfl) T.n_len PySem.boot_len (pa_cons (pe_slice (k_sl_list (K := K) rfl) (pv 0) po_none (po_some pe_int)) pa_nil)) (by rfl)))
          apply pss_cons
          · exact (ps_set (i := 5) sc_law.nd rfl (.inl rfl) (pe_ix (k_ix_list (K := K) rfl) (pe_lst (pa_cons (pe_op op_add pe_int (pe_call (ok_law_draw T) (hr.mono (by decide)) (by rfl) T.m_law_draw T.F_law_draw.kp T.b_law_draw .nil pass0 (pa_cons (pv 3) (pa_cons pe_int pa_nil)))) (pa_cons pe_int pa_nil))) (pe_call (ok_law_draw T) (hr.mono (by decide)) (by rfl) T.m_law_draw T.F_law_draw.kp T.b_law_draw .nil pass0 (pa_cons (pv 3) (pa_cons pe_int pa_nil))) (fun _ _ => rfl)))
          apply pss_cons
          · exact (ps_set (i := 6) sc_law.nd rfl (.inl rfl) (pe_call (ok_law_draw T) (hr.mono (by decide)) (by rfl) T.m_law_draw T.F_law_draw.kp T.b_law_draw .nil pass0 (pa_cons (pv 3) (pa_cons (pe_ifExp (pt_val (pv 4)) pe_int (pe_ix (k_ix_list (K := K) rfl) (pe_lst (pa_cons pe_int (pa_cons pe_int pa_nil))) (pe_callTy call_int1 (by rfl) T.n_int (by decide +kernel) (pa_cons (pe_cmpR op_gt (pv 1) pe_int (by rfl)) pa_nil)) (fun _ _ => rfl))) pa_nil))))
          apply pss_cons
          · apply ps_if
            · exact (pt_not (pt_val (pe_callG (ok_law_holds T) hG (hr.mono (by decide)) (by rfl) T.m_law_holds T.F_law_holds.kp T.b_law_holds .nil pass0 (pa_cons (pv 3) (pa_cons (pv 5) (pa_cons (pe_call (ok_law_row T) (hr.mono (by decide)) (by rfl) T.m_law_row T.F_law_row.kp T.b_law_row .nil pass0 (pa_cons (pv 3) (pa_cons (pv 5) (pa_cons (pv 6) pa_nil)))) pa_nil))))))
            · apply pss_one
              exact (ps_ret pe_bl)
            · exact pss_nil
          apply pss_cons
          · apply ps_if
            · exact (pt_not (pt_val (pe_callG (ok_law_holds T) hG (hr.mono (by decide)) (by rfl) T.m_law_holds T.F_law_holds.kp T.b_law_holds .nil pass0 (pa_cons (pv 3) (pa_cons (pv 5) (pa_cons (pe_call (ok_law_row T) (hr.mono (by decide)) (by rfl) T.m_law_row T.F_law_row.kp T.b_law_row .nil pass0 (pa_cons (pv 3) (pa_cons pe_int (pa_cons (pe_callB (call_min2 rfl) (by rfl) T.n_min (by decide +kernel) (pa_cons (pv 6) (pa_cons pe_int pa_nil))) pa_nil)))) pa_nil))))))
            · apply pss_one
              exact (ps_ret pe_bl)
            · exact pss_nil
          apply pss_cons
          · exact (ps_set (i := 7) sc_law.nd rfl (.inl rfl) (pe_call (ok_law_pages T) (hr.mono (by decide)) (by rfl) T.m_law_pages T.F_law_pages.kp T.b_law_pages .nil pass0 (pa_cons (pv 3) (pa_cons (pv 5) (pa_cons (pe_callB (call_min2 rfl) (by rfl) T.n_min (by decide +kernel) (pa_cons (pv 6) (pa_cons pe_int pa_nil))) pa_nil)))))
          apply pss_cons
          · exact (ps_par (i := 8) (j := 9) (by rfl) sc_law.nd rfl rfl (by decide) rfl rfl (pa_cons (pe_call (ok_visits_rank T) (hr.mono (by decide)) (by rfl) T.m_visits_rank T.F_visits_rank.kp T.b_visits_rank .nil pass0 (pa_cons (pv 5) (pa_cons (pv 7) pa_nil))) (pa_cons (pe_call (ok_law_sizes T) (hr.mono (by decide)) (by rfl) T.m_law_sizes T.F_law_sizes.kp T.b_law_sizes .nil pass0 (pa_cons (pv 7) pa_nil)) pa_nil)) (by rfl))
          apply pss_one
          apply ps_if
          · exact (PW.pt (pw_or (pt_cmpR (k_neD (K := K) rfl hr.units) (pe_call (ok_nth_visits T) (hr.mono (by decide)) (by rfl) T.m_nth_visits T.F_nth_visits.kp T.b_nth_visits .nil pass0 (pa_cons (pv 5) (pa_cons (pv 9) (pa_cons (pv 8) pa_nil)))) (pv 7) (by rfl)) (pw_or1 (pt_cmpR (k_neD (K := K) rfl hr.units) (pe_call (ok_law_nth T) (hr.mono (by decide)) (by rfl) T.m_law_nth T.F_law_nth.kp T.b_law_nth .nil pass0 (pa_cons (pv 5) (pa_cons (pv 9) (pa_cons (pv 8) pa_nil)))) (pv 7) (by rfl)))))
          · apply pss_one
            exact (ps_ret pe_bl)
          · exact pss_nil
      apply pss_one
      exact (ps_ret (pe_cmpR (k_eqD (K := K) rfl hr.units) (pe_call (ok_nth_visits T) (hr.mono (by decide)) (by rfl) T.m_nth_visits T.F_nth_visits.kp T.b_nth_visits .nil pass0 (pa_cons pe_int (pa_cons (pe_listRg rfl (by rfl) T.n_list (prg_2 (by rfl) T.n_range pe_int pe_int)) (pa_cons pe_int pa_nil)))) (pe_listRg rfl (by rfl) T.n_list (prg_1 (by rfl) T.n_range pe_int)) (by rfl)))
    walk_at "sx"
    refine slL hA fun c1 n1 => ⟨sz_ok (by omega), fun c2 n2 => ?_⟩
    have x1 : Ex H (upd H c1 (.lst (cutV (ns.map V.int) none (some 4)))) := Ex.new n1
    have x2 := Ex.new n2 (o := .lst [V.int 0])
    have hl4 : (cutV (ns.map V.int) none (some 4)).length ≤ 63 := Nat.le_trans (cutV_len _ _ _) (by rw [List.length_map]; exact hn)
    refine catL (x2 _ _ upd_same) upd_same (sz_ok (by rw [List.length_cons, List.length_nil]; omega)) fun L nL => ?_
    walk_at "sx"
    refine ⟨_, .inl (.inl upd_same), ?_⟩
    have x3 := (x1.trans x2).trans (Ex.new nL (o := .lst (cutV (ns.map V.int) none (some 4) ++ [V.int 0])))
    generalize hH1 : (upd (upd (upd H c1 (.lst (cutV (ns.map V.int) none (some 4)))) c2 (.lst [V.int 0])) L (.lst (cutV (ns.map V.int) none (some 4) ++ [V.int 0]))) = H1 at x3 ⊢
    have hL : H1 L = some (.lst (cutV (ns.map V.int) none (some 4) ++ [V.int 0])) := by rw [← hH1]; exact upd_same
    have hA1 : SqL K H1 a (ns.map V.int) := ex_l x3 hA
    refine lg_enum (xs := cutV (ns.map V.int) none (some 4) ++ [V.int 0]) (JO H1 a) ⟨none, none, none, none, none, none, none, none, none, rfl, Ex.refl H1⟩ (fun i σ' H' hi hP => by obtain ⟨_, _, _, _, _, _, _, _, _, _, e⟩ := hP; exact .inl (.inl (e _ _ hL)))
      (fun i x σ' H' T hx hP nT => ?_) (fun σ' H' hP => ?_)
    · obtain ⟨l1, l2, l3, l4, l5, l6, l7, l8, l9, rfl, e⟩ := hP
      obtain ⟨n, rfl⟩ : ∃ n, x = .int n := by
        have := List.mem_of_getElem? hx
        rcases List.mem_append.mp this with h | h
        · obtain ⟨n, _, e⟩ := List.mem_map.mp (cutV_mem h)
          exact ⟨n, e.symm⟩
        · exact ⟨0, List.mem_singleton.mp h⟩
      refine g_two upd_same ?_
      simp only [List.set_cons_zero, List.set_cons_succ]
      refine seq_asg (fun v H2 => ∃ b, v = .ref b ∧ H' b = none ∧ Ex H' H2 ∧ BagAt H2 b 0) (fun R hR => ?_) (fun v H2 hC => ?_)
      · walk_at "sx"
        refine ⟨n, rfl, fun b H2 nb e2 hb => ?_⟩
        exact hR _ _ ⟨b, rfl, fresh_back (Ex.new nT) nb, (Ex.new nT).trans e2, hb⟩
      obtain ⟨b, rfl, nb, e2, hb⟩ := hC
      have e3 := e.trans e2
      refine seq_asg (fun v H4 => ∃ bb, v = .bl bb ∧ Ex H2 H4) (fun R hR => ?_) (fun v H4 hC => ?_)
      · walk_at "sx"
        refine slL (ex_l e3 hA1) fun z nz => ?_
        refine lenL (.inl (.inl upd_same)) ?_
        exact ⟨rfl, hR _ _ ⟨_, rfl, Ex.new nz⟩⟩
      obtain ⟨bb, rfl, e4⟩ := hC
      have hb4 := hb.ex e4
      refine seq_asg (fun v H5 => ∃ m : Nat, v = .int m ∧ 1 ≤ m ∧ m ≤ 40 ∧ Fx b H4 H5 ∧ BagAt H5 b 2) (fun R hR => ?_) (fun v H6 hC => ?_)
      · walk_at "sx"
        refine ⟨b, _, _, rfl, by omega, big_of (by omega), hb4, by omega, fun r1 H5 r10 r11 f5 b5 => ?_⟩
        walk_at "sx"
        refine ⟨sz_ok (by omega), fun z1 nz1 => ?_⟩
        have w1 := Ex.new nz1 (o := .lst [V.int (1 + r1), V.int 40])
        refine ⟨b, _, _, rfl, by omega, big_of (by omega), b5.ex w1, by omega, fun r2 H6 r20 r21 f6 b6 => ?_⟩
        obtain ⟨m', hm', em⟩ := pickI (ns := [1 + r1, 40]) r20 r21
        refine ixL (.inl (.inl (f6 _ _ (b5.apart nz1) upd_same))) em ?_
        simp only [List.mem_cons, List.mem_nil_iff, or_false] at hm'
        exact hR _ _ ⟨m'.toNat, by rw [Int.toNat_of_nonneg (by omega)], by omega, by omega, (f5.trans (Fx.of w1)).trans f6, b6⟩
      obtain ⟨m, rfl, m1, m2, f6, b6⟩ := hC
      refine seq_asg (fun v H7 => ∃ t : Nat, v = .int t ∧ t ≤ 300 ∧ Fx b H6 H7 ∧ BagAt H7 b 3) (fun R hR => ?_) (fun v H7 hC => ?_)
      · have dr : ∀ (q : Int) (Hz : Hp), Ex H6 Hz → 0 < q → q ≤ 301 → spDraw [.ref b, .int q] Hz R E0 := fun q Hz ez q0 q1 => ⟨b, q, 2, rfl, q0, big_of (by omega), b6.ex ez, by omega, fun r H5 r0 r1 f5 b5 => hR _ _ ⟨r.toNat, by rw [Int.toNat_of_nonneg r0], by omega, (Fx.of ez).trans f5, b5⟩⟩
        walk_at "sx"
        cases bb
        · rw [if_neg (by decide)]
          refine ⟨sz_ok (by omega), fun z1 nz1 => .inr ?_⟩
          have w1 := Ex.new nz1 (o := .lst [V.int 301, V.int 101])
          by_cases q : 0 < (i : Int)
          · rw [if_pos q]
            exact ixL (.inl (.inl upd_same)) (atI_n (j := 1) rfl rfl) (dr 101 _ w1 (by omega) (by omega))
          · rw [if_neg q]
            exact ixL (.inl (.inl upd_same)) (atI_n (j := 0) rfl rfl) (dr 301 _ w1 (by omega) (by omega))
        · rw [if_pos (by rfl)]
          exact dr 5 _ (Ex.refl _) (by omega) (by omega)
      obtain ⟨t, rfl, ht, f7, b7⟩ := hC
      have hpage : ∀ (xs : List Int), Pg m xs → Pg 40 xs := fun xs h => h.mono (by omega)
      walk_at "sx"
      refine ⟨b, m, t, 3, rfl, m1, m2, ht, b7, by omega, fun ra La H8 nra f8 b8 hra lLa oka => ?_⟩
      refine ⟨b, m, m, ra, La, _, rfl, m1, m2, m2, hra, by omega, oka, b7.apart nra, b8, by omega, fun H9 f9 b9 => ?_⟩
      walk_at "sx"
      refine ⟨_, _, ⟨rfl, rfl⟩, ?_⟩
      rw [min_if]
      refine ⟨b, 40, min t 60, _, rfl, by omega, by omega, by omega, b9, by omega, fun rb Lb H10 nrb f10 b10 hrb lLb okb => ?_⟩
      refine ⟨b, m, 40, rb, Lb, _, rfl, m1, m2, by omega, hrb, by omega, okb, b9.apart nrb, b10, by omega, fun H11 f11 b11 => ?_⟩
      walk_at "sx"
      refine ⟨_, _, ⟨rfl, rfl⟩, ?_⟩
      rw [min_if]
      refine ⟨b, m, min t 60, _, rfl, m1, m2, by omega, b11, by omega, fun rc R H12 nrc f12 b12 hrc lR pR => ?_⟩
      refine ⟨m, rc, R, rfl, m1, m2, .inl (.inl hrc), by omega, pR, fun H13 e13 => ?_⟩
      have hrc13 := e13 _ _ hrc
      refine ⟨rc, R, rfl, .inl (.inl hrc13), by omega, fun sz H14 nsz e14 hsz => ?_⟩
      rw [lens_eq] at hsz
      refine ⟨_, _, ⟨rfl, rfl⟩, ?_⟩
      refine ⟨m, sz, R, rfl, m1, m2, .inl (.inl hsz), by omega, pR, fun v1 H15 nv1 e15 hv1 => ?_⟩
      have hrc15 := e15 _ _ (e14 _ _ hrc13)
      refine neInts (.inl (.inl hv1)) (.inl (.inl hrc15)) ?_
      walk_at "sx"
      refine ⟨m, sz, R, rfl, m1, m2, e15 _ _ hsz, by omega, pR, fun v2 H16 nv2 e16 hv2 => ?_⟩
      refine neInts (.inl (.inl hv2)) (.inl (.inl (e16 _ _ hrc15))) ?_
      walk_at "sx"
      have ff := ((((((((Fx.of (b := b) (e2.trans e4)).trans f6).trans f7).trans f8).trans f9).trans f10).trans f11).trans f12).trans (Fx.of (((e13.trans e14).trans e15).trans e16))
      exact ⟨_, _, _, _, _, _, _, _, _, rfl, e.trans (ff.ex nb)⟩
    · obtain ⟨l1, l2, l3, l4, l5, l6, l7, l8, l9, rfl, e⟩ := hP
      walk_at "sx"
      refine ⟨by first | decide | exact ⟨by omega, by omega⟩, fun q1 nq1 => ?_⟩
      refine ⟨40, q1, R40, by rw [r40_vr]; rfl, by omega, by omega, .inl (.inl (by rw [upd_same, r40_lens])), by decide, r40_pg, fun r H2 nr e2 hr => ?_⟩
      refine ⟨by first | decide | exact ⟨by omega, by omega⟩, fun q2 nq2 => ?_⟩
      refine eqInts (ns := R40) (ms := R40) (.inl (.inl ((Ex.new nq2) _ _ hr))) (.inl (.inl (by rw [upd_same, r40_rg]))) ?_
      rw [decide_eq_true rfl]
      exact k _
end
end LW

set_option Elab.async false
set_option linter.all false
set_option maxRecDepth 100000
set_option maxHeartbeats 4000000
namespace LW
open PySem PySem.Spec PyProof.Rows L2 BC Evl TR LN VS FM

theorem all_mk {l : PySem.W.OpenLaw} {w : World} {K : PySem.W.Frag} {h : Heap} {mg : Str → Option Value} {fa : Addr} (X : K.In h) (G : h.Ns mainGlobals mg) (hfa : mg "law" = some (.ref fa))
    {f0 : Addr} {od0 an0 : Option Addr} {sl0 : Array (Option Value)} {oc0 kV0 dc0 pm0 cd0 ct0 : Value}
    {f1 : Addr} {od1 an1 : Option Addr} {sl1 : Array (Option Value)} {oc1 kV1 dc1 pm1 cd1 ct1 : Value}
    {f2 : Addr} {od2 an2 : Option Addr} {sl2 : Array (Option Value)} {oc2 kV2 dc2 pm2 cd2 ct2 : Value}
    {f3 : Addr} {od3 an3 : Option Addr} {sl3 : Array (Option Value)} {oc3 kV3 dc3 pm3 cd3 ct3 : Value}
    {f4 : Addr} {od4 an4 : Option Addr} {sl4 : Array (Option Value)} {oc4 kV4 dc4 pm4 cd4 ct4 : Value}
    {f5 : Addr} {od5 an5 : Option Addr} {sl5 : Array (Option Value)} {oc5 kV5 dc5 pm5 cd5 ct5 : Value}
    {f6 : Addr} {od6 an6 : Option Addr} {sl6 : Array (Option Value)} {oc6 kV6 dc6 pm6 cd6 ct6 : Value}
    {f7 : Addr} {od7 an7 : Option Addr} {sl7 : Array (Option Value)} {oc7 kV7 dc7 pm7 cd7 ct7 : Value}
    {f8 : Addr} {od8 an8 : Option Addr} {sl8 : Array (Option Value)} {oc8 kV8 dc8 pm8 cd8 ct8 : Value}
    {f9 : Addr} {od9 an9 : Option Addr} {sl9 : Array (Option Value)} {oc9 kV9 dc9 pm9 cd9 ct9 : Value}
    {f10 : Addr} {od10 an10 : Option Addr} {sl10 : Array (Option Value)} {oc10 kV10 dc10 pm10 cd10 ct10 : Value}
    {f11 : Addr} {od11 an11 : Option Addr} {sl11 : Array (Option Value)} {oc11 kV11 dc11 pm11 cd11 ct11 : Value}
    {f12 : Addr} {od12 an12 : Option Addr} {sl12 : Array (Option Value)} {oc12 kV12 dc12 pm12 cd12 ct12 : Value}
    {f13 : Addr} {od13 an13 : Option Addr} {sl13 : Array (Option Value)} {oc13 kV13 dc13 pm13 cd13 ct13 : Value}
    {f14 : Addr} {od14 an14 : Option Addr} {sl14 : Array (Option Value)} {oc14 kV14 dc14 pm14 cd14 ct14 : Value}
    {f15 : Addr} {od15 an15 : Option Addr} {sl15 : Array (Option Value)} {oc15 kV15 dc15 pm15 cd15 ct15 : Value}
    {f16 : Addr} {od16 an16 : Option Addr} {sl16 : Array (Option Value)} {oc16 kV16 dc16 pm16 cd16 ct16 : Value}
    {f17 : Addr} {od17 an17 : Option Addr} {sl17 : Array (Option Value)} {oc17 kV17 dc17 pm17 cd17 ct17 : Value}
    {f18 : Addr} {od18 an18 : Option Addr} {sl18 : Array (Option Value)} {oc18 kV18 dc18 pm18 cd18 ct18 : Value}
    {f19 : Addr} {od19 an19 : Option Addr} {sl19 : Array (Option Value)} {oc19 kV19 dc19 pm19 cd19 ct19 : Value}
    {f20 : Addr} {od20 an20 : Option Addr} {sl20 : Array (Option Value)} {oc20 kV20 dc20 pm20 cd20 ct20 : Value}
    {f21 : Addr} {od21 an21 : Option Addr} {sl21 : Array (Option Value)} {oc21 kV21 dc21 pm21 cd21 ct21 : Value}
    {f22 : Addr} {od22 an22 : Option Addr} {sl22 : Array (Option Value)} {oc22 kV22 dc22 pm22 cd22 ct22 : Value}
    {f23 : Addr} {od23 an23 : Option Addr} {sl23 : Array (Option Value)} {oc23 kV23 dc23 pm23 cd23 ct23 : Value}
    {f24 : Addr} {od24 an24 : Option Addr} {sl24 : Array (Option Value)} {oc24 kV24 dc24 pm24 cd24 ct24 : Value}
    {f25 : Addr} {od25 an25 : Option Addr} {sl25 : Array (Option Value)} {oc25 kV25 dc25 pm25 cd25 ct25 : Value}
    {tt_MOST_PAGE : Tok}
    {tt_MOST_PAGES : Tok}
    {tt_MOST_VISITS_lengths : Tok}
    {tt_MOST_VISITS_trails : Tok}
    (a0 : PySem.W.nsIn K mainGlobals "is_integer" = some (some (.ref f0))) (l0 : K.lookup f0 = some ⟨oc0, od0, .func (PySem.W.fnOf "is_integer" "is_integer" (defArgs s_is_integer) (defBody s_is_integer) (defScope s_is_integer) .none kV0 dc0 pm0 an0 cd0 ct0), sl0⟩) (c0 : PySem.W.codeIn K cd0 "is_integer" = true) (k0 : PySem.W.keepIn K (.ref f0) = true)
    (a1 : PySem.W.nsIn K mainGlobals "check_number" = some (some (.ref f1))) (l1 : K.lookup f1 = some ⟨oc1, od1, .func (PySem.W.fnOf "check_number" "check_number" (defArgs s_check_number) (defBody s_check_number) (defScope s_check_number) .none kV1 dc1 pm1 an1 cd1 ct1), sl1⟩) (c1 : PySem.W.codeIn K cd1 "check_number" = true) (k1 : PySem.W.keepIn K (.ref f1) = true)
    (a2 : PySem.W.nsIn K mainGlobals "is_page" = some (some (.ref f2))) (l2 : K.lookup f2 = some ⟨oc2, od2, .func (PySem.W.fnOf "is_page" "is_page" (defArgs s_is_page) (defBody s_is_page) (defScope s_is_page) .none kV2 dc2 pm2 an2 cd2 ct2), sl2⟩) (c2 : PySem.W.codeIn K cd2 "is_page" = true) (k2 : PySem.W.keepIn K (.ref f2) = true)
    (a3 : PySem.W.nsIn K mainGlobals "is_visits" = some (some (.ref f3))) (l3 : K.lookup f3 = some ⟨oc3, od3, .func (PySem.W.fnOf "is_visits" "is_visits" (defArgs s_is_visits) (defBody s_is_visits) (defScope s_is_visits) .none kV3 dc3 pm3 an3 cd3 ct3), sl3⟩) (c3 : PySem.W.codeIn K cd3 "is_visits" = true) (k3 : PySem.W.keepIn K (.ref f3) = true)
    (a4 : PySem.W.nsIn K mainGlobals "check_visits" = some (some (.ref f4))) (l4 : K.lookup f4 = some ⟨oc4, od4, .func (PySem.W.fnOf "check_visits" "check_visits" (defArgs s_check_visits) (defBody s_check_visits) (defScope s_check_visits) .none kV4 dc4 pm4 an4 cd4 ct4), sl4⟩) (c4 : PySem.W.codeIn K cd4 "check_visits" = true) (k4 : PySem.W.keepIn K (.ref f4) = true)
    (a5 : PySem.W.nsIn K mainGlobals "visited" = some (some (.ref f5))) (l5 : K.lookup f5 = some ⟨oc5, od5, .func (PySem.W.fnOf "visited" "visited" (defArgs s_visited) (defBody s_visited) (defScope s_visited) .none kV5 dc5 pm5 an5 cd5 ct5), sl5⟩) (c5 : PySem.W.codeIn K cd5 "visited" = true) (k5 : PySem.W.keepIn K (.ref f5) = true)
    (a6 : PySem.W.nsIn K mainGlobals "is_lengths" = some (some (.ref f6))) (l6 : K.lookup f6 = some ⟨oc6, od6, .func (PySem.W.fnOf "is_lengths" "is_lengths" (defArgs s_is_lengths) (defBody s_is_lengths) (defScope s_is_lengths) .none kV6 dc6 pm6 an6 cd6 ct6), sl6⟩) (c6 : PySem.W.codeIn K cd6 "is_lengths" = true) (k6 : PySem.W.keepIn K (.ref f6) = true)
    (a7 : PySem.W.nsIn K mainGlobals "check_lengths" = some (some (.ref f7))) (l7 : K.lookup f7 = some ⟨oc7, od7, .func (PySem.W.fnOf "check_lengths" "check_lengths" (defArgs s_check_lengths) (defBody s_check_lengths) (defScope s_check_lengths) .none kV7 dc7 pm7 an7 cd7 ct7), sl7⟩) (c7 : PySem.W.codeIn K cd7 "check_lengths" = true) (k7 : PySem.W.keepIn K (.ref f7) = true)
    (a8 : PySem.W.nsIn K mainGlobals "lengths_in" = some (some (.ref f8))) (l8 : K.lookup f8 = some ⟨oc8, od8, .func (PySem.W.fnOf "lengths_in" "lengths_in" (defArgs s_lengths_in) (defBody s_lengths_in) (defScope s_lengths_in) .none kV8 dc8 pm8 an8 cd8 ct8), sl8⟩) (c8 : PySem.W.codeIn K cd8 "lengths_in" = true) (k8 : PySem.W.keepIn K (.ref f8) = true)
    (a9 : PySem.W.nsIn K mainGlobals "lengths_of" = some (some (.ref f9))) (l9 : K.lookup f9 = some ⟨oc9, od9, .func (PySem.W.fnOf "lengths_of" "lengths_of" (defArgs s_lengths_of) (defBody s_lengths_of) (defScope s_lengths_of) .none kV9 dc9 pm9 an9 cd9 ct9), sl9⟩) (c9 : PySem.W.codeIn K cd9 "lengths_of" = true) (k9 : PySem.W.keepIn K (.ref f9) = true)
    (a10 : PySem.W.nsIn K mainGlobals "factors_of" = some (some (.ref f10))) (l10 : K.lookup f10 = some ⟨oc10, od10, .func (PySem.W.fnOf "factors_of" "factors_of" (defArgs s_factors_of) (defBody s_factors_of) (defScope s_factors_of) .none kV10 dc10 pm10 an10 cd10 ct10), sl10⟩) (c10 : PySem.W.codeIn K cd10 "factors_of" = true) (k10 : PySem.W.keepIn K (.ref f10) = true)
    (a11 : PySem.W.nsIn K mainGlobals "products_behind" = some (some (.ref f11))) (l11 : K.lookup f11 = some ⟨oc11, od11, .func (PySem.W.fnOf "products_behind" "products_behind" (defArgs s_products_behind) (defBody s_products_behind) (defScope s_products_behind) .none kV11 dc11 pm11 an11 cd11 ct11), sl11⟩) (c11 : PySem.W.codeIn K cd11 "products_behind" = true) (k11 : PySem.W.keepIn K (.ref f11) = true)
    (a12 : PySem.W.nsIn K mainGlobals "count_visits" = some (some (.ref f12))) (l12 : K.lookup f12 = some ⟨oc12, od12, .func (PySem.W.fnOf "count_visits" "count_visits" (defArgs s_count_visits) (defBody s_count_visits) (defScope s_count_visits) .none kV12 dc12 pm12 an12 cd12 ct12), sl12⟩) (c12 : PySem.W.codeIn K cd12 "count_visits" = true) (k12 : PySem.W.keepIn K (.ref f12) = true)
    (a13 : PySem.W.nsIn K mainGlobals "nth_visits" = some (some (.ref f13))) (l13 : K.lookup f13 = some ⟨oc13, od13, .func (PySem.W.fnOf "nth_visits" "nth_visits" (defArgs s_nth_visits) (defBody s_nth_visits) (defScope s_nth_visits) .none kV13 dc13 pm13 an13 cd13 ct13), sl13⟩) (c13 : PySem.W.codeIn K cd13 "nth_visits" = true) (k13 : PySem.W.keepIn K (.ref f13) = true)
    (a14 : PySem.W.nsIn K mainGlobals "visits_rank" = some (some (.ref f14))) (l14 : K.lookup f14 = some ⟨oc14, od14, .func (PySem.W.fnOf "visits_rank" "visits_rank" (defArgs s_visits_rank) (defBody s_visits_rank) (defScope s_visits_rank) .none kV14 dc14 pm14 an14 cd14 ct14), sl14⟩) (c14 : PySem.W.codeIn K cd14 "visits_rank" = true) (k14 : PySem.W.keepIn K (.ref f14) = true)
    (a15 : PySem.W.nsIn K mainGlobals "_law_bag" = some (some (.ref f15))) (l15 : K.lookup f15 = some ⟨oc15, od15, .func (PySem.W.fnOf "_law_bag" "_law_bag" (defArgs s_law_bag) (defBody s_law_bag) (defScope s_law_bag) .none kV15 dc15 pm15 an15 cd15 ct15), sl15⟩) (c15 : PySem.W.codeIn K cd15 "_law_bag" = true) (k15 : PySem.W.keepIn K (.ref f15) = true)
    (a16 : PySem.W.nsIn K mainGlobals "_law_draw" = some (some (.ref f16))) (l16 : K.lookup f16 = some ⟨oc16, od16, .func (PySem.W.fnOf "_law_draw" "_law_draw" (defArgs s_law_draw) (defBody s_law_draw) (defScope s_law_draw) .none kV16 dc16 pm16 an16 cd16 ct16), sl16⟩) (c16 : PySem.W.codeIn K cd16 "_law_draw" = true) (k16 : PySem.W.keepIn K (.ref f16) = true)
    (a17 : PySem.W.nsIn K mainGlobals "_law_equal" = some (some (.ref f17))) (l17 : K.lookup f17 = some ⟨oc17, od17, .func (PySem.W.fnOf "_law_equal" "_law_equal" (defArgs s_law_equal) (defBody s_law_equal) (defScope s_law_equal) .none kV17 dc17 pm17 an17 cd17 ct17), sl17⟩) (c17 : PySem.W.codeIn K cd17 "_law_equal" = true) (k17 : PySem.W.keepIn K (.ref f17) = true)
    (a18 : PySem.W.nsIn K mainGlobals "_law_after" = some (some (.ref f18))) (l18 : K.lookup f18 = some ⟨oc18, od18, .func (PySem.W.fnOf "_law_after" "_law_after" (defArgs s_law_after) (defBody s_law_after) (defScope s_law_after) .none kV18 dc18 pm18 an18 cd18 ct18), sl18⟩) (c18 : PySem.W.codeIn K cd18 "_law_after" = true) (k18 : PySem.W.keepIn K (.ref f18) = true)
    (a19 : PySem.W.nsIn K mainGlobals "_law_sizes" = some (some (.ref f19))) (l19 : K.lookup f19 = some ⟨oc19, od19, .func (PySem.W.fnOf "_law_sizes" "_law_sizes" (defArgs s_law_sizes) (defBody s_law_sizes) (defScope s_law_sizes) .none kV19 dc19 pm19 an19 cd19 ct19), sl19⟩) (c19 : PySem.W.codeIn K cd19 "_law_sizes" = true) (k19 : PySem.W.keepIn K (.ref f19) = true)
    (a20 : PySem.W.nsIn K mainGlobals "_law_row" = some (some (.ref f20))) (l20 : K.lookup f20 = some ⟨oc20, od20, .func (PySem.W.fnOf "_law_row" "_law_row" (defArgs s_law_row) (defBody s_law_row) (defScope s_law_row) .none kV20 dc20 pm20 an20 cd20 ct20), sl20⟩) (c20 : PySem.W.codeIn K cd20 "_law_row" = true) (k20 : PySem.W.keepIn K (.ref f20) = true)
    (a21 : PySem.W.nsIn K mainGlobals "_law_pages" = some (some (.ref f21))) (l21 : K.lookup f21 = some ⟨oc21, od21, .func (PySem.W.fnOf "_law_pages" "_law_pages" (defArgs s_law_pages) (defBody s_law_pages) (defScope s_law_pages) .none kV21 dc21 pm21 an21 cd21 ct21), sl21⟩) (c21 : PySem.W.codeIn K cd21 "_law_pages" = true) (k21 : PySem.W.keepIn K (.ref f21) = true)
    (a22 : PySem.W.nsIn K mainGlobals "_law_digits" = some (some (.ref f22))) (l22 : K.lookup f22 = some ⟨oc22, od22, .func (PySem.W.fnOf "_law_digits" "_law_digits" (defArgs s_law_digits) (defBody s_law_digits) (defScope s_law_digits) .none kV22 dc22 pm22 an22 cd22 ct22), sl22⟩) (c22 : PySem.W.codeIn K cd22 "_law_digits" = true) (k22 : PySem.W.keepIn K (.ref f22) = true)
    (a23 : PySem.W.nsIn K mainGlobals "_law_nth" = some (some (.ref f23))) (l23 : K.lookup f23 = some ⟨oc23, od23, .func (PySem.W.fnOf "_law_nth" "_law_nth" (defArgs s_law_nth) (defBody s_law_nth) (defScope s_law_nth) .none kV23 dc23 pm23 an23 cd23 ct23), sl23⟩) (c23 : PySem.W.codeIn K cd23 "_law_nth" = true) (k23 : PySem.W.keepIn K (.ref f23) = true)
    (a24 : PySem.W.nsIn K mainGlobals "_law_holds" = some (some (.ref f24))) (l24 : K.lookup f24 = some ⟨oc24, od24, .func (PySem.W.fnOf "_law_holds" "_law_holds" (defArgs s_law_holds) (defBody s_law_holds) (defScope s_law_holds) .none kV24 dc24 pm24 an24 cd24 ct24), sl24⟩) (c24 : PySem.W.codeIn K cd24 "_law_holds" = true) (k24 : PySem.W.keepIn K (.ref f24) = true)
    (a25 : PySem.W.nsIn K mainGlobals "law" = some (some (.ref f25))) (l25 : K.lookup f25 = some ⟨oc25, od25, .func (PySem.W.fnOf "law" "law" (defArgs s_law) (defBody s_law) (defScope s_law) .none kV25 dc25 pm25 an25 cd25 ct25), sl25⟩) (c25 : PySem.W.codeIn K cd25 "law" = true) (k25 : PySem.W.keepIn K (.ref f25) = true)
    (q_MOST_PAGE : PySem.W.nsIn K mainGlobals "MOST_PAGE" = some (some (.int 39 tt_MOST_PAGE)))
    (q_MOST_PAGES : PySem.W.nsIn K mainGlobals "MOST_PAGES" = some (some (.int 40 tt_MOST_PAGES)))
    (q_MOST_VISITS_lengths : PySem.W.nsIn K mainGlobals "MOST_VISITS_lengths" = some (some (.int 300 tt_MOST_VISITS_lengths)))
    (q_MOST_VISITS_trails : PySem.W.nsIn K mainGlobals "MOST_VISITS_trails" = some (some (.int 300 tt_MOST_VISITS_trails)))
    (z_all : PySem.W.nsIn K mainGlobals "all" = some none)
    (z_bool : PySem.W.nsIn K mainGlobals "bool" = some none)
    (z_divmod : PySem.W.nsIn K mainGlobals "divmod" = some none)
    (z_enumerate : PySem.W.nsIn K mainGlobals "enumerate" = some none)
    (z_int : PySem.W.nsIn K mainGlobals "int" = some none)
    (z_isinstance : PySem.W.nsIn K mainGlobals "isinstance" = some none)
    (z_len : PySem.W.nsIn K mainGlobals "len" = some none)
    (z_list : PySem.W.nsIn K mainGlobals "list" = some none)
    (z_max : PySem.W.nsIn K mainGlobals "max" = some none)
    (z_min : PySem.W.nsIn K mainGlobals "min" = some none)
    (z_range : PySem.W.nsIn K mainGlobals "range" = some none)
    (z_repr : PySem.W.nsIn K mainGlobals "repr" = some none)
    (z_str : PySem.W.nsIn K mainGlobals "str" = some none)
    (z_tuple : PySem.W.nsIn K mainGlobals "tuple" = some none)
    (z_zip : PySem.W.nsIn K mainGlobals "zip" = some none) :
    ∃ fd : FuncData, (∀ (s : Shared) (v : Value), BindsTo s fd ⟨[v], []⟩ [("_law_script", v)]) ∧ ∀ base : Heap, K.In base → base.Ns mainGlobals mg → FnG l.prog w K mg base CX0 7 fa fd ["_law_script"] (spLaw K) := by
  have e := hfa.symm.trans (PySem.W.mg_of X G a25)
  cases e
  let T : Txt K mg := ⟨f0, _, fun_mk (st := s_is_integer) l0 c0 k0, PySem.W.mg_of X G a0, (fun_mk (st := s_is_integer) l0 c0 k0).binds fun _ _ _ _ _ _ us hl => match us, hl with | [_, _, _], _ => rfl,
    f1, _, fun_mk (st := s_check_number) l1 c1 k1, PySem.W.mg_of X G a1, (fun_mk (st := s_check_number) l1 c1 k1).binds fun _ _ _ _ _ _ us hl => match us, hl with | [_, _, _], _ => rfl,
    f2, _, fun_mk (st := s_is_page) l2 c2 k2, PySem.W.mg_of X G a2, (fun_mk (st := s_is_page) l2 c2 k2).binds fun _ _ _ _ _ _ us hl => match us, hl with | [_], _ => rfl,
    f3, _, fun_mk (st := s_is_visits) l3 c3 k3, PySem.W.mg_of X G a3, (fun_mk (st := s_is_visits) l3 c3 k3).binds fun _ _ _ _ _ _ us hl => match us, hl with | [_], _ => rfl,
    f4, _, fun_mk (st := s_check_visits) l4 c4 k4, PySem.W.mg_of X G a4, (fun_mk (st := s_check_visits) l4 c4 k4).binds fun _ _ _ _ _ _ us hl => match us, hl with | [_], _ => rfl,
    f5, _, fun_mk (st := s_visited) l5 c5 k5, PySem.W.mg_of X G a5, (fun_mk (st := s_visited) l5 c5 k5).binds fun _ _ _ _ _ _ us hl => match us, hl with | [_, _], _ => rfl,
    f6, _, fun_mk (st := s_is_lengths) l6 c6 k6, PySem.W.mg_of X G a6, (fun_mk (st := s_is_lengths) l6 c6 k6).binds fun _ _ _ _ _ _ us hl => match us, hl with | [_], _ => rfl,
    f7, _, fun_mk (st := s_check_lengths) l7 c7 k7, PySem.W.mg_of X G a7, (fun_mk (st := s_check_lengths) l7 c7 k7).binds fun _ _ _ _ _ _ us hl => match us, hl with | [_], _ => rfl,
    f8, _, fun_mk (st := s_lengths_in) l8 c8 k8, PySem.W.mg_of X G a8, (fun_mk (st := s_lengths_in) l8 c8 k8).binds fun _ _ _ _ _ _ us hl => match us, hl with | [_], _ => rfl,
    f9, _, fun_mk (st := s_lengths_of) l9 c9 k9, PySem.W.mg_of X G a9, (fun_mk (st := s_lengths_of) l9 c9 k9).binds fun _ _ _ _ _ _ us hl => match us, hl with | [_], _ => rfl,
    f10, _, fun_mk (st := s_factors_of) l10 c10 k10, PySem.W.mg_of X G a10, (fun_mk (st := s_factors_of) l10 c10 k10).binds fun _ _ _ _ _ _ us hl => match us, hl with | [_, _], _ => rfl,
    f11, _, fun_mk (st := s_products_behind) l11 c11 k11, PySem.W.mg_of X G a11, (fun_mk (st := s_products_behind) l11 c11 k11).binds fun _ _ _ _ _ _ us hl => match us, hl with | [_], _ => rfl,
    f12, _, fun_mk (st := s_count_visits) l12 c12 k12, PySem.W.mg_of X G a12, (fun_mk (st := s_count_visits) l12 c12 k12).binds fun _ _ _ _ _ _ us hl => match us, hl with | [_, _], _ => rfl,
    f13, _, fun_mk (st := s_nth_visits) l13 c13 k13, PySem.W.mg_of X G a13, (fun_mk (st := s_nth_visits) l13 c13 k13).binds fun _ _ _ _ _ _ us hl => match us, hl with | [_, _, _], _ => rfl,
    f14, _, fun_mk (st := s_visits_rank) l14 c14 k14, PySem.W.mg_of X G a14, (fun_mk (st := s_visits_rank) l14 c14 k14).binds fun _ _ _ _ _ _ us hl => match us, hl with | [_, _], _ => rfl,
    f15, _, fun_mk (st := s_law_bag) l15 c15 k15, PySem.W.mg_of X G a15, (fun_mk (st := s_law_bag) l15 c15 k15).binds fun _ _ _ _ _ _ us hl => match us, hl with | [_], _ => rfl,
    f16, _, fun_mk (st := s_law_draw) l16 c16 k16, PySem.W.mg_of X G a16, (fun_mk (st := s_law_draw) l16 c16 k16).binds fun _ _ _ _ _ _ us hl => match us, hl with | [_, _], _ => rfl,
    f17, _, fun_mk (st := s_law_equal) l17 c17 k17, PySem.W.mg_of X G a17, (fun_mk (st := s_law_equal) l17 c17 k17).binds fun _ _ _ _ _ _ us hl => match us, hl with | [_, _], _ => rfl,
    f18, _, fun_mk (st := s_law_after) l18 c18 k18, PySem.W.mg_of X G a18, (fun_mk (st := s_law_after) l18 c18 k18).binds fun _ _ _ _ _ _ us hl => match us, hl with | [_, _], _ => rfl,
    f19, _, fun_mk (st := s_law_sizes) l19 c19 k19, PySem.W.mg_of X G a19, (fun_mk (st := s_law_sizes) l19 c19 k19).binds fun _ _ _ _ _ _ us hl => match us, hl with | [_], _ => rfl,
    f20, _, fun_mk (st := s_law_row) l20 c20 k20, PySem.W.mg_of X G a20, (fun_mk (st := s_law_row) l20 c20 k20).binds fun _ _ _ _ _ _ us hl => match us, hl with | [_, _, _], _ => rfl,
    f21, _, fun_mk (st := s_law_pages) l21 c21 k21, PySem.W.mg_of X G a21, (fun_mk (st := s_law_pages) l21 c21 k21).binds fun _ _ _ _ _ _ us hl => match us, hl with | [_, _, _], _ => rfl,
    f22, _, fun_mk (st := s_law_digits) l22 c22 k22, PySem.W.mg_of X G a22, (fun_mk (st := s_law_digits) l22 c22 k22).binds fun _ _ _ _ _ _ us hl => match us, hl with | [_, _], _ => rfl,
    f23, _, fun_mk (st := s_law_nth) l23 c23 k23, PySem.W.mg_of X G a23, (fun_mk (st := s_law_nth) l23 c23 k23).binds fun _ _ _ _ _ _ us hl => match us, hl with | [_, _, _], _ => rfl,
    f24, _, fun_mk (st := s_law_holds) l24 c24 k24, PySem.W.mg_of X G a24, (fun_mk (st := s_law_holds) l24 c24 k24).binds fun _ _ _ _ _ _ us hl => match us, hl with | [_, _, _], _ => rfl,
    fa, _, fun_mk (st := s_law) l25 c25 k25, PySem.W.mg_of X G a25, (fun_mk (st := s_law) l25 c25 k25).binds fun _ _ _ _ _ _ us hl => match us, hl with | [_], _ => rfl,
    tt_MOST_PAGE, PySem.W.mg_of X G q_MOST_PAGE,
    tt_MOST_PAGES, PySem.W.mg_of X G q_MOST_PAGES,
    tt_MOST_VISITS_lengths, PySem.W.mg_of X G q_MOST_VISITS_lengths,
    tt_MOST_VISITS_trails, PySem.W.mg_of X G q_MOST_VISITS_trails,
    PySem.W.mg_none_of X G z_all,
    PySem.W.mg_none_of X G z_bool,
    PySem.W.mg_none_of X G z_divmod,
    PySem.W.mg_none_of X G z_enumerate,
    PySem.W.mg_none_of X G z_int,
    PySem.W.mg_none_of X G z_isinstance,
    PySem.W.mg_none_of X G z_len,
    PySem.W.mg_none_of X G z_list,
    PySem.W.mg_none_of X G z_max,
    PySem.W.mg_none_of X G z_min,
    PySem.W.mg_none_of X G z_range,
    PySem.W.mg_none_of X G z_repr,
    PySem.W.mg_none_of X G z_str,
    PySem.W.mg_none_of X G z_tuple,
    PySem.W.mg_none_of X G z_zip⟩
  exact ⟨T.fd_law, fun s v => .of_eq rfl, fun base _ _ => ok_law T⟩

end LW
open PySem PySem.W PyProof.Rows
set_option maxHeartbeats 0 in
theorem PySem.Challenge.cw_breadcrumbs_k67_many_visits_with_lengths_holds : PySem.Challenge.rw_breadcrumbs_k67_many_visits_with_lengths.Holds := by
  w_on; o_law; k_head; (case hw => w_witness2)
  k_fill
  refine BC.walk_G (l := PySem.Challenge.rw_breadcrumbs_k67_many_visits_with_lengths) (n := 63) (k := 7) (x := "_law_script") (sp := fun w => LW.spLaw _) rfl (by decide) rfl ⟨rfl, by decide, by decide⟩ (fun w h Y => PySem.W.kIn_of Y) ?F (fun w H a ns hl hS => ⟨a, ns, rfl, hS, hl, fun _ => rfl⟩)
  case F =>
    intro w mg fa h KX G hmg
    refine' LW.all_mk KX G hmg ?a0 ?l0 ?c0 ?k0 ?a1 ?l1 ?c1 ?k1 ?a2 ?l2 ?c2 ?k2 ?a3 ?l3 ?c3 ?k3 ?a4 ?l4 ?c4 ?k4 ?a5 ?l5 ?c5 ?k5 ?a6 ?l6 ?c6 ?k6 ?a7 ?l7 ?c7 ?k7 ?a8 ?l8 ?c8 ?k8 ?a9 ?l9 ?c9 ?k9 ?a10 ?l10 ?c10 ?k10 ?a11 ?l11 ?c11 ?k11 ?a12 ?l12 ?c12 ?k12 ?a13 ?l13 ?c13 ?k13 ?a14 ?l14 ?c14 ?k14 ?a15 ?l15 ?c15 ?k15 ?a16 ?l16 ?c16 ?k16 ?a17 ?l17 ?c17 ?k17 ?a18 ?l18 ?c18 ?k18 ?a19 ?l19 ?c19 ?k19 ?a20 ?l20 ?c20 ?k20 ?a21 ?l21 ?c21 ?k21 ?a22 ?l22 ?c22 ?k22 ?a23 ?l23 ?c23 ?k23 ?a24 ?l24 ?c24 ?k24 ?a25 ?l25 ?c25 ?k25 ?q_MOST_PAGE ?q_MOST_PAGES ?q_MOST_VISITS_lengths ?q_MOST_VISITS_trails ?z_all ?z_bool ?z_divmod ?z_enumerate ?z_int ?z_isinstance ?z_len ?z_list ?z_max ?z_min ?z_range ?z_repr ?z_str ?z_tuple ?z_zip
    (case a0 => k_is); (case l0 => k_is); (case c0 => k_is); (case k0 => k_is); (case a1 => k_is); (case l1 => k_is); (case c1 => k_is); (case k1 => k_is); (case a2 => k_is); (case l2 => k_is); (case c2 => k_is); (case k2 => k_is); (case a3 => k_is); (case l3 => k_is); (case c3 => k_is); (case k3 => k_is); (case a4 => k_is); (case l4 => k_is); (case c4 => k_is); (case k4 => k_is); (case a5 => k_is); (case l5 => k_is); (case c5 => k_is); (case k5 => k_is); (case a6 => k_is); (case l6 => k_is); (case c6 => k_is); (case k6 => k_is); (case a7 => k_is); (case l7 => k_is); (case c7 => k_is); (case k7 => k_is); (case a8 => k_is); (case l8 => k_is); (case c8 => k_is); (case k8 => k_is); (case a9 => k_is); (case l9 => k_is); (case c9 => k_is); (case k9 => k_is); (case a10 => k_is); (case l10 => k_is); (case c10 => k_is); (case k10 => k_is); (case a11 => k_is); (case l11 => k_is); (case c11 => k_is); (case k11 => k_is); (case a12 => k_is); (case l12 => k_is); (case c12 => k_is); (case k12 => k_is); (case a13 => k_is); (case l13 => k_is); (case c13 => k_is); (case k13 => k_is); (case a14 => k_is); (case l14 => k_is); (case c14 => k_is); (case k14 => k_is); (case a15 => k_is); (case l15 => k_is); (case c15 => k_is); (case k15 => k_is); (case a16 => k_is); (case l16 => k_is); (case c16 => k_is); (case k16 => k_is); (case a17 => k_is); (case l17 => k_is); (case c17 => k_is); (case k17 => k_is); (case a18 => k_is); (case l18 => k_is); (case c18 => k_is); (case k18 => k_is); (case a19 => k_is); (case l19 => k_is); (case c19 => k_is); (case k19 => k_is); (case a20 => k_is); (case l20 => k_is); (case c20 => k_is); (case k20 => k_is); (case a21 => k_is); (case l21 => k_is); (case c21 => k_is); (case k21 => k_is); (case a22 => k_is); (case l22 => k_is); (case c22 => k_is); (case k22 => k_is); (case a23 => k_is); (case l23 => k_is); (case c23 => k_is); (case k23 => k_is); (case a24 => k_is); (case l24 => k_is); (case c24 => k_is); (case k24 => k_is); (case a25 => k_is); (case l25 => k_is); (case c25 => k_is); (case k25 => k_is); (case q_MOST_PAGE => k_is); (case q_MOST_PAGES => k_is); (case q_MOST_VISITS_lengths => k_is); (case q_MOST_VISITS_trails => k_is); (case z_all => k_is); (case z_bool => k_is); (case z_divmod => k_is); (case z_enumerate => k_is); (case z_int => k_is); (case z_isinstance => k_is); (case z_len => k_is); (case z_list => k_is); (case z_max => k_is); (case z_min => k_is); (case z_range => k_is); (case z_repr => k_is); (case z_str => k_is); (case z_tuple => k_is); (case z_zip => k_is)

