import PyProof.Rows.All
import Wide.All
import OpenK.AllK
import Wide.FinOn
import HandS.ForMost
import HandS.IsInst
import HandS.Style
import HandS.Wide
import HandS.Evl
import HandS.Zip
import PySem.Challenge.RW_breadcrumbs_k59_free_visits_of_many_page
set_option Elab.async false
set_option linter.all false
set_option maxRecDepth 100000
set_option maxHeartbeats 4000000
namespace BC
open PySem PySem.Spec PyProof.Rows L2
section
variable {X : Cx}
/-- a power of a number of any size that matters here -/
def CPowX (i j : Int) : Prop := 0 ≤ j ∧ j ≤ 1000 ∧ i.natAbs.log2 < 100000
theorem op_powX : OpR X (binaryOp .Pow) (rI CPowX fun i j => .int (i ^ j.toNat)) := opI fun i j _ _ _ _ _ hc q => by
  obtain ⟨h0, h1, h2⟩ := hc
  refine pow_int h0 ?_ q
  have hb : Builtin.Int.intBits i ≤ 100000 := by
    unfold Builtin.Int.intBits
    split <;> omega
  have h3 : (Builtin.Int.intBits i : Int) * j ≤ 100000 * j := Int.mul_le_mul_of_nonneg_right (by omega) h0
  omega
/-- a product: one factor small, or both of bounded size -/
def CMulX (i j : Int) : Prop := CMul i j ∨ CMulW i j
theorem op_mulX : OpR X (binaryOp .Mult) (rI CMulX fun i j => .int (i * j)) := opI fun _ _ _ _ _ _ _ hc q => by
  rcases hc with hc | hc
  · exact mul_int q hc.ok
  · exact mul_int q hc.ok
theorem op_fdivX : OpR X (binaryOp .FloorDiv) (rI CDivW fun i j => .int (i / j)) := op_fdivW
theorem op_modX : OpR X (binaryOp .Mod) (rI (fun _ j => 0 < j) fun i j => .int (i % j)) := opI fun i j _ _ _ _ _ hc q => by
  refine mod_int' (show j ≠ 0 by omega) ?_
  rw [Int.fmod_eq_emod_of_nonneg i (by omega)]
  exact q
def ipC (C : Int → Int → Prop) (f : Int → Int → Int) : TIp := fun x y H Q => ∃ i j, x = .int i ∧ y = .int j ∧ C i j ∧ Q (.int (f i j)) H
theorem ip_mulX : PIp X .Mult (ipC CMulX fun i j => i * j) := by
  intro pins s σ H x y v u Q I r1 r2 h
  obtain ⟨i, j, rfl, rfl, hc, q⟩ := h
  obtain ⟨t, rfl⟩ := r1
  obtain ⟨t', rfl⟩ := r2
  have ok : IntMulOk i j := by
    rcases hc with hc | hc
    · exact hc.ok
    · exact hc.ok
  exact imul_int ⟨.int (i * j), H, I.tok _, ⟨_, rfl⟩, q⟩ ok
end
end BC

/-! ### readings opened one construct at a time: full applications alone, so that what stands in a loop is left closed -/
namespace BC
open PySem PySem.Spec PyProof.Rows L2
section
variable {K : PySem.W.Frag} {σ : L2.St} {H : Hp} {Q : VK} {QT : Bool → Hp → Prop} {QA : List V → Hp → Prop} {D : Ends} {ta tb tc : TE} {t u : TT} {a : TA} {r r' : R2} {i j : Nat} {v x y : V} {s1 s2 : TS} {g : TG} {QG : L2.St → Hp → Prop}
def LoopG (J : It) (g : TG) (tb : TS) : TS := fun D σ H => ∃ W : Nat → Nat → L2.St → Hp → Prop, (∃ m, W 0 m σ H) ∧ ∀ i m σ H, W i m σ H →
  (J.stop i H ∧ D.nx σ H) ∨ (J.go i H ∧ ∃ N : L2.St → Hp → Prop, (∀ σ' H', N σ' H' → ∃ m', m' < m ∧ W (i + 1) m' σ' H') ∧ ∀ x H', J.yld i H x H' → g x σ H' fun σ2 H2 => tb { D with nx := N, ct := N, bk := D.nx } σ2 H2)
def LcG (J : It) (g : TG) (tt : TT) (te : TE) (vs : List Nat) (σ : L2.St) (Dl : Addr) (H1 : Hp) (Q : VK) : Prop := ∃ W : Nat → Nat → Hp → Prop, (∃ m, W 0 m (upd H1 Dl (.lst []))) ∧ ∀ i m H, W i m H →
  (J.stop i H ∧ Q (.ref Dl) H) ∨ (J.go i H ∧ ∃ Nx : Hp → Prop, (∀ H', Nx H' → ∃ m', m' < m ∧ W (i + 1) m' H') ∧ ∀ x H', J.yld i H x H' → g x (wipe σ vs) H' fun σ2 H2 => wipe σ2 vs = wipe σ vs ∧ tt σ2 H2 fun b H3 =>
    if b = true then te σ2 H3 fun y H4 => ∃ acc, H4 Dl = some (.lst acc) ∧ acc.length < sizeLine ∧ Nx (upd H4 Dl (.lst (acc ++ [y]))) else Nx H3)
theorem x_seq : tSeq s1 s2 D σ H = s1 { D with nx := s2 D } σ H := rfl
theorem x_next : tNext D σ H = D.nx σ H := rfl
theorem x_brk : tBreak D σ H = D.bk σ H := rfl
theorem x_cnt : tCont D σ H = D.ct σ H := rfl
theorem x_nev : tNever D σ H = False := rfl
theorem x_ret : tRet ta D σ H = ta σ H D.rt := rfl
theorem x_retN : tRetN D σ H = D.rt .non H := rfl
theorem x_drop : tDrop ta D σ H = ta σ H (fun _ H1 => D.nx σ H1) := rfl
theorem x_ifS : tIfS t s1 s2 D σ H = t σ H (fun b H1 => if b = true then s1 D σ H1 else s2 D σ H1) := rfl
theorem x_asg : tAsg ta g D σ H = ta σ H (fun x H1 => g x σ H1 D.nx) := rfl
theorem x_gn : gName i v σ H QG = QG (σ.set i (some v)) H := rfl
theorem x_gsub {o ix : TE} {st : TSet} : gSub o ix st v σ H QG = o σ H (fun o H1 => ix σ H1 fun i H2 => st o i v H2 fun H3 => QG σ H3) := rfl
theorem x_par : tPar i j a D σ H = a σ H (fun vs H1 => ∃ v w, vs = [v, w] ∧ D.nx ((σ.set i (some v)).set j (some w)) H1) := rfl
theorem x_par3 {l : Nat} : tPar3 i j l a D σ H = a σ H (fun vs H1 => ∃ u v w, vs = [u, v, w] ∧ D.nx (((σ.set i (some u)).set j (some v)).set l (some w)) H1) := rfl
theorem x_aug {ti : TIp} : tAug i ta ti D σ H = ∃ x, σ[i]? = some (some x) ∧ ta σ H fun y H1 => ti x y H1 fun z H2 => D.nx (σ.set i (some z)) H2 := rfl
theorem x_for {wi : TI} : tFor wi g s1 D σ H = wi σ H (fun J H1 => LoopG J g s1 D σ H1) := rfl
theorem x_lc {wi : TI} {vs : List Nat} : tLc wi g t ta vs σ H Q = wi σ H (fun J H1 => ∀ Dl, H1 Dl = none → LcG J g t ta vs σ Dl H1 Q) := rfl
theorem x_rng1 {R : It → Hp → Prop} : iRng1 a σ H R = a σ H (fun vs H1 => ∃ j : Int, vs = [.int j] ∧ -(2 ^ 62) ≤ j ∧ j < 2 ^ 62 ∧ R (Itr 0 j.toNat) H1) := rfl
theorem x_rng2 {R : It → Hp → Prop} : iRng2 a σ H R = a σ H (fun vs H1 => ∃ i j : Int, vs = [.int i, .int j] ∧ (-(2 ^ 62) ≤ i ∧ i < 2 ^ 62 ∧ -(2 ^ 62) ≤ j ∧ j < 2 ^ 62) ∧ R (Itr i (j - i).toNat) H1) := rfl
theorem x_rng3 {R : It → Hp → Prop} : iRng3 a σ H R = a σ H (fun vs H1 => ∃ (i j c : Int) (n : Nat), vs = [.int i, .int j, .int c] ∧ RgC i j c n ∧ R (Itc i c n) H1) := rfl
theorem x_ilist {R : It → Hp → Prop} : iList K ta σ H R = ta σ H (fun x H1 => ∃ a, x = .ref a ∧ (∃ xs, SqL K H1 a xs) ∧ R (Itl K a) H1) := rfl
theorem x_itup {R : It → Hp → Prop} : iTup K ta σ H R = ta σ H (fun x H1 => ∃ a, x = .ref a ∧ (∃ xs, SqT K H1 a xs) ∧ R (Itt K a) H1) := rfl
theorem x_ienum {R : It → Hp → Prop} : iEnum K a σ H R = a σ H (fun vs H1 => ∃ a xs, vs = [.ref a] ∧ SqL K H1 a xs ∧ R (Ite K a) H1) := rfl
theorem x_izip {R : It → Hp → Prop} : iZip K a σ H R = a σ H (fun vs H1 => ∃ a b xs ys, vs = [.ref a, .ref b] ∧ SqL K H1 a xs ∧ SqL K H1 b ys ∧ R (Itz K a b) H1) := rfl
theorem x_istr {R : It → Hp → Prop} : iStr ta σ H R = ta σ H (fun v H1 => ∃ x, v = .str x ∧ R (Its x) H1) := rfl
theorem x_var : tVar i σ H Q = ∃ v, σ[i]? = some (some v) ∧ Q v H := rfl
theorem x_c : tC v σ H Q = Q v H := rfl
theorem x_op : tOp r ta tb σ H Q = ta σ H (fun x H1 => tb σ H1 fun y H2 => r x y H2 Q) := rfl
theorem x_un {ru : V → Hp → VK → Prop} : tUn ru ta σ H Q = ta σ H (fun x H1 => ru x H1 Q) := rfl
theorem x_test : tTest ta σ H QT = ta σ H (fun x H' => ∃ k, x = .bl k ∧ QT k H') := rfl
theorem x_b : tB ta σ H QT = ta σ H (fun x H' => ∃ k, x = .bl k ∧ QT k H') := rfl
theorem x_chain : tChain r r' ta tb tc σ H Q = ta σ H (fun x H1 => tb σ H1 fun y H2 => r x y H2 fun z H3 => ∃ k, z = .bl k ∧ (if k = true then tc σ H3 fun w' H4 => r' y w' H4 Q else Q (.bl false) H3)) := rfl
theorem x_and : tAnd t u σ H QT = t σ H (fun c H1 => if c = true then u σ H1 QT else QT false H1) := rfl
theorem x_or : tOr t u σ H QT = t σ H (fun c H1 => if c = true then QT true H1 else u σ H1 QT) := rfl
theorem x_not : tNot t σ H QT = t σ H (fun c H1 => QT (!c) H1) := rfl
theorem x_andV : tAndV ta tb σ H Q = ta σ H (fun x H1 => ∃ c, x = .bl c ∧ if c = true then tb σ H1 Q else Q (.bl false) H1) := rfl
theorem x_orV : tOrV ta tb σ H Q = ta σ H (fun x H1 => ∃ c, x = .bl c ∧ if c = true then Q (.bl true) H1 else tb σ H1 Q) := rfl
theorem x_notV : tNotV ta σ H Q = ta σ H (fun x H1 => ∃ c, x = .bl c ∧ Q (.bl (!c)) H1) := rfl
theorem x_ife : tIf t ta tb σ H Q = t σ H (fun c H1 => if c = true then ta σ H1 Q else tb σ H1 Q) := rfl
theorem x_nil : tNil σ H QA = QA [] H := rfl
theorem x_cons {rest : TA} : tCons ta rest σ H QA = ta σ H (fun x H1 => rest σ H1 fun xs H2 => QA (x :: xs) H2) := rfl
theorem x_lst : tLst a σ H Q = a σ H (fun xs H1 => xs.length ≤ sizeLine ∧ ∀ p, H1 p = none → Q (.ref p) (upd H1 p (.lst xs))) := rfl
theorem x_tup : tTup a σ H Q = a σ H (fun xs H1 => xs.length ≤ sizeLine ∧ ∀ p, H1 p = none → Q (.ref p) (upd H1 p (.tup xs))) := rfl
theorem x_cb {rc : List V → Hp → VK → Prop} : tCB rc a σ H Q = a σ H (fun vs H1 => rc vs H1 Q) := rfl
theorem x_call {sp : Sp} {dvs : List V} {E : XK} : tCall sp dvs E a σ H Q = a σ H (fun vs H1 => sp (vs ++ dvs) H1 Q E) := rfl
theorem x_callK {sp : Sp} {gV : List V → List V → List V} {E : XK} {b : TA} : tCallK sp gV E a b σ H Q = a σ H (fun vs H1 => b σ H1 fun zs H2 => sp (gV vs zs) H2 Q E) := rfl
theorem x_bm {T : String} {rm : V → List V → Hp → VK → Prop} : tBM K T rm ta a σ H Q = ta σ H (fun x H1 => tyV K T x H1 ∧ a σ H1 fun xs H2 => rm x xs H2 Q) := rfl
theorem x_bm0 {T : String} {rm : V → List V → Hp → VK → Prop} : tBM0 K T rm ta σ H Q = ta σ H (fun x H1 => tyV K T x H1 ∧ rm x [] H1 Q) := rfl
theorem x_sl {rs : V → Option Int → Option Int → Hp → VK → Prop} {tl th : TO} : tSl rs ta tl th σ H Q = ta σ H (fun x H1 => tl σ H1 fun l H2 => th σ H2 fun u H3 => rs x l u H3 Q) := rfl
theorem x_nopart {QO : Option Int → Hp → Prop} : tNoPart σ H QO = QO none H := rfl
theorem x_part {QO : Option Int → Hp → Prop} : tPart ta σ H QO = ta σ H (fun x H1 => ∃ i, x = .int i ∧ QO (some i) H1) := rfl
theorem x_revL : tRevL K ta σ H Q = ta σ H (fun x H1 => ∃ a xs, x = .ref a ∧ SqL K H1 a xs ∧ ∀ p, H1 p = none → Q (.ref p) (upd H1 p (.lst xs.reverse))) := rfl
theorem x_I0 {f : Int → Int → V} {m n : Int} : rI0 f (.int m) (.int n) H Q ↔ Q (f m n) H := ⟨fun ⟨i, j, e1, e2, q⟩ => by cases e1; cases e2; exact q, fun q => ⟨m, n, rfl, rfl, q⟩⟩
theorem x_I {C : Int → Int → Prop} {f : Int → Int → V} {m n : Int} : rI C f (.int m) (.int n) H Q ↔ C m n ∧ Q (f m n) H := ⟨fun ⟨i, j, e1, e2, q⟩ => by cases e1; cases e2; exact q, fun q => ⟨m, n, rfl, rfl, q⟩⟩
theorem x_U {f : Int → V} {m : Int} : rU f (.int m) H Q ↔ Q (f m) H := ⟨fun ⟨i, e1, q⟩ => by cases e1; exact q, fun q => ⟨m, rfl, q⟩⟩
theorem x_ip {f : Int → Int → Int} {m n : Int} : ipI f (.int m) (.int n) H Q ↔ Q (.int (f m n)) H := ⟨fun ⟨i, j, e1, e2, q⟩ => by cases e1; cases e2; exact q, fun q => ⟨m, n, rfl, rfl, q⟩⟩
theorem x_ipC {C : Int → Int → Prop} {f : Int → Int → Int} {m n : Int} : ipC C f (.int m) (.int n) H Q ↔ C m n ∧ Q (.int (f m n)) H := ⟨fun ⟨i, j, e1, e2, q⟩ => by cases e1; cases e2; exact q, fun q => ⟨m, n, rfl, rfl, q⟩⟩
theorem x_eqI {m n : Int} : rEq (.int m) (.int n) H Q ↔ Q (.bl (decide (m = n))) H := by
  unfold rEq
  rw [show scal (V.int m) (V.int n) = true from rfl]
  by_cases e : m = n
  · subst e; simp
  · simp [e]
theorem x_neI {m n : Int} : rNe (.int m) (.int n) H Q ↔ Q (.bl (!decide (m = n))) H := by
  unfold rNe
  rw [show scal (V.int m) (V.int n) = true from rfl]
  by_cases e : m = n
  · subst e; simp
  · simp [e]
end
/-! ### the rules that speak of the written part, by its own name -/
section
variable {X : Cx} {K : PySem.W.Frag}
theorem k_pi_list {tg l : Expr} {tl : TE} (hK : X.K = K) (hl : PE X l tl) : PI X tg l (iList K tl) := by subst hK; exact pi_list hl
theorem k_pi_tup {tg l : Expr} {tl : TE} (hK : X.K = K) (hl : PE X l tl) : PI X tg l (iTup K tl) := by subst hK; exact pi_tup hl
theorem k_pi_enum {e : Expr} {ta : TA} {p pos tpos : Pos} {elts : List Expr} {kk : Nat} (hK : X.K = K) (hg : Gl X "enumerate") (hm : X.mg "enumerate" = none) (ha : PA X [e] ta) (hs : starEach [e] X.env = [(false, eval e X.env)] := by rfl) : PI X (.Tuple elts kk tpos) (.Call (.Name "enumerate" p) [e] [] pos) (iEnum K ta) := by subst hK; exact pi_enum hg hm ha hs
theorem k_pi_zip {e e2 : Expr} {ta : TA} {p pos tpos : Pos} {elts : List Expr} {kk : Nat} (hK : X.K = K) (hg : Gl X "zip") (hm : X.mg "zip" = none) (ha : PA X [e, e2] ta)
    (hs : starEach [e, e2] X.env = (false, eval e X.env) :: starEach [e2] X.env := by rfl) (hpl : (backTo pos (starEach [e2] X.env)).any (·.1) = false := by rfl) : PI X (.Tuple elts kk tpos) (.Call (.Name "zip" p) [e, e2] [] pos) (iZip K ta) := by subst hK; exact pi_zip hg hm ha hs hpl
theorem k_ix_list (hK : X.K = K) : IxR X (rIxL K) := by subst hK; exact ix_list
theorem k_ix_tup (hK : X.K = K) : IxR X (rIxT K) := by subst hK; exact ix_tup
theorem k_sl_list (hK : X.K = K) : SlR X (rSlL K) := by subst hK; exact sl_list
theorem k_in (hK : X.K = K) : OpR X (compareOp .In) (rIn K false) := by subst hK; exact op_in_seq
theorem k_notIn (hK : X.K = K) : OpR X (compareOp .NotIn) (rIn K true) := by subst hK; exact op_notIn_seq
theorem k_eqD (hK : X.K = K) (hu : X.A.units + 64 < cLine) : OpR X (compareOp .Eq) (rEqD K) := by subst hK; exact op_eqD hu
theorem k_neD (hK : X.K = K) (hu : X.A.units + 64 < cLine) : OpR X (compareOp .NotEq) (rNeD K) := by subst hK; exact op_neD hu
def rLen (K : PySem.W.Frag) : List V → Hp → VK → Prop := fun xs H Q => ∃ p ys, xs = [.ref p] ∧ (SqL K H p ys ∨ SqT K H p ys) ∧ Q (.int ys.length) H
def rListOf (K : PySem.W.Frag) : List V → Hp → VK → Prop := fun xs H Q => ∃ p ys, xs = [.ref p] ∧ (SqL K H p ys ∨ SqT K H p ys) ∧ ∀ l, H l = none → Q (.ref l) (upd H l (.lst ys))
def rTupOf (K : PySem.W.Frag) : List V → Hp → VK → Prop := fun xs H Q => ∃ p ys, xs = [.ref p] ∧ ((SqL K H p ys ∧ ∀ l, H l = none → Q (.ref l) (upd H l (.tup ys))) ∨ (SqT K H p ys ∧ Q (.ref p) H))
theorem k_len (hK : X.K = K) : CallR X (.builtin "len") (rLen K) := by subst hK; exact call_len_seq
theorem k_listOf (hK : X.K = K) : CallR X (.type "list") (rListOf K) := by subst hK; exact call_list_of
theorem k_tupOf (hK : X.K = K) : CallR X (.type "tuple") (rTupOf K) := by subst hK; exact call_tuple_of
theorem k_isi (hK : X.K = K) : CallR X (.builtin "isinstance") (rIsi K) := by subst hK; exact call_isi
theorem k_sum (hK : X.K = K) (hc : X.calm = true) : CallR X (.builtin "sum") (rSum K) := by subst hK; exact cr_sum hc
theorem k_all (hK : X.K = K) (hc : X.calm = true) : CallR X (.builtin "all") (rAll K) := by subst hK; exact cr_all hc
theorem k_any (hK : X.K = K) (hc : X.calm = true) : CallR X (.builtin "any") (rAny K) := by subst hK; exact cr_any hc
theorem k_sorted (hK : X.K = K) : CallR X (.builtin "sorted") (rSorted K) := by subst hK; exact cr_sorted
def tTruK (K : PySem.W.Frag) (ta : TE) : TT := fun σ H Q => ta σ H fun x H' => ∃ k, TruV K x H' k ∧ Q k H'
theorem k_truth {a : Expr} {ta : TE} (hK : X.K = K) (ha : PE X a ta) (he : ∀ whole, isTrue a X.env whole = (do let v ← whole; standAt a.pos; holding [v] (truthy v))) : PT X a (tTruK K ta) := by subst hK; exact pt_truth ha he
theorem k_tup {es : List Expr} {k n : Nat} {pos : Pos} {t : TGs} (hK : X.K = K) (hc : X.calm = true) (h : PGs X es t)
    (hn : (assignEach es X.env).length = n := by rfl) (hst : (assignEach es X.env).findIdx? (·.1) = none := by rfl) : PG X (.Tuple es k pos) (gTup K n t) := by subst hK; exact pg_tup hc h hn hst
theorem k_bm0 {T : String} {to : TE} {r : V → List V → Hp → VK → Prop} {e : Expr} (hK : X.K = K) (h : PE X e (tBM0 X.K T r to)) : PE X e (tBM0 K T r to) := by subst hK; exact h
theorem k_bm {T : String} {to : TE} {ta : TA} {r : V → List V → Hp → VK → Prop} {e : Expr} (hK : X.K = K) (h : PE X e (tBM X.K T r to ta)) : PE X e (tBM K T r to ta) := by subst hK; exact h
theorem k_rev {e : Expr} {te : TE} {k : Nat} {p1 p2 p3 pos : Pos} (hK : X.K = K) (he : PE X e te) : PE X (.Subscript e (.Slice none none (some (.UnaryOp .USub (.Constant (.int 1) k p1) p2)) p3) pos) (tRevL K te) := by subst hK; exact pe_revL he
theorem k_index (hK : X.K = K) : MtR X "list.index" (rIndex K) := by subst hK; exact mt_index
end
section
variable {K : PySem.W.Frag} {σ : L2.St} {H : Hp} {ta : TE} {QT : Bool → Hp → Prop}
theorem x_tru : tTruK K ta σ H QT = ta σ H (fun x H' => ∃ k, TruV K x H' k ∧ QT k H') := rfl
end
/-! ### loops -/
section
variable {K : PySem.W.Frag} {σ : L2.St} {H : Hp} {D : Ends} {g : TG} {tb : TS}
theorem lg_rng {lo : Int} {n : Nat} (Pv : Nat → L2.St → Hp → Prop) (h0 : Pv 0 σ H)
    (hs : ∀ i σ H, i < n → Pv i σ H → g (.int (lo + i)) σ H fun σ2 H2 => tb { D with nx := Pv (i + 1), ct := Pv (i + 1), bk := D.nx } σ2 H2) (hd : ∀ σ H, Pv n σ H → D.nx σ H) : LoopG (Itr lo n) g tb D σ H := for_range Pv h0 hs hd
theorem lg_rngC {lo c : Int} {n : Nat} (Pv : Nat → L2.St → Hp → Prop) (h0 : Pv 0 σ H)
    (hs : ∀ i σ H, i < n → Pv i σ H → g (.int (lo + (i : Nat) * c)) σ H fun σ2 H2 => tb { D with nx := Pv (i + 1), ct := Pv (i + 1), bk := D.nx } σ2 H2) (hd : ∀ σ H, Pv n σ H → D.nx σ H) : LoopG (Itc lo c n) g tb D σ H := for_rangeC Pv h0 hs hd
theorem lg_list {a : Addr} {xs : List V} (Pv : Nat → L2.St → Hp → Prop) (h0 : Pv 0 σ H) (hl : ∀ i σ H, i ≤ xs.length → Pv i σ H → SqL K H a xs)
    (hs : ∀ i x σ H, xs[i]? = some x → Pv i σ H → g x σ H fun σ2 H2 => tb { D with nx := Pv (i + 1), ct := Pv (i + 1), bk := D.nx } σ2 H2) (hd : ∀ σ H, Pv xs.length σ H → D.nx σ H) : LoopG (Itl K a) g tb D σ H := for_list Pv h0 hl hs hd
/-- enumerate over a list that stands still: each pair is a new tuple -/
theorem lg_enum {a : Addr} {xs : List V} (Pv : Nat → L2.St → Hp → Prop) (h0 : Pv 0 σ H) (hl : ∀ i σ H, i ≤ xs.length → Pv i σ H → SqL K H a xs)
    (hs : ∀ i x σ H T, xs[i]? = some x → Pv i σ H → H T = none → g (.ref T) σ (upd H T (.tup [.int (i : Nat), x])) fun σ2 H2 => tb { D with nx := Pv (i + 1), ct := Pv (i + 1), bk := D.nx } σ2 H2) (hd : ∀ σ H, Pv xs.length σ H → D.nx σ H) : LoopG (Ite K a) g tb D σ H := by
  refine ⟨fun i m σ H => m = xs.length - i ∧ i ≤ xs.length ∧ Pv i σ H, ⟨xs.length, by simp, Nat.zero_le _, h0⟩, ?_⟩
  rintro i m σ H ⟨rfl, hi, p⟩
  have q := hl i σ H hi p
  by_cases hlt : i < xs.length
  · refine .inr ⟨⟨xs, xs[i], q, by simp [hlt]⟩, Pv (i + 1), fun σ' H' p' => ⟨xs.length - (i + 1), by omega, rfl, hlt, p'⟩, fun x H' y => ?_⟩
    obtain ⟨T, x', rfl, hT, rfl, f⟩ := y
    exact hs i x' σ H T (f xs q) p hT
  · have e : i = xs.length := by omega
    subst e
    exact .inl ⟨⟨xs, q, Nat.le_refl _⟩, hd σ H p⟩
/-- a pair unpacked -/
theorem g_two {i j : Nat} {T : Addr} {x y : V} {QG : L2.St → Hp → Prop} (h : H T = some (.tup [x, y])) (q : QG ((σ.set i (some x)).set j (some y)) H) : gTup K 2 (gCons (gName i) (gCons (gName j) gNil)) (.ref T) σ H QG :=
  ⟨T, [x, y], rfl, .inl (.inl h), rfl, x, [y], rfl, y, [], rfl, rfl, q⟩
end
/-! ### comprehensions over lists whose elements are given by a function of the turn -/
section
variable {K : PySem.W.Frag} {σ : L2.St} {H1 : Hp} {g : TG} {tt : TT} {te : TE} {vs : List Nat} {Dl : Addr} {Q : VK}
theorem lc_g (n : Nat) {J : It} (Pv : Nat → Hp → Prop) (h0 : Pv 0 (upd H1 Dl (.lst []))) (hst : ∀ H, Pv n H → J.stop n H) (hgo : ∀ i H, i < n → Pv i H → J.go i H)
    (hs : ∀ i H x H', i < n → Pv i H → J.yld i H x H' → g x (wipe σ vs) H' fun σ2 H2 => wipe σ2 vs = wipe σ vs ∧ tt σ2 H2 fun b H3 =>
      if b = true then te σ2 H3 fun y H4 => ∃ acc, H4 Dl = some (.lst acc) ∧ acc.length < sizeLine ∧ Pv (i + 1) (upd H4 Dl (.lst (acc ++ [y]))) else Pv (i + 1) H3) (hd : ∀ H, Pv n H → Q (.ref Dl) H) : LcG J g tt te vs σ Dl H1 Q := by
  refine ⟨fun i m H => m = n - i ∧ i ≤ n ∧ Pv i H, ⟨n, by simp, Nat.zero_le _, h0⟩, ?_⟩
  rintro i m H ⟨rfl, hi, p⟩
  by_cases hlt : i < n
  · exact .inr ⟨hgo i H hlt p, Pv (i + 1), fun H' p' => ⟨n - (i + 1), by omega, rfl, hlt, p'⟩, fun x H' y => hs i H x H' hlt p y⟩
  · have e : i = n := by omega
    subst e
    exact .inl ⟨hst H p, hd H p⟩
end
/-! ### comprehensions that change nothing -/
section
variable {K : PySem.W.Frag} {σ : L2.St} {H1 : Hp} {g : TG} {tt : TT} {te : TE} {vs : List Nat} {Dl : Addr} {Q : VK}
def kept (n : Nat) (keep : Nat → Bool) (f : Nat → V) : List V := ((List.range n).filter keep).map f
theorem kept_yes {n : Nat} {k : Nat → Bool} {f : Nat → V} (h : k n = true) : kept (n + 1) k f = kept n k f ++ [f n] := by
  unfold kept
  rw [List.range_succ, List.filter_append, List.map_append]
  simp [h]
theorem kept_no {n : Nat} {k : Nat → Bool} {f : Nat → V} (h : k n = false) : kept (n + 1) k f = kept n k f := by
  unfold kept
  rw [List.range_succ, List.filter_append, List.map_append]
  simp [h]
theorem kept_len (n : Nat) (k : Nat → Bool) (f : Nat → V) : (kept n k f).length ≤ n := by
  unfold kept
  rw [List.length_map]
  exact Nat.le_trans (List.length_filter_le _ _) (by rw [List.length_range]; exact Nat.le_refl _)
theorem kept_all (n : Nat) (f : Nat → V) : kept n (fun _ => true) f = (List.range n).map f := by
  unfold kept
  rw [List.filter_eq_self.mpr (by simp)]
theorem lc_pure {J : It} (n : Nat) (item : Nat → L2.St) (keep : Nat → Bool) (f : Nat → V) (hD : H1 Dl = none) (hn : n ≤ 100000)
    (hst : ∀ H', Evl.Ex H1 H' → J.stop n H') (hgo : ∀ i H', i < n → Evl.Ex H1 H' → J.go i H')
    (hy : ∀ i H' x H'' (QG : L2.St → Hp → Prop), i < n → Evl.Ex H1 H' → J.yld i H' x H'' → (Evl.Ex H' H'' → QG (item i) H'') → g x (wipe σ vs) H'' QG)
    (hw : ∀ i, i < n → wipe (item i) vs = wipe σ vs) (ht : ∀ i, i < n → Evl.EvT tt (item i) H1 (keep i)) (he : ∀ i, i < n → keep i = true → Evl.Ev te (item i) H1 (f i))
    (hd : ∀ H', Evl.Ex H1 H' → H' Dl = some (.lst (kept n keep f)) → Q (.ref Dl) H') : LcG J g tt te vs σ Dl H1 Q := by
  refine lc_g n (fun i H' => Evl.Ex H1 H' ∧ H' Dl = some (.lst (kept i keep f))) ⟨Evl.Ex.new hD, upd_same⟩ (fun H' h => hst H' h.1) (fun i H' hi h => hgo i H' hi h.1) (fun i H' x H'' hi h y => ?_) (fun H' h => hd H' h.1 h.2)
  obtain ⟨e, hl⟩ := h
  refine hy i H' x H'' _ hi e y fun e2 => ⟨hw i hi, ht i hi H'' (e.trans e2) _ fun H3 e3 => ?_⟩
  have hl3 := e3 _ _ (e2 _ _ hl)
  cases hk : keep i with
  | false =>
    show (if false = true then _ else _)
    rw [if_neg Bool.false_ne_true, kept_no hk]
    exact ⟨(e.trans e2).trans e3, hl3⟩
  | true =>
    show (if true = true then _ else _)
    rw [if_pos rfl]
    refine he i hi hk H3 ((e.trans e2).trans e3) _ fun H4 e4 => ⟨_, e4 _ _ hl3, Nat.lt_of_lt_of_le (Nat.lt_of_le_of_lt (kept_len i keep f) hi) (Nat.le_trans hn (by decide)), ?_⟩
    rw [kept_yes hk]
    exact ⟨(((e.trans e2).trans e3).trans e4).mut hD, upd_same⟩
theorem tyes {σ : L2.St} {H : Hp} : Evl.EvT tYes σ H true := fun H1 _ _ q => q H1 (Evl.Ex.refl H1)
theorem lc_enum {a : Addr} {xs : List V} {j k : Nat} (keep : Nat → Bool) (f : Nat → V) (hx : SqL K H1 a xs) (hD : H1 Dl = none) (hn : xs.length ≤ 100000)
    (hw : ∀ u v : V, wipe (((wipe σ vs).set j (some u)).set k (some v)) vs = wipe σ vs)
    (ht : ∀ i x, xs[i]? = some x → Evl.EvT tt (((wipe σ vs).set j (some (.int (i : Nat)))).set k (some x)) H1 (keep i))
    (he : ∀ i x, xs[i]? = some x → keep i = true → Evl.Ev te (((wipe σ vs).set j (some (.int (i : Nat)))).set k (some x)) H1 (f i))
    (hd : ∀ H', Evl.Ex H1 H' → H' Dl = some (.lst (kept xs.length keep f)) → Q (.ref Dl) H') : LcG (Ite K a) (gTup K 2 (gCons (gName j) (gCons (gName k) gNil))) tt te vs σ Dl H1 Q := by
  refine lc_pure xs.length (fun i => ((wipe σ vs).set j (some (.int (i : Nat)))).set k (some (xs.getD i .non))) keep f hD hn (fun H' e => ⟨xs, Evl.ex_l e hx, Nat.le_refl _⟩) (fun i H' hi e => ⟨xs, xs[i], Evl.ex_l e hx, List.getElem?_eq_getElem hi⟩)
    (fun i H' x H'' QG hi e y q => ?_) (fun i hi => hw _ _) (fun i hi => ht i _ (by rw [List.getD_eq_getElem?_getD, List.getElem?_eq_getElem hi]; rfl)) (fun i hi => he i _ (by rw [List.getD_eq_getElem?_getD, List.getElem?_eq_getElem hi]; rfl)) hd
  obtain ⟨T, v, rfl, hT, rfl, hf⟩ := y
  have hv := hf xs (Evl.ex_l e hx)
  have e1 : xs.getD i .non = v := by rw [List.getD_eq_getElem?_getD, hv]; rfl
  refine g_two upd_same ?_
  have q2 := q (Evl.Ex.new hT)
  rw [e1] at q2
  exact q2
theorem lc_list {a : Addr} {xs : List V} {j : Nat} (keep : Nat → Bool) (f : Nat → V) (hx : SqL K H1 a xs) (hD : H1 Dl = none) (hn : xs.length ≤ 100000)
    (hw : ∀ u : V, wipe ((wipe σ vs).set j (some u)) vs = wipe σ vs)
    (ht : ∀ i x, xs[i]? = some x → Evl.EvT tt ((wipe σ vs).set j (some x)) H1 (keep i))
    (he : ∀ i x, xs[i]? = some x → keep i = true → Evl.Ev te ((wipe σ vs).set j (some x)) H1 (f i))
    (hd : ∀ H', Evl.Ex H1 H' → H' Dl = some (.lst (kept xs.length keep f)) → Q (.ref Dl) H') : LcG (Itl K a) (gName j) tt te vs σ Dl H1 Q := by
  refine lc_pure xs.length (fun i => (wipe σ vs).set j (some (xs.getD i .non))) keep f hD hn (fun H' e => ⟨xs, Evl.ex_l e hx, Nat.le_refl _⟩) (fun i H' hi e => ⟨xs, xs[i], Evl.ex_l e hx, List.getElem?_eq_getElem hi⟩)
    (fun i H' x H'' QG hi e y q => ?_) (fun i hi => hw _) (fun i hi => ht i _ (by rw [List.getD_eq_getElem?_getD, List.getElem?_eq_getElem hi]; rfl)) (fun i hi => he i _ (by rw [List.getD_eq_getElem?_getD, List.getElem?_eq_getElem hi]; rfl)) hd
  obtain ⟨rfl, hf⟩ := y
  have hv := hf xs (Evl.ex_l e hx)
  have e1 : xs.getD i .non = x := by rw [List.getD_eq_getElem?_getD, hv]; rfl
  show QG _ _
  rw [← e1]
  exact q (Evl.Ex.refl _)
theorem lc_rng {lo : Int} {n j : Nat} (keep : Nat → Bool) (f : Nat → V) (hD : H1 Dl = none) (hn : n ≤ 100000)
    (hw : ∀ u : V, wipe ((wipe σ vs).set j (some u)) vs = wipe σ vs)
    (ht : ∀ i, i < n → Evl.EvT tt ((wipe σ vs).set j (some (.int (lo + i)))) H1 (keep i))
    (he : ∀ i, i < n → keep i = true → Evl.Ev te ((wipe σ vs).set j (some (.int (lo + i)))) H1 (f i))
    (hd : ∀ H', Evl.Ex H1 H' → H' Dl = some (.lst (kept n keep f)) → Q (.ref Dl) H') : LcG (Itr lo n) (gName j) tt te vs σ Dl H1 Q := by
  refine lc_pure n (fun i => (wipe σ vs).set j (some (.int (lo + i)))) keep f hD hn (fun H' e => Nat.le_refl _) (fun i H' hi e => hi)
    (fun i H' x H'' QG hi e y q => ?_) (fun i hi => hw _) ht he hd
  obtain ⟨rfl, rfl⟩ := y
  exact q (Evl.Ex.refl _)
end
/-! ### operations on values -/
section
variable {K : PySem.W.Frag} {H : Hp} {Q : VK}
theorem isi_int {i : Int} {T : String} {b : Bool} (h : kitB "int" T = some b) (q : Q (.bl b) H) : rIsi K [.int i, .ty T] H Q :=
  ⟨.int i, .ty T, .type "int", .type T, b, rfl, .ty T, .base (.int i), kit_ty h, q⟩
theorem ixL {p : Addr} {xs : List V} {i : Int} {v : V} (h : SqL K H p xs) (hi : atI xs i = some v) (q : Q v H) : rIxL K (.ref p) (.int i) H Q := ⟨p, xs, i, v, rfl, rfl, h, hi, q⟩
theorem setL {p : Addr} {xs : List V} {i : Int} {j : Nat} {v : V} {R : Hp → Prop} (h : H p = some (.lst xs)) (hj : ixN xs.length i = some j) (q : R (upd H p (.lst (xs.set j v)))) : rSetL (.ref p) (.int i) v H R := ⟨p, xs, i, j, rfl, rfl, h, hj, q⟩
theorem repL {p : Addr} {xs : List V} {k : Int} (h : H p = some (.lst xs)) (h1 : -(2 ^ 63) ≤ k) (h2 : k < 2 ^ 63) (hz : xs.length * k.toNat ≤ sizeLine) (q : ∀ l, H l = none → Q (.ref l) (upd H l (.lst (List.replicate k.toNat xs).flatten))) : rRep (.ref p) (.int k) H Q := ⟨p, k, xs, rfl, rfl, h, h1, h2, hz, q⟩
theorem catL {p b : Addr} {xs ys : List V} (h : H p = some (.lst xs)) (hb : H b = some (.lst ys)) (hz : xs.length + ys.length ≤ sizeLine) (q : ∀ l, H l = none → Q (.ref l) (upd H l (.lst (xs ++ ys)))) : rCat (.ref p) (.ref b) H Q := ⟨p, b, xs, ys, rfl, rfl, h, hb, hz, q⟩
theorem sumL {p : Addr} {ns : List Int} (h : SqL K H p (ns.map V.int)) (q : Q (.int ns.sum) H) : rSum K [.ref p] H Q := ⟨p, ns, rfl, h, q⟩
theorem appL {p : Addr} {xs : List V} {y : V} (h : H p = some (.lst xs)) (hz : xs.length < sizeLine) (q : Q .non (upd H p (.lst (xs ++ [y])))) : rAppend (.ref p) [y] H Q := ⟨p, xs, y, rfl, rfl, h, hz, q⟩
theorem tyL {p : Addr} {xs : List V} (h : H p = some (.lst xs)) : tyV K "list" (.ref p) H := Or.inl ⟨rfl, _, Or.inl (Or.inl h)⟩
theorem atI_n {xs : List V} {i : Int} {j : Nat} {v : V} (e : i = (j : Int)) (h : xs[j]? = some v) : atI xs i = some v := by
  subst e
  have hj := (List.getElem?_eq_some_iff.mp h).1
  unfold atI ixN
  rw [if_pos (by omega), if_pos (by omega)]
  exact h
theorem ixN_n {n : Nat} {i : Int} {j : Nat} (e : i = (j : Int)) (h : j < n) : ixN n i = some j := by
  subst e
  unfold ixN
  rw [if_pos (by omega), if_pos (by omega)]
  rfl
theorem sz_ok {n : Nat} (h : n ≤ 100000) : n ≤ sizeLine := Nat.le_trans h (by decide)
theorem sz_lt {n : Nat} (h : n < 100000) : n < sizeLine := Nat.lt_of_lt_of_le h (by decide)
end
end BC

set_option Elab.async false
set_option linter.all false
set_option maxRecDepth 100000
set_option maxHeartbeats 4000000
namespace BC
open PySem PySem.Spec PyProof.Rows L2 Evl RZ
/-! ### all but the object at b stands -/
def Fx (b : Addr) (H H' : Hp) : Prop := ∀ a o, a ≠ b → H a = some o → H' a = some o
theorem Fx.refl (b : Addr) (H : Hp) : Fx b H H := fun _ _ _ h => h
theorem Fx.trans {b : Addr} {H H1 H2 : Hp} (x : Fx b H H1) (y : Fx b H1 H2) : Fx b H H2 := fun a o n h => y a o n (x a o n h)
theorem Fx.of {b : Addr} {H H' : Hp} (e : Ex H H') : Fx b H H' := fun a o _ h => e a o h
theorem Fx.put {b : Addr} {H : Hp} {o : HO} : Fx b H (upd H b o) := fun a u n h => by rw [upd_ne n]; exact h
theorem Fx.ex {b : Addr} {H H' : Hp} (x : Fx b H H') (h : H b = none) : Ex H H' := fun a o e => x a o (ne_of_none e h) e
theorem Fx.l {K : PySem.W.Frag} {b a : Addr} {H H' : Hp} {xs : List V} (x : Fx b H H') (n : a ≠ b) (h : SqL K H a xs) : SqL K H' a xs := by
  rcases h with h | h
  · rcases h with h | ⟨o, h⟩
    · exact .inl (.inl (x a _ n h))
    · exact .inl (.inr ⟨o, x a _ n h⟩)
  · exact .inr h
/-! ### lists -/
theorem cutV_mem {xs : List V} {lo hi : Option Int} {x : V} (h : x ∈ cutV xs lo hi) : x ∈ xs := by
  unfold cutV at h
  exact List.mem_of_mem_drop (List.mem_of_mem_take h)
theorem cutV_len (xs : List V) (lo hi : Option Int) : (cutV xs lo hi).length ≤ xs.length := by
  unfold cutV
  rw [List.length_take, List.length_drop]
  omega
theorem two_at0 {x y r : Int} {n : Nat} (h0 : 0 ≤ r) (h1 : r < 2) (hx0 : 0 ≤ x) (hx1 : x ≤ n) (hy0 : 0 ≤ y) (hy1 : y ≤ n) : ∃ m : Nat, m ≤ n ∧ atI [V.int x, V.int y] r = some (.int m) := by
  by_cases e : r = 0
  · exact ⟨x.toNat, by omega, by rw [Int.toNat_of_nonneg hx0]; exact atI_n (j := 0) e rfl⟩
  · exact ⟨y.toNat, by omega, by rw [Int.toNat_of_nonneg hy0]; exact atI_n (j := 1) (by omega) rfl⟩
theorem two_at {x y r : Int} {n : Nat} (h0 : 0 ≤ r) (h1 : r < 2) (hx0 : 1 ≤ x) (hx1 : x ≤ n) (hy0 : 1 ≤ y) (hy1 : y ≤ n) : ∃ m : Nat, 1 ≤ m ∧ m ≤ n ∧ atI [V.int x, V.int y] r = some (.int m) := by
  by_cases e : r = 0
  · exact ⟨x.toNat, by omega, by omega, by rw [Int.toNat_of_nonneg (by omega)]; exact atI_n (j := 0) e rfl⟩
  · exact ⟨y.toNat, by omega, by omega, by rw [Int.toNat_of_nonneg (by omega)]; exact atI_n (j := 1) (by omega) rfl⟩
/-- a written list read at a drawn place -/
theorem pick {xs : List V} {r : Int} (h0 : 0 ≤ r) (h1 : r < xs.length) : ∃ v, v ∈ xs ∧ atI xs r = some v := by
  have hj : r.toNat < xs.length := by omega
  exact ⟨xs[r.toNat], List.getElem_mem hj, atI_n (j := r.toNat) (by omega) (List.getElem?_eq_getElem hj)⟩
theorem rep_one (n : Nat) (v : V) : (List.replicate n [v]).flatten = List.replicate n v := by
  induction n with
  | zero => rfl
  | succ n ih => rw [List.replicate_succ, List.flatten_cons, ih]; rfl
theorem take_succ {xs : List V} {i : Nat} {v : V} (h : xs[i]? = some v) : xs.take (i + 1) = xs.take i ++ [v] := by
  rw [List.take_add_one, h]
  rfl
theorem log2_small {i : Int} {k : Nat} (hk : 0 < k) (h : i.natAbs < 2 ^ k) : i.natAbs.log2 < k := PySem.Flt.log2_lt_of hk h
/-! ### kinds -/
section
variable {X : Cx} {K : PySem.W.Frag} {H : Hp} {Q : VK}
theorem k_pi_zipA {e e2 : Expr} {ta : TA} {p pos tpos : Pos} {elts : List Expr} {kk : Nat} (hK : X.K = K) (hg : Gl X "zip") (hm : X.mg "zip" = none) (ha : PA X [e, e2] ta)
    (hs : starEach [e, e2] X.env = (false, eval e X.env) :: starEach [e2] X.env := by rfl) (hpl : (backTo pos (starEach [e2] X.env)).any (·.1) = false := by rfl) : PI X (.Tuple elts kk tpos) (.Call (.Name "zip" p) [e, e2] [] pos) (iZipA K ta) := by subst hK; exact pi_zipA hg hm ha hs hpl
theorem k_isiT (hK : X.K = K) : CallR X (.builtin "isinstance") (rIsiT K) := by subst hK; exact call_isiT
theorem tyx_l {a : Addr} {xs : List V} (h : SqL K H a xs) : TyX K H (.ref a) (.type "list") := by
  rcases h with (h | ⟨o, h⟩) | ⟨o, its, n, h, c, _⟩
  · exact .base (.lst h)
  · exact .base (.frz h)
  · exact .kList h c
theorem tyx_t {a : Addr} {xs : List V} (h : SqT K H a xs) : TyX K H (.ref a) (.type "tuple") := by
  rcases h with (h | ⟨o, h⟩) | ⟨o, its, n, h, c, _⟩
  · exact .base (.tup h)
  · exact .fTuple h
  · exact .kTuple h c
def tyn : PyData → String
  | .none => "NoneType"
  | .bool _ => "bool"
  | .int _ => "int"
  | .str _ => "str"
  | .list _ => "list"
  | .tuple _ => "tuple"
  | .dict _ => "dict"
theorem tyx_d {v : V} {d : PyData} (h : Dp K H v d) : TyX K H v (.type (tyn d)) := by
  cases h with
  | non => exact .base .non
  | bl b => exact .base (.bl b)
  | int i => exact .base (.int i)
  | str x => exact .base (.str x)
  | lst h _ => exact tyx_l h
  | tup h _ => exact tyx_t h
theorem isi_x {v : V} {A T : String} {b : Bool} (h : TyX K H v (.type A)) (hk : kitB A T = some b) (q : Q (.bl b) H) : rIsi K [v, .ty T] H Q :=
  ⟨v, .ty T, .type A, .type T, b, rfl, .ty T, h, kit_ty hk, q⟩
theorem kit_two {A B C : String} {b c : Bool} (h1 : kitB A B = some b) (h2 : kitB A C = some c) : PySem.W.kitAny K (.type A) [.type B, .type C] = some (b || c) := by
  refine kitAny_cons (kit_ty h1) (fun e => ?_) (fun e => by rw [e]; rfl)
  subst e
  refine kitAny_cons (kit_ty h2) (fun e => ?_) (fun e => by rw [e]; rfl)
  subst e
  exact kitAny_nil
theorem isiT2 {v : V} {p : Addr} {A B C : String} {b c : Bool} (h : TyX K H v (.type A)) (hp : H p = some (.tup [.ty B, .ty C])) (h1 : kitB A B = some b) (h2 : kitB A C = some c) (q : Q (.bl (b || c)) H) : rIsiT K [v, .ref p] H Q :=
  ⟨v, p, [.ty B, .ty C], .type A, [.type B, .type C], b || c, rfl, hp, .cons (.ty B) (.cons (.ty C) .nil), h, kit_two h1 h2, q⟩
theorem ex_d {H H' : Hp} (e : Ex H H') : ∀ (d : PyData) (v : V), Dp K H v d → Dp K H' v d
  | .none, _, h => by cases h; exact .non
  | .bool _, _, h => by cases h; exact .bl _
  | .int _, _, h => by cases h; exact .int _
  | .str _, _, h => by cases h; exact .str _
  | .dict _, _, h => by cases h
  | .list ds, _, h => by
    cases h with
    | lst h1 h2 => exact .lst (ex_l e h1) (all ds _ h2)
  | .tuple ds, _, h => by
    cases h with
    | tup h1 h2 => exact .tup (ex_t e h1) (all ds _ h2)
where
  all : ∀ (ds : List PyData) (vs : List V), DpAll K H vs ds → DpAll K H' vs ds
  | [], _, h => by cases h; exact .nil
  | d :: ds, _, h => by
    cases h with
    | cons h1 h2 => exact .cons (ex_d e d _ h1) (all ds _ h2)
theorem dp_len : ∀ {vs : List V} {ds : List PyData}, DpAll K H vs ds → vs.length = ds.length
  | _, _, .nil => rfl
  | _, _, .cons _ h => by rw [List.length_cons, List.length_cons, dp_len h]
theorem dp_at : ∀ {vs : List V} {ds : List PyData} {i : Nat} {v : V}, DpAll K H vs ds → vs[i]? = some v → ∃ d, ds[i]? = some d ∧ Dp K H v d
  | _, _, _, _, .nil, e => by simp at e
  | _, _, 0, _, .cons h _, e => by simp at e; subst e; exact ⟨_, rfl, h⟩
  | _, _, i + 1, _, .cons _ h, e => by
    obtain ⟨d, e1, e2⟩ := dp_at (i := i) h (by simpa using e)
    exact ⟨d, by simpa using e1, e2⟩
theorem dp_ints : ∀ ns : List Int, DpAll K H (ns.map V.int) (ns.map PyData.int)
  | [] => .nil
  | n :: ns => .cons (.int n) (dp_ints ns)
/-- data of so many levels, of moderate size -/
inductive Sh : Nat → PyData → Prop
  | non (n : Nat) : Sh n .none
  | bl (n : Nat) (b : Bool) : Sh n (.bool b)
  | int (n : Nat) (i : Int) : Sh n (.int i)
  | str (n : Nat) (x : Str) : Sh n (.str x)
  | lst {n : Nat} {ds : List PyData} (hl : ds.length ≤ 100000) (h : ∀ d ∈ ds, Sh n d) : Sh (n + 1) (.list ds)
  | tup {n : Nat} {ds : List PyData} (hl : ds.length ≤ 100000) (h : ∀ d ∈ ds, Sh n d) : Sh (n + 1) (.tuple ds)
theorem sh_ints (ns : List Int) (h : ns.length ≤ 100000) : Sh 1 (.list (ns.map PyData.int)) := .lst (by rw [List.length_map]; exact h) fun d hd => by
  obtain ⟨n, _, rfl⟩ := List.mem_map.mp hd
  exact .int 0 n
end
/-! ### more readings -/
section
variable {K : PySem.W.Frag} {σ : L2.St} {H H1 : Hp} {g : TG} {tt : TT} {te : TE} {vs : List Nat} {Dl : Addr} {Q : VK}
theorem x_eqB {m n : Bool} : rEq (.bl m) (.bl n) H Q ↔ Q (.bl (decide (m = n))) H := by
  unfold rEq
  rw [show scal (V.bl m) (V.bl n) = true from rfl]
  cases m <;> cases n <;> simp
theorem x_neB {m n : Bool} : rNe (.bl m) (.bl n) H Q ↔ Q (.bl (!decide (m = n))) H := by
  unfold rNe
  rw [show scal (V.bl m) (V.bl n) = true from rfl]
  cases m <;> cases n <;> simp
theorem x_eqS {m n : Str} : rEq (.str m) (.str n) H Q ↔ Q (.bl (decide (m = n))) H := by
  unfold rEq
  rw [show scal (V.str m) (V.str n) = true from rfl]
  by_cases e : m = n
  · subst e; simp
  · simp [e]
theorem x_neS {m n : Str} : rNe (.str m) (.str n) H Q ↔ Q (.bl (!decide (m = n))) H := by
  unfold rNe
  rw [show scal (V.str m) (V.str n) = true from rfl]
  by_cases e : m = n
  · subst e; simp
  · simp [e]
theorem allL {p : Addr} {bs : List Bool} (h : SqL K H p (bs.map V.bl)) (q : Q (.bl (bs.all id)) H) : rAll K [.ref p] H Q := ⟨p, bs, rfl, h, q⟩
theorem anyL {p : Addr} {bs : List Bool} (h : SqL K H p (bs.map V.bl)) (q : Q (.bl (bs.any id)) H) : rAny K [.ref p] H Q := ⟨p, bs, rfl, h, q⟩
theorem lenL {p : Addr} {xs : List V} (h : SqL K H p xs) (q : Q (.int (xs.length : Nat)) H) : rLen K [.ref p] H Q := ⟨p, xs, rfl, .inl h, q⟩
theorem lenT {p : Addr} {xs : List V} (h : SqT K H p xs) (q : Q (.int (xs.length : Nat)) H) : rLen K [.ref p] H Q := ⟨p, xs, rfl, .inr h, q⟩
theorem x_izipA {a : TA} {R : It → Hp → Prop} : iZipA K a σ H R = a σ H (fun vs H1 => ∃ a b xs ys, vs = [.ref a, .ref b] ∧ ((SqL K H1 a xs ∧ SqL K H1 b ys ∧ R (Itz K a b) H1) ∨ (SqT K H1 a xs ∧ SqT K H1 b ys ∧ R (ItzT K a b) H1))) := rfl
theorem eq_same {v : V} (h : scal v v = true) (q : Q (.bl true) H) : rEq v v H Q := ⟨h, by rw [decide_eq_true rfl]; exact q⟩
theorem g_three {i j l : Nat} {T : Addr} {x y z : V} {QG : L2.St → Hp → Prop} (h : H T = some (.tup [x, y, z])) (q : QG (((σ.set i (some x)).set j (some y)).set l (some z)) H) : gTup K 3 (gCons (gName i) (gCons (gName j) (gCons (gName l) gNil))) (.ref T) σ H QG :=
  ⟨T, [x, y, z], rfl, .inl (.inl h), rfl, x, [y, z], rfl, y, [z], rfl, z, [], rfl, rfl, q⟩
theorem lc_zip {a b : Addr} {xs ys : List V} {j k : Nat} (keep : Nat → Bool) (f : Nat → V) (hx : SqL K H1 a xs) (hy : SqL K H1 b ys) (he0 : xs.length = ys.length) (hD : H1 Dl = none) (hn : xs.length ≤ 100000)
    (hw : ∀ u v : V, wipe (((wipe σ vs).set j (some u)).set k (some v)) vs = wipe σ vs)
    (ht : ∀ i x y, xs[i]? = some x → ys[i]? = some y → Evl.EvT tt (((wipe σ vs).set j (some x)).set k (some y)) H1 (keep i))
    (he : ∀ i x y, xs[i]? = some x → ys[i]? = some y → keep i = true → Evl.Ev te (((wipe σ vs).set j (some x)).set k (some y)) H1 (f i))
    (hd : ∀ H', Evl.Ex H1 H' → H' Dl = some (.lst (kept xs.length keep f)) → Q (.ref Dl) H') : LcG (Itz K a b) (gTup K 2 (gCons (gName j) (gCons (gName k) gNil))) tt te vs σ Dl H1 Q := by
  have gx : ∀ i, i < xs.length → xs[i]? = some (xs.getD i .non) := fun i hi => by rw [List.getD_eq_getElem?_getD, List.getElem?_eq_getElem hi]; rfl
  have gy : ∀ i, i < xs.length → ys[i]? = some (ys.getD i .non) := fun i hi => by rw [List.getD_eq_getElem?_getD, List.getElem?_eq_getElem (by omega)]; rfl
  refine lc_pure xs.length (fun i => ((wipe σ vs).set j (some (xs.getD i .non))).set k (some (ys.getD i .non))) keep f hD hn (fun H' e => ⟨xs, ys, Evl.ex_l e hx, Evl.ex_l e hy, .inl (Nat.le_refl _)⟩)
    (fun i H' hi e => ⟨xs, ys, _, _, Evl.ex_l e hx, Evl.ex_l e hy, gx i hi, gy i hi⟩)
    (fun i H' x H'' QG hi e y q => ?_) (fun i hi => hw _ _) (fun i hi => ht i _ _ (gx i hi) (gy i hi)) (fun i hi => he i _ _ (gx i hi) (gy i hi)) hd
  obtain ⟨T, u, v, rfl, hT, rfl, hf, hf2⟩ := y
  have hu := hf xs (Evl.ex_l e hx)
  have hv := hf2 ys (Evl.ex_l e hy)
  have e1 : xs.getD i .non = u := by rw [List.getD_eq_getElem?_getD, hu]; rfl
  have e2 : ys.getD i .non = v := by rw [List.getD_eq_getElem?_getD, hv]; rfl
  refine g_two upd_same ?_
  have q2 := q (Evl.Ex.new hT)
  rw [e1, e2] at q2
  exact q2
theorem lc_zipT {a b : Addr} {xs ys : List V} {j k : Nat} (keep : Nat → Bool) (f : Nat → V) (hx : SqT K H1 a xs) (hy : SqT K H1 b ys) (he0 : xs.length = ys.length) (hD : H1 Dl = none) (hn : xs.length ≤ 100000)
    (hw : ∀ u v : V, wipe (((wipe σ vs).set j (some u)).set k (some v)) vs = wipe σ vs)
    (ht : ∀ i x y, xs[i]? = some x → ys[i]? = some y → Evl.EvT tt (((wipe σ vs).set j (some x)).set k (some y)) H1 (keep i))
    (he : ∀ i x y, xs[i]? = some x → ys[i]? = some y → keep i = true → Evl.Ev te (((wipe σ vs).set j (some x)).set k (some y)) H1 (f i))
    (hd : ∀ H', Evl.Ex H1 H' → H' Dl = some (.lst (kept xs.length keep f)) → Q (.ref Dl) H') : LcG (ItzT K a b) (gTup K 2 (gCons (gName j) (gCons (gName k) gNil))) tt te vs σ Dl H1 Q := by
  have gx : ∀ i, i < xs.length → xs[i]? = some (xs.getD i .non) := fun i hi => by rw [List.getD_eq_getElem?_getD, List.getElem?_eq_getElem hi]; rfl
  have gy : ∀ i, i < xs.length → ys[i]? = some (ys.getD i .non) := fun i hi => by rw [List.getD_eq_getElem?_getD, List.getElem?_eq_getElem (by omega)]; rfl
  refine lc_pure xs.length (fun i => ((wipe σ vs).set j (some (xs.getD i .non))).set k (some (ys.getD i .non))) keep f hD hn (fun H' e => ⟨xs, ys, Evl.ex_t e hx, Evl.ex_t e hy, .inl (Nat.le_refl _)⟩)
    (fun i H' hi e => ⟨xs, ys, _, _, Evl.ex_t e hx, Evl.ex_t e hy, gx i hi, gy i hi⟩)
    (fun i H' x H'' QG hi e y q => ?_) (fun i hi => hw _ _) (fun i hi => ht i _ _ (gx i hi) (gy i hi)) (fun i hi => he i _ _ (gx i hi) (gy i hi)) hd
  obtain ⟨T, u, v, rfl, hT, rfl, hf, hf2⟩ := y
  have hu := hf xs (Evl.ex_t e hx)
  have hv := hf2 ys (Evl.ex_t e hy)
  have e1 : xs.getD i .non = u := by rw [List.getD_eq_getElem?_getD, hu]; rfl
  have e2 : ys.getD i .non = v := by rw [List.getD_eq_getElem?_getD, hv]; rfl
  refine g_two upd_same ?_
  have q2 := q (Evl.Ex.new hT)
  rw [e1, e2] at q2
  exact q2
theorem all_true (n : Nat) : ((List.replicate n true).all id) = true := by
  induction n with
  | zero => rfl
  | succ n ih => rw [List.replicate_succ, List.all_cons, ih]; rfl
theorem kept_const (n : Nat) (v : V) : kept n (fun _ => true) (fun _ => v) = List.replicate n v := by
  rw [kept_all]
  apply List.ext_getElem?
  intro j
  rw [List.getElem?_map]
  by_cases h : j < n
  · rw [List.getElem?_range h, List.getElem?_replicate, if_pos h]
    rfl
  · rw [List.getElem?_eq_none (by rw [List.length_range]; omega), List.getElem?_eq_none (by rw [List.length_replicate]; omega)]
    rfl
end
end BC

set_option Elab.async false
namespace FM
def cf (m t l : Nat) : Int := if l = 0 then (if t = 0 then 1 else 0) else if t < l then 0 else if t = l then 1 else (l : Int) * (m : Int) ^ (t - l - 1)
def lg (m t l : Nat) : Int := if t < l then 0 else (m : Int) ^ (t - l)
theorem lg_step (m t l : Nat) : cf m t l + ((m : Int) - l) * lg m t (l + 1) = lg m t l := by
  unfold cf lg
  by_cases h0 : l = 0
  · subst h0
    by_cases h1 : t = 0
    · subst h1; simp
    · obtain ⟨s, rfl⟩ : ∃ s, t = s + 1 := ⟨t - 1, by omega⟩
      simp [Int.pow_succ]
      grind
  · rw [if_neg h0]
    by_cases h1 : t < l
    · rw [if_pos h1, if_pos (by omega), if_pos h1]; simp
    · rw [if_neg h1, if_neg h1]
      by_cases h2 : t = l
      · subst h2
        simp
      · rw [if_neg h2, if_neg (by omega)]
        obtain ⟨s, rfl⟩ : ∃ s, t = l + 1 + s := ⟨t - l - 1, by omega⟩
        have e1 : l + 1 + s - l - 1 = s := by omega
        have e2 : l + 1 + s - (l + 1) = s := by omega
        have e3 : l + 1 + s - l = s + 1 := by omega
        rw [e1, e2, e3, Int.pow_succ]
        grind
theorem cf_step (m t l : Nat) (h : 1 ≤ l) : cf m t (l - 1) + lg m t l = cf m (t + 1) l := by
  obtain ⟨k, rfl⟩ : ∃ k, l = k + 1 := ⟨l - 1, by omega⟩
  unfold cf lg
  rw [Nat.add_sub_cancel, if_neg (show ¬ k + 1 = 0 by omega)]
  by_cases h0 : k = 0
  · subst h0
    by_cases h1 : t = 0
    · subst h1; simp
    · rw [if_pos rfl, if_neg h1, if_neg (by omega), if_neg (by omega), if_neg (by omega)]
      simp
  · rw [if_neg h0]
    by_cases h1 : t < k
    · rw [if_pos h1, if_pos (by omega), if_pos (by omega)]; simp
    · rw [if_neg h1]
      by_cases h2 : t = k
      · subst h2
        simp
      · rw [if_neg h2, if_neg (by omega), if_neg (by omega), if_neg (by omega)]
        obtain ⟨s, rfl⟩ : ∃ s, t = k + 1 + s := ⟨t - k - 1, by omega⟩
        have e1 : k + 1 + s - k - 1 = s := by omega
        have e2 : k + 1 + s - (k + 1) = s := by omega
        have e3 : k + 1 + s + 1 - (k + 1) - 1 = s := by omega
        rw [e1, e2, e3]
        grind
def pf (m : Nat) : Nat → Int
  | 0 => 1
  | l + 1 => pf m l * ((m : Int) - l)
def fl (m t l : Nat) : Int := pf m l * cf m t l
def TT (m t k : Nat) : Int := pf m k * lg m t k
theorem fl_TT (m t l : Nat) : fl m t l + TT m t (l + 1) = TT m t l := by
  unfold fl TT
  rw [← lg_step m t l]
  show pf m l * cf m t l + pf m l * ((m : Int) - l) * lg m t (l + 1) = _
  grind
def sumTo (f : Nat → Int) : Nat → Int
  | 0 => 0
  | n + 1 => sumTo f n + f n
theorem sum_fl (m t : Nat) : ∀ k, sumTo (fl m t) k + TT m t k = (m : Int) ^ t
  | 0 => by
    show (0 : Int) + pf m 0 * lg m t 0 = _
    unfold lg
    rw [if_neg (by omega)]
    show (0 : Int) + 1 * (m : Int) ^ (t - 0) = _
    simp
  | k + 1 => by
    have ih := sum_fl m t k
    have e := fl_TT m t k
    show sumTo (fl m t) k + fl m t k + TT m t (k + 1) = _
    omega
theorem pf_zero (m : Nat) : pf m (m + 1) = 0 := by
  show pf m m * ((m : Int) - m) = 0
  simp
theorem TT_zero (m t : Nat) : TT m t (m + 1) = 0 := by
  unfold TT
  rw [pf_zero]
  simp
theorem sum_all (m t : Nat) : sumTo (fl m t) (m + 1) = (m : Int) ^ t := by
  have h := sum_fl m t (m + 1)
  rw [TT_zero] at h
  omega
theorem sum_lfl (m t : Nat) : ∀ k : Nat, sumTo (fun l => (l : Int) * fl m t l) k + (k : Int) * TT m t k = sumTo (fun l => TT m t (l + 1)) k
  | 0 => by simp [sumTo]
  | k + 1 => by
    have ih := sum_lfl m t k
    have e := fl_TT m t k
    show sumTo (fun l => (l : Int) * fl m t l) k + (k : Int) * fl m t k + ((k + 1 : Nat) : Int) * TT m t (k + 1) = sumTo (fun l => TT m t (l + 1)) k + TT m t (k + 1)
    rw [← ih, ← e]
    grind
def top (m t : Nat) : Int := sumTo (fun l => TT m t (l + 1)) m
theorem top_eq (m t : Nat) : sumTo (fun l => (l : Int) * fl m t l) (m + 1) = top m t := by
  have h := sum_lfl m t (m + 1)
  rw [TT_zero] at h
  have e : sumTo (fun l => TT m t (l + 1)) (m + 1) = top m t + TT m t (m + 1) := rfl
  rw [e, TT_zero] at h
  omega
theorem pf_nn (m : Nat) : ∀ k, k ≤ m → 0 ≤ pf m k
  | 0, _ => by show (0 : Int) ≤ 1; omega
  | k + 1, h => by
    have ih := pf_nn m k (by omega)
    exact Int.mul_nonneg ih (by omega)
theorem pow_nn (m n : Nat) : (0 : Int) ≤ (m : Int) ^ n := Int.pow_nonneg (by omega)
theorem lg_nn (m t k : Nat) : 0 ≤ lg m t k := by
  unfold lg
  split
  · omega
  · exact pow_nn _ _
theorem pf_le (m : Nat) : ∀ k, k ≤ m → pf m k ≤ (m : Int) ^ k
  | 0, _ => by show (1 : Int) ≤ _; simp
  | k + 1, h => by
    have ih := pf_le m k (by omega)
    have nn := pf_nn m k (by omega)
    rw [Int.pow_succ]
    show pf m k * ((m : Int) - k) ≤ _
    exact Int.mul_le_mul ih (by omega) (by omega) (pow_nn _ _)
theorem TT_nn (m t k : Nat) (h : k ≤ m) : 0 ≤ TT m t k := Int.mul_nonneg (pf_nn m k h) (lg_nn m t k)
theorem TT_le (m t k : Nat) (h : k ≤ m) : TT m t k ≤ (m : Int) ^ t := by
  unfold TT lg
  split
  · simp; exact pow_nn _ _
  · have e : (m : Int) ^ t = (m : Int) ^ k * (m : Int) ^ (t - k) := by
      rw [← Int.pow_add]
      congr 1
      omega
    rw [e]
    exact Int.mul_le_mul_of_nonneg_right (pf_le m k h) (pow_nn _ _)
theorem TT_mono (m t k : Nat) (h : k ≤ m) : (m : Int) * TT m t k ≤ TT m (t + 1) k := by
  have nn := pf_nn m k h
  have e : (m : Int) * lg m t k ≤ lg m (t + 1) k := by
    by_cases h1 : t < k
    · have : lg m t k = 0 := by unfold lg; rw [if_pos h1]
      rw [this]
      simp
      exact lg_nn _ _ _
    · unfold lg
      rw [if_neg h1, if_neg (by omega)]
      have e : t + 1 - k = (t - k) + 1 := by omega
      rw [e, Int.pow_succ, Int.mul_comm]
      exact Int.le_refl _
  unfold TT
  have := Int.mul_le_mul_of_nonneg_left e nn
  calc (m : Int) * (pf m k * lg m t k) = pf m k * ((m : Int) * lg m t k) := by grind
    _ ≤ _ := this
theorem sumTo_le {f g : Nat → Int} : ∀ n, (∀ i, i < n → f i ≤ g i) → sumTo f n ≤ sumTo g n
  | 0, _ => Int.le_refl _
  | n + 1, h => Int.add_le_add (sumTo_le n fun i hi => h i (by omega)) (h n (by omega))
theorem sumTo_mul (c : Int) (f : Nat → Int) : ∀ n, sumTo (fun i => c * f i) n = c * sumTo f n
  | 0 => by simp [sumTo]
  | n + 1 => by
    show sumTo (fun i => c * f i) n + c * f n = c * (sumTo f n + f n)
    rw [sumTo_mul c f n]
    grind
theorem sumTo_const (c : Int) : ∀ n : Nat, sumTo (fun _ => c) n = n * c
  | 0 => by simp [sumTo]
  | n + 1 => by
    show sumTo (fun _ => c) n + c = _
    rw [sumTo_const c n]
    grind
theorem top_mono (m t : Nat) : (m : Int) * top m t ≤ top m (t + 1) := by
  unfold top
  rw [← sumTo_mul]
  exact sumTo_le _ fun i hi => TT_mono m t (i + 1) (by omega)
theorem top_le (m t : Nat) : top m t ≤ m * (m : Int) ^ t := by
  unfold top
  rw [← sumTo_const]
  exact sumTo_le _ fun i hi => TT_le m t (i + 1) (by omega)
theorem sumTo_nn {f : Nat → Int} : ∀ n, (∀ i, i < n → 0 ≤ f i) → 0 ≤ sumTo f n
  | 0, _ => Int.le_refl _
  | n + 1, h => Int.add_nonneg (sumTo_nn n fun i hi => h i (by omega)) (h n (by omega))
theorem top_nn (m t : Nat) : 0 ≤ top m t := sumTo_nn _ fun i hi => TT_nn m t (i + 1) (by omega)
theorem sumTo_first {f : Nat → Int} : ∀ n, 0 < n → (∀ i, i < n → 0 ≤ f i) → f 0 ≤ sumTo f n
  | 1, _, _ => by show f 0 ≤ 0 + f 0; omega
  | n + 2, _, h => by
    have := sumTo_first (f := f) (n + 1) (by omega) fun i hi => h i (by omega)
    have h2 := h (n + 1) (by omega)
    show f 0 ≤ sumTo f (n + 1) + f (n + 1)
    omega
theorem top_ge (m t : Nat) (hm : 1 ≤ m) (ht : 1 ≤ t) : (m : Int) ^ t ≤ top m t := by
  have h := sumTo_first (f := fun l => TT m t (l + 1)) m hm fun i hi => TT_nn m t (i + 1) (by omega)
  have e : TT m t 1 = (m : Int) ^ t := by
    show pf m 0 * ((m : Int) - (0 : Nat)) * lg m t 1 = _
    unfold lg
    rw [if_neg (by omega)]
    obtain ⟨s, rfl⟩ : ∃ s, t = s + 1 := ⟨t - 1, by omega⟩
    show 1 * ((m : Int) - (0 : Nat)) * (m : Int) ^ (s + 1 - 1) = _
    rw [Nat.add_sub_cancel, Int.pow_succ]
    simp
    exact Int.mul_comm _ _
  unfold top
  show _ ≤ sumTo (fun l => TT m t (l + 1)) m
  rw [← e]
  exact h
theorem cf_nn (m t l : Nat) : 0 ≤ cf m t l := by
  unfold cf
  split
  · split <;> omega
  · split
    · omega
    · split
      · omega
      · exact Int.mul_nonneg (by omega) (pow_nn _ _)
theorem pow_mono {a b : Nat} (h : a ≤ b) : ∀ n : Nat, (a : Int) ^ n ≤ (b : Int) ^ n
  | 0 => by simp
  | n + 1 => by
    rw [Int.pow_succ, Int.pow_succ]
    exact Int.mul_le_mul (pow_mono h n) (by omega) (by omega) (pow_nn _ _)
theorem cf_mono (m t l : Nat) : cf m t l ≤ cf (m + 1) t l := by
  unfold cf
  split
  · exact Int.le_refl _
  · split
    · exact Int.le_refl _
    · split
      · exact Int.le_refl _
      · refine Int.mul_le_mul_of_nonneg_left ?_ (by omega)
        exact pow_mono (by omega) _
theorem cf_full (m t : Nat) (hm : 1 ≤ m) : cf m (t + 1) m = cf m t (m - 1) + cf m t m := by
  have h1 := cf_step m t m hm
  have h2 := lg_step m t m
  have h3 : ((m : Int) - m) = 0 := by omega
  rw [h3] at h2
  omega
theorem fl_one (m t : Nat) : fl m t 1 = if t = 0 then 0 else if t = 1 then (m : Int) else (m : Int) ^ (t - 1) := by
  show pf m 0 * ((m : Int) - (0 : Nat)) * cf m t 1 = _
  show 1 * ((m : Int) - (0 : Nat)) * cf m t 1 = _
  unfold cf
  by_cases h0 : t = 0
  · subst h0; simp
  · rw [if_neg (by omega), if_neg (by omega), if_neg h0]
    by_cases h1 : t = 1
    · subst h1; simp
    · rw [if_neg h1, if_neg h1]
      obtain ⟨s, rfl⟩ : ∃ s, t = s + 2 := ⟨t - 2, by omega⟩
      have e1 : s + 2 - 1 - 1 = s := by omega
      have e2 : s + 2 - 1 = s + 1 := by omega
      rw [e1, e2, Int.pow_succ]
      simp
      exact Int.mul_comm _ _
theorem fl_zero (m t : Nat) : fl m t 0 = if t = 0 then 1 else 0 := by
  show 1 * cf m t 0 = _
  unfold cf
  simp
/-! sizes -/
theorem pow_lt {m n e : Nat} (hm : m ≤ 64) (h : 6 * n < e) : ((m : Int) ^ n).natAbs < 2 ^ e := by
  have h1 : ((m : Int) ^ n) ≤ ((64 : Nat) : Int) ^ n := pow_mono hm n
  have h0 := pow_nn m n
  have h2 : (((64 : Nat) : Int) ^ n) = ((2 ^ (6 * n) : Nat) : Int) := by
    rw [Nat.pow_mul]
    simp
  have h3 : (2 : Nat) ^ (6 * n) < 2 ^ e := Nat.pow_lt_pow_right (by omega) h
  omega
theorem lt_of_le {a b : Int} {e : Nat} (h0 : 0 ≤ a) (h : a ≤ b) (hb : b.natAbs < 2 ^ e) : a.natAbs < 2 ^ e := by omega
theorem cf_le (m t l : Nat) (hm : 1 ≤ m) : cf m t l ≤ ((l + 1 : Nat) : Int) * (m : Int) ^ t := by
  have p1 : (1 : Int) ≤ (m : Int) ^ t := by
    have := pow_mono (a := 1) (b := m) hm t
    rw [show ((1 : Nat) : Int) = 1 from rfl, Int.one_pow] at this
    exact this
  have p2 : ((l + 1 : Nat) : Int) * 1 ≤ ((l + 1 : Nat) : Int) * (m : Int) ^ t := Int.mul_le_mul_of_nonneg_left p1 (by omega)
  unfold cf
  split
  · split <;> omega
  · split
    · omega
    · split
      · omega
      · rename_i h1 h2 h3
        have p3 : (m : Int) ^ (t - l - 1) ≤ (m : Int) ^ t := by
          have e : (m : Int) ^ t = (m : Int) ^ (t - l - 1) * (m : Int) ^ (l + 1) := by
            rw [← Int.pow_add]
            congr 1
            omega
          have q : (1 : Int) ≤ (m : Int) ^ (l + 1) := by
            have := pow_mono (a := 1) (b := m) hm (l + 1)
            rw [show ((1 : Nat) : Int) = 1 from rfl, Int.one_pow] at this
            exact this
          rw [e]
          have := Int.mul_le_mul_of_nonneg_left q (pow_nn m (t - l - 1))
          omega
        exact Int.mul_le_mul (by omega) p3 (pow_nn _ _) (by omega)
theorem cf_lt (m t l : Nat) (hm : 1 ≤ m) (hm2 : m ≤ 40) (ht : t ≤ 201) (hl : l ≤ 40) : (cf m t l).natAbs < 2 ^ 1300 := by
  refine lt_of_le (cf_nn _ _ _) (cf_le m t l hm) ?_
  rw [Int.natAbs_mul]
  have h1 : ((m : Int) ^ t).natAbs < 2 ^ 1250 := pow_lt (by omega) (by omega)
  have h2 : (((l + 1 : Nat) : Int)).natAbs < 2 ^ 50 := by
    have : (2 : Nat) ^ 50 = 1125899906842624 := by decide
    omega
  have := Nat.mul_lt_mul'' h2 h1
  rw [← Nat.pow_add] at this
  exact this
theorem lg_lt (m t l : Nat) (hm2 : m ≤ 40) (ht : t ≤ 201) : (lg m t l).natAbs < 2 ^ 1300 := by
  unfold lg
  split
  · exact Nat.two_pow_pos _
  · exact pow_lt (by omega) (by omega)
theorem pf_lt (m l : Nat) (hm2 : m ≤ 40) (hl : l ≤ m) : (pf m l).natAbs < 2 ^ 300 := by
  refine lt_of_le (pf_nn m l hl) (pf_le m l hl) ?_
  exact pow_lt (by omega) (by omega)
theorem top_lt (m t : Nat) (hm2 : m ≤ 40) (ht : t ≤ 201) : (top m t).natAbs < 2 ^ 1300 := by
  refine lt_of_le (top_nn m t) (top_le m t) ?_
  have e : (m : Int) * (m : Int) ^ t = (m : Int) ^ (t + 1) := by rw [Int.pow_succ, Int.mul_comm]
  rw [e]
  exact pow_lt (by omega) (by omega)
end FM

set_option Elab.async false
set_option linter.all false
set_option maxRecDepth 100000
set_option maxHeartbeats 4000000
namespace LW
open PySem PySem.Spec PyProof.Rows L2 BC Evl FM

def topS (i : Nat) : Stmt := PySem.Challenge.pw_breadcrumbs_k59_free_visits_of_many_page.main.body.getD i (.Pass ⟨0, 0, 0, 0⟩)
abbrev s_is_integer : Stmt := topS 4
theorem sc_is_integer : FnScope ["value", "least", "most"] ["value", "least", "most"] (defScope s_is_integer) := ⟨rfl, rfl, rfl, by decide +kernel, rfl, by decide +kernel, by decide +kernel⟩
abbrev s_check_number : Stmt := topS 5
theorem sc_check_number : FnScope ["value", "least", "most"] ["value", "least", "most"] (defScope s_check_number) := ⟨rfl, rfl, rfl, by decide +kernel, rfl, by decide +kernel, by decide +kernel⟩
abbrev s_check_free : Stmt := topS 9
theorem sc_check_free : FnScope ["many", "times"] ["many", "times"] (defScope s_check_free) := ⟨rfl, rfl, rfl, by decide +kernel, rfl, by decide +kernel, by decide +kernel⟩
abbrev s_counts_after : Stmt := topS 10
theorem sc_counts_after : FnScope ["many", "counts", "found", "longer", "length"] ["many", "counts"] (defScope s_counts_after) := ⟨rfl, rfl, rfl, by decide +kernel, rfl, by decide +kernel, by decide +kernel⟩
abbrev s_counts_of : Stmt := topS 11
theorem sc_counts_of : FnScope ["many", "times", "found", "turn"] ["many", "times"] (defScope s_counts_of) := ⟨rfl, rfl, rfl, by decide +kernel, rfl, by decide +kernel, by decide +kernel⟩
abbrev s_all_by_length : Stmt := topS 12
theorem sc_all_by_length : FnScope ["many", "times", "found", "trails", "length", "count"] ["many", "times"] (defScope s_all_by_length) := ⟨rfl, rfl, rfl, by decide +kernel, rfl, by decide +kernel, by decide +kernel⟩
abbrev s_common_divisor : Stmt := topS 13
theorem sc_common_divisor : FnScope ["one", "other"] ["one", "other"] (defScope s_common_divisor) := ⟨rfl, rfl, rfl, by decide +kernel, rfl, by decide +kernel, by decide +kernel⟩
abbrev s_count_free : Stmt := topS 14
theorem sc_count_free : FnScope ["many", "times", "length"] ["many", "times", "length"] (defScope s_count_free) := ⟨rfl, rfl, rfl, by decide +kernel, rfl, by decide +kernel, by decide +kernel⟩
abbrev s_free_by_length : Stmt := topS 15
theorem sc_free_by_length : FnScope ["many", "times"] ["many", "times"] (defScope s_free_by_length) := ⟨rfl, rfl, rfl, by decide +kernel, rfl, by decide +kernel, by decide +kernel⟩
abbrev s_mean_length : Stmt := topS 16
theorem sc_mean_length : FnScope ["many", "times", "counts", "divisor", "top", "bottom", "length", "count"] ["many", "times"] (defScope s_mean_length) := ⟨rfl, rfl, rfl, by decide +kernel, rfl, by decide +kernel, by decide +kernel⟩
abbrev s_law_bag : Stmt := topS 18
theorem sc_law_bag : FnScope ["_law_cell"] ["_law_cell"] (defScope s_law_bag) := ⟨rfl, rfl, rfl, by decide +kernel, rfl, by decide +kernel, by decide +kernel⟩
abbrev s_law_draw : Stmt := topS 19
theorem sc_law_draw : FnScope ["_law_bag_here", "_law_most", "_law_mixed", "_law_digit"] ["_law_bag_here", "_law_most"] (defScope s_law_draw) := ⟨rfl, rfl, rfl, by decide +kernel, rfl, by decide +kernel, by decide +kernel⟩
abbrev s_law_equal : Stmt := topS 20
theorem sc_law_equal : FnScope ["_law_found", "_law_due", "_law_one", "_law_two"] ["_law_found", "_law_due"] (defScope s_law_equal) := ⟨rfl, rfl, rfl, by decide +kernel, rfl, by decide +kernel, by decide +kernel⟩
abbrev s_law_table : Stmt := topS 21
theorem sc_law_table : FnScope ["_law_wide", "_law_long", "_law_found", "_law_turn", "_law_later", "_law_size", "_law_longer", "_law_whole", "_law_ways"] ["_law_wide", "_law_long"] (defScope s_law_table) := ⟨rfl, rfl, rfl, by decide +kernel, rfl, by decide +kernel, by decide +kernel⟩
abbrev s_law_holds : Stmt := topS 22
theorem sc_law_holds : FnScope ["_law_bag_here", "_law_wide", "_law_long", "_law_size", "_law_whole", "_law_table_here", "_law_due", "_law_ways", "_law_top", "_law_bottom", "_law_one", "_law_other"] ["_law_bag_here", "_law_wide", "_law_long"] (defScope s_law_holds) := ⟨rfl, rfl, rfl, by decide +kernel, rfl, by decide +kernel, by decide +kernel⟩
abbrev s_law : Stmt := topS 23
theorem sc_law : FnScope ["_law_script", "_law_k", "_law_cell", "_law_bag_here", "_law_is_last", "_law_wide", "_law_long"] ["_law_script"] (defScope s_law) := ⟨rfl, rfl, rfl, by decide +kernel, rfl, by decide +kernel, by decide +kernel⟩
structure Txt (K : PySem.W.Frag) (mg : Str → Option Value) where
  f_is_integer : Addr
  fd_is_integer : FuncData
  F_is_integer : Fun K "is_integer" "is_integer" s_is_integer f_is_integer fd_is_integer
  m_is_integer : mg "is_integer" = some (.ref f_is_integer)
  b_is_integer : Binds K fd_is_integer ["value", "least", "most"] []
  f_check_number : Addr
  fd_check_number : FuncData
  F_check_number : Fun K "check_number" "check_number" s_check_number f_check_number fd_check_number
  m_check_number : mg "check_number" = some (.ref f_check_number)
  b_check_number : Binds K fd_check_number ["value", "least", "most"] []
  f_check_free : Addr
  fd_check_free : FuncData
  F_check_free : Fun K "check_free" "check_free" s_check_free f_check_free fd_check_free
  m_check_free : mg "check_free" = some (.ref f_check_free)
  b_check_free : Binds K fd_check_free ["many", "times"] []
  f_counts_after : Addr
  fd_counts_after : FuncData
  F_counts_after : Fun K "counts_after" "counts_after" s_counts_after f_counts_after fd_counts_after
  m_counts_after : mg "counts_after" = some (.ref f_counts_after)
  b_counts_after : Binds K fd_counts_after ["many", "counts"] []
  f_counts_of : Addr
  fd_counts_of : FuncData
  F_counts_of : Fun K "counts_of" "counts_of" s_counts_of f_counts_of fd_counts_of
  m_counts_of : mg "counts_of" = some (.ref f_counts_of)
  b_counts_of : Binds K fd_counts_of ["many", "times"] []
  f_all_by_length : Addr
  fd_all_by_length : FuncData
  F_all_by_length : Fun K "all_by_length" "all_by_length" s_all_by_length f_all_by_length fd_all_by_length
  m_all_by_length : mg "all_by_length" = some (.ref f_all_by_length)
  b_all_by_length : Binds K fd_all_by_length ["many", "times"] []
  f_common_divisor : Addr
  fd_common_divisor : FuncData
  F_common_divisor : Fun K "common_divisor" "common_divisor" s_common_divisor f_common_divisor fd_common_divisor
  m_common_divisor : mg "common_divisor" = some (.ref f_common_divisor)
  b_common_divisor : Binds K fd_common_divisor ["one", "other"] []
  f_count_free : Addr
  fd_count_free : FuncData
  F_count_free : Fun K "count_free" "count_free" s_count_free f_count_free fd_count_free
  m_count_free : mg "count_free" = some (.ref f_count_free)
  b_count_free : Binds K fd_count_free ["many", "times", "length"] []
  f_free_by_length : Addr
  fd_free_by_length : FuncData
  F_free_by_length : Fun K "free_by_length" "free_by_length" s_free_by_length f_free_by_length fd_free_by_length
  m_free_by_length : mg "free_by_length" = some (.ref f_free_by_length)
  b_free_by_length : Binds K fd_free_by_length ["many", "times"] []
  f_mean_length : Addr
  fd_mean_length : FuncData
  F_mean_length : Fun K "mean_length" "mean_length" s_mean_length f_mean_length fd_mean_length
  m_mean_length : mg "mean_length" = some (.ref f_mean_length)
  b_mean_length : Binds K fd_mean_length ["many", "times"] []
  f_law_bag : Addr
  fd_law_bag : FuncData
  F_law_bag : Fun K "_law_bag" "_law_bag" s_law_bag f_law_bag fd_law_bag
  m_law_bag : mg "_law_bag" = some (.ref f_law_bag)
  b_law_bag : Binds K fd_law_bag ["_law_cell"] []
  f_law_draw : Addr
  fd_law_draw : FuncData
  F_law_draw : Fun K "_law_draw" "_law_draw" s_law_draw f_law_draw fd_law_draw
  m_law_draw : mg "_law_draw" = some (.ref f_law_draw)
  b_law_draw : Binds K fd_law_draw ["_law_bag_here", "_law_most"] []
  f_law_equal : Addr
  fd_law_equal : FuncData
  F_law_equal : Fun K "_law_equal" "_law_equal" s_law_equal f_law_equal fd_law_equal
  m_law_equal : mg "_law_equal" = some (.ref f_law_equal)
  b_law_equal : Binds K fd_law_equal ["_law_found", "_law_due"] []
  f_law_table : Addr
  fd_law_table : FuncData
  F_law_table : Fun K "_law_table" "_law_table" s_law_table f_law_table fd_law_table
  m_law_table : mg "_law_table" = some (.ref f_law_table)
  b_law_table : Binds K fd_law_table ["_law_wide", "_law_long"] []
  f_law_holds : Addr
  fd_law_holds : FuncData
  F_law_holds : Fun K "_law_holds" "_law_holds" s_law_holds f_law_holds fd_law_holds
  m_law_holds : mg "_law_holds" = some (.ref f_law_holds)
  b_law_holds : Binds K fd_law_holds ["_law_bag_here", "_law_wide", "_law_long"] []
  f_law : Addr
  fd_law : FuncData
  F_law : Fun K "law" "law" s_law f_law fd_law
  m_law : mg "law" = some (.ref f_law)
  b_law : Binds K fd_law ["_law_script"] []
  t_MOST_PAGES : Tok
  c_MOST_PAGES : mg "MOST_PAGES" = some (.int 40 t_MOST_PAGES)
  t_MOST_VISITS : Tok
  c_MOST_VISITS : mg "MOST_VISITS" = some (.int 200 t_MOST_VISITS)
  n_all : mg "all" = none
  n_bool : mg "bool" = none
  n_enumerate : mg "enumerate" = none
  n_int : mg "int" = none
  n_isinstance : mg "isinstance" = none
  n_len : mg "len" = none
  n_list : mg "list" = none
  n_max : mg "max" = none
  n_min : mg "min" = none
  n_range : mg "range" = none
  n_str : mg "str" = none
  n_sum : mg "sum" = none
  n_tuple : mg "tuple" = none
  n_zip : mg "zip" = none
local macro_rules | `(tactic| walk_at "sx") => `(tactic| try simp only [x_seq, x_next, x_brk, x_cnt, x_nev, x_ret, x_retN, x_drop, x_ifS, x_asg, x_gn, x_gsub, x_par, x_par3, x_aug, x_for, x_lc, x_rng1, x_rng2, x_rng3, x_ilist, x_itup, x_ienum, x_izip, x_izipA, x_istr, x_var, x_c, x_op, x_un, x_test, x_b, x_chain, x_and, x_or, x_not, x_andV, x_orV, x_notV, x_ife, x_nil, x_cons, x_lst, x_tup, x_cb, x_call, x_callK, x_bm, x_bm0, x_tru, x_sl, x_nopart, x_part, x_revL, x_I0, x_I, x_U, x_ip, x_ipC, x_eqI, x_neI, x_eqB, x_neB, x_eqS, x_neS,
  L2.start, List.map_cons, List.map_nil, List.length_cons, List.length_nil, Nat.reduceAdd, Nat.reduceSub, Nat.sub_self, Nat.zero_add, List.replicate, List.replicate_succ, List.replicate_zero, List.append_nil, List.cons_append, List.nil_append, List.set_cons_zero, List.set_cons_succ, List.getElem?_cons_zero, List.getElem?_cons_succ, Option.some.injEq, V.int.injEq, V.bl.injEq, V.ref.injEq, V.str.injEq, List.cons.injEq, and_true, true_and, exists_eq_left', exists_eq_left, exists_and_left, exists_eq, if_true, if_false, ite_true, ite_false, Bool.true_eq_false, Bool.false_eq_true, reduceIte, reduceCtorEq, Bool.not_true, Bool.not_false, decide_true, decide_false, decide_eq_true_eq, Bool.and_true, Bool.true_and, Bool.and_self, Bool.and_false, Bool.false_and, Bool.or_self, Bool.or_false, Bool.false_or, Bool.or_true, Bool.true_or, eq_self])

section
variable {P : Program} {w : World} {K : PySem.W.Frag} {mg : Str → Option Value} {base : Heap}

def spIsInt : Sp := fun vs H Q _ => ∃ i lo hi : Int, vs = [.int i, .int lo, .int hi] ∧ Q (.bl (decide (lo ≤ i) && decide (i ≤ hi))) H
theorem ok_is_integer (T : Txt K mg) : FnOk P w K mg base CX0 1 T.f_is_integer T.fd_is_integer ["value", "least", "most"] spIsInt := by
  refine T.F_is_integer.ok sc_is_integer (fun vs H Q E h => ?_) (fun cdv A outer s H vs Q E hr h => ?_)
  · obtain ⟨i, lo, hi, rfl, _⟩ := h
    rfl
  · obtain ⟨i, lo, hi, rfl, k⟩ := h
    apply Exists.intro
    apply And.intro
    · apply pss_one
      exact (ps_ret (pe_and (pe_callB (k_isi (K := K) rfl) (by rfl) T.n_isinstance (by decide +kernel) (pa_cons (pv 0) (pa_cons (pe_bltn (v := .ty "int") (by rfl) T.n_int (by decide +kernel) rfl) pa_nil))) (pe_and (pe_not (pe_callB (k_isi (K := K) rfl) (by rfl) T.n_isinstance (by decide +kernel) (pa_cons (pv 0) (pa_cons (pe_bltn (v := .ty "bool") (by rfl) T.n_bool (by decide +kernel) rfl) pa_nil)))) (pe_one (pe_chain op_le op_le (pv 1) (pv 0) (pv 2))))))
    walk_at "sx"
    refine isi_int (b := true) (by decide +kernel) ?_
    walk_at "sx"
    refine isi_int (b := false) (by decide +kernel) ?_
    walk_at "sx"
    by_cases h1 : lo ≤ i
    · simpa [h1] using k
    · simpa [h1] using k
def spChk : Sp := fun vs H Q _ => ∃ i lo hi : Int, vs = [.int i, .int lo, .int hi] ∧ lo ≤ i ∧ i ≤ hi ∧ Q .non H
theorem ok_check_number (T : Txt K mg) : FnOk P w K mg base CX0 2 T.f_check_number T.fd_check_number ["value", "least", "most"] spChk := by
  refine T.F_check_number.ok sc_check_number (fun vs H Q E h => ?_) (fun cdv A outer s H vs Q E hr h => ?_)
  · obtain ⟨i, lo, hi, rfl, _⟩ := h
    rfl
  · obtain ⟨i, lo, hi, rfl, h1, h2, k⟩ := h
    apply Exists.intro
    apply And.intro
    · apply pss_one
      apply ps_if
      · exact (pt_not (pt_val (pe_call (ok_is_integer T) (hr.mono (by decide)) (by rfl) T.m_is_integer T.F_is_integer.kp T.b_is_integer .nil pass0 (pa_cons (pv 0) (pa_cons (pv 1) (pa_cons (pv 2) pa_nil))))))
      · apply pss_one
        exact ps_never
      · exact pss_nil
    walk_at "sx"
    refine ⟨i, lo, hi, rfl, ?_⟩
    simp only [h1, h2]
    walk_at "sx"
    exact k
def spCheckFree : Sp := fun vs H Q _ => ∃ m t : Int, vs = [.int m, .int t] ∧ 1 ≤ m ∧ m ≤ 40 ∧ 0 ≤ t ∧ t ≤ 200 ∧ Q .non H
theorem ok_check_free (T : Txt K mg) : FnOk P w K mg base CX0 3 T.f_check_free T.fd_check_free ["many", "times"] spCheckFree := by
  refine T.F_check_free.ok sc_check_free (fun vs H Q E h => ?_) (fun cdv A outer s H vs Q E hr h => ?_)
  · obtain ⟨m, t, rfl, _⟩ := h
    rfl
  · obtain ⟨m, t, rfl, h1, h2, h3, h4, k⟩ := h
    apply Exists.intro
    apply And.intro
    · apply pss_cons
      · exact (ps_expr (pe_call (ok_check_number T) (hr.mono (by decide)) (by rfl) T.m_check_number T.F_check_number.kp T.b_check_number .nil pass0 (pa_cons (pv 0) (pa_cons pe_int (pa_cons (pe_glob (v := .int 40) rfl T.c_MOST_PAGES ⟨_, rfl⟩) pa_nil)))))
      apply pss_one
      exact (ps_expr (pe_call (ok_check_number T) (hr.mono (by decide)) (by rfl) T.m_check_number T.F_check_number.kp T.b_check_number .nil pass0 (pa_cons (pv 1) (pa_cons pe_int (pa_cons (pe_glob (v := .int 200) rfl T.c_MOST_VISITS ⟨_, rfl⟩) pa_nil)))))
    walk_at "sx"
    refine ⟨m, 1, 40, rfl, h1, h2, ?_⟩
    refine ⟨t, 0, 200, rfl, h3, h4, ?_⟩
    exact k

theorem same_of {H : Hp} {p : Addr} {o : HO} (h : H p = none) : Ex H (upd H p o) := Ex.new h
def cfs (m t : Nat) : List Int := (List.range (m + 1)).map fun l => cf m t l
theorem cfs_at {m t j : Nat} (h : j ≤ m) : ((cfs m t).map V.int)[j]? = some (.int (cf m t j)) := by
  unfold cfs
  rw [List.getElem?_map, List.getElem?_map, List.getElem?_range (by omega)]
  rfl
theorem cfs_len (m t : Nat) : (cfs m t).length = m + 1 := by
  unfold cfs
  rw [List.length_map, List.length_range]
/-- the new list while it is filled from behind: the last i places are done -/
def part (m t i : Nat) : List V := (List.range (m + 1)).map fun l => if m < l + i then V.int (cf m (t + 1) l) else V.int 0
theorem part_zero (m t : Nat) : part m t 0 = List.replicate (m + 1) (V.int 0) := by
  unfold part
  apply List.ext_getElem?
  intro j
  rw [List.getElem?_map]
  by_cases h : j < m + 1
  · rw [List.getElem?_range h, List.getElem?_replicate, if_pos h]
    show some (if m < j + 0 then V.int (cf m (t + 1) j) else V.int 0) = some (V.int 0)
    rw [if_neg (by omega)]
  · rw [List.getElem?_eq_none (by rw [List.length_range]; omega), List.getElem?_eq_none (by rw [List.length_replicate]; omega)]
    rfl
theorem part_set (m t i : Nat) (h : i < m) : (part m t i).set (m - i) (V.int (cf m (t + 1) (m - i))) = part m t (i + 1) := by
  unfold part
  apply List.ext_getElem?
  intro j
  by_cases hj : j < m + 1
  · by_cases e : m - i = j
    · rw [List.getElem?_set, if_pos e, if_pos (by rw [List.length_map, List.length_range]; omega), List.getElem?_map, List.getElem?_range hj]
      subst e
      show _ = some (if m < m - i + (i + 1) then V.int (cf m (t + 1) (m - i)) else V.int 0)
      rw [if_pos (by omega)]
    · rw [List.getElem?_set_ne e, List.getElem?_map, List.getElem?_map, List.getElem?_range hj]
      show some (if m < j + i then V.int (cf m (t + 1) j) else V.int 0) = some (if m < j + (i + 1) then V.int (cf m (t + 1) j) else V.int 0)
      by_cases h2 : m < j + i
      · rw [if_pos h2, if_pos (by omega)]
      · rw [if_neg h2, if_neg (by omega)]
  · rw [List.getElem?_eq_none (by rw [List.length_set, List.length_map, List.length_range]; omega), List.getElem?_eq_none (by rw [List.length_map, List.length_range]; omega)]
theorem part_last (m t : Nat) : part m t m = (cfs m (t + 1)).map V.int := by
  unfold part cfs
  rw [List.map_map]
  apply List.ext_getElem?
  intro j
  rw [List.getElem?_map, List.getElem?_map]
  by_cases h : j < m + 1
  · rw [List.getElem?_range h]
    show some (if m < j + m then V.int (cf m (t + 1) j) else V.int 0) = some (V.int (cf m (t + 1) j))
    by_cases h2 : m < j + m
    · rw [if_pos h2]
    · rw [if_neg h2]
      have e : j = 0 := by omega
      subst e
      rfl
  · rw [List.getElem?_eq_none (by rw [List.length_range]; omega)]
    rfl
theorem part_len (m t i : Nat) : (part m t i).length = m + 1 := by
  unfold part
  rw [List.length_map, List.length_range]
def spAfter (K : PySem.W.Frag) : Sp := fun vs H Q _ => ∃ (m t : Nat) (a : Addr), vs = [.int m, .ref a] ∧ SqL K H a ((cfs m t).map V.int) ∧ 1 ≤ m ∧ m ≤ 40 ∧ t ≤ 200 ∧
  ∀ p H', H p = none → Ex H H' → H' p = some (.lst ((cfs m (t + 1)).map V.int)) → Q (.ref p) H'
def JA (H : Hp) (m t : Nat) (a p : Addr) (i : Nat) (σ' : L2.St) (H' : Hp) : Prop := ∃ l5, σ' = [some (.int m), some (.ref a), some (.ref p), some (.int (if i = 0 then 0 else lg m t (m + 1 - i))), l5] ∧ Ex H H' ∧ H' p = some (.lst (part m t i))
theorem ok_counts_after (T : Txt K mg) : FnOk P w K mg base CX0 1 T.f_counts_after T.fd_counts_after ["many", "counts"] (spAfter K) := by
  refine T.F_counts_after.ok sc_counts_after (fun vs H Q E h => ?_) (fun cdv A outer s H vs Q E hr h => ?_)
  · obtain ⟨m, t, a, rfl, _⟩ := h
    rfl
  · obtain ⟨m, t, a, rfl, hA, h1, h2, h3, k⟩ := h
    apply Exists.intro
    apply And.intro
    · apply pss_cons
      · exact (ps_set (i := 2) sc_counts_after.nd rfl (.inl rfl) (pe_op op_rep (pe_lst (pa_cons pe_int pa_nil)) (pe_op op_add (pv 0) pe_int)))
      apply pss_cons
      · exact (ps_set (i := 3) sc_counts_after.nd rfl (.inl rfl) pe_int)
      apply pss_cons
      · apply ps_for PassesOwn.never rfl
        · exact (pi_range3 (by rfl) T.n_range (pa_cons (pv 0) (pa_cons pe_int (pa_cons (pe_un un_neg pe_int) pa_nil))))
        · exact (pg_name (i := 4) sc_counts_after.nd rfl (.inl rfl))
        · apply pss_cons
          · exact (ps_set (i := 3) sc_counts_after.nd rfl (.inl rfl) (pe_op op_add (pe_ix (k_ix_list (K := K) rfl) (pv 1) (pv 4) (fun _ _ => rfl)) (pe_op op_mulX (pe_op op_sub (pv 0) (pv 4)) (pv 3))))
          apply pss_one
          exact (ps_asg (pe_op op_add (pe_ix (k_ix_list (K := K) rfl) (pv 1) (pe_op op_sub (pv 4) pe_int) (fun _ _ => rfl)) (pv 3)) (pg_sub (pv 2) (pv 4) set_list))
      apply pss_one
      exact (ps_ret (pv 2))
    walk_at "sx"
    refine ⟨sz_ok (by omega), fun z nz => ?_⟩
    refine repL upd_same (by omega) (by omega) (sz_ok (by simp; omega)) fun p np => ?_
    walk_at "sx"
    refine ⟨_, _, _, ⟨rfl, rfl, rfl⟩, _, RgC.neg (by omega) (by omega) (by omega) (by omega), ?_⟩
    have e1 : ((m : Int) - 0).toNat = m := by omega
    rw [e1]
    have e2 : ((m : Int) + 1).toNat = m + 1 := by omega
    have s1 : Ex H (upd H z (.lst [V.int 0])) := Ex.new nz
    have hp : H p = none := fresh_back s1 np
    refine lg_rngC (JA H m t a p) ⟨none, rfl, s1.trans (Ex.new np), ?_⟩ (fun i σ' H' hi hP => ?_) (fun σ' H' hP => ?_)
    · rw [upd_same, e2, rep_one, part_zero]
    · obtain ⟨l5, rfl, eH, hL⟩ := hP
      have hA' : SqL K H' a ((cfs m t).map V.int) := ex_l eH hA
      have ej : (m : Int) + (i : Nat) * (-1) = ((m - i : Nat) : Int) := by omega
      walk_at "sx"
      rw [ej]
      refine ixL hA' (atI_n rfl (cfs_at (by omega))) ?_
      walk_at "sx"
      have hlong : cf m t (m - i) + ((m : Int) - ((m - i : Nat) : Int)) * (if i = 0 then 0 else lg m t (m + 1 - i)) = lg m t (m - i) := by
        have := lg_step m t (m - i)
        by_cases h0 : i = 0
        · subst h0
          rw [if_pos rfl]
          have e3 : (m : Int) - ((m - 0 : Nat) : Int) = 0 := by omega
          rw [e3] at this ⊢
          omega
        · rw [if_neg h0]
          have e3 : m + 1 - i = m - i + 1 := by omega
          rw [e3]
          exact this
      refine ⟨.inl (.inl ⟨by omega, by omega⟩), ?_⟩
      rw [hlong]
      refine ixL hA' (atI_n (j := m - i - 1) (by omega) (cfs_at (by omega))) ?_
      walk_at "sx"
      refine setL hL (ixN_n rfl (by rw [part_len]; omega)) ?_
      have hst := cf_step m t (m - i) (by omega)
      rw [hst, part_set m t i hi]
      refine ⟨some (V.int ((m - i : Nat) : Int)), ?_, eH.mut hp, upd_same⟩
      have e4 : m + 1 - (i + 1) = m - i := by omega
      rw [if_neg (by omega), e4]
    · obtain ⟨l5, rfl, eH, hL⟩ := hP
      walk_at "sx"
      rw [part_last] at hL
      exact k p H' hp eH hL

theorem cfs_zero (m : Nat) : (cfs m 0).map V.int = V.int 1 :: List.replicate m (V.int 0) := by
  apply List.ext_getElem?
  intro j
  by_cases h : j < m + 1
  · rw [cfs_at (by omega)]
    cases j with
    | zero => rfl
    | succ j =>
      rw [List.getElem?_cons_succ, List.getElem?_replicate, if_pos (by omega)]
      unfold cf
      rw [if_neg (by omega), if_pos (by omega)]
  · rw [List.getElem?_eq_none (by rw [List.length_map, cfs_len]; omega), List.getElem?_eq_none (by rw [List.length_cons, List.length_replicate]; omega)]
def spCounts : Sp := fun vs H Q _ => ∃ (m t : Nat), vs = [.int m, .int t] ∧ 1 ≤ m ∧ m ≤ 40 ∧ t ≤ 201 ∧
  ∀ p H', H p = none → Ex H H' → H' p = some (.lst ((cfs m t).map V.int)) → Q (.ref p) H'
def JC (H : Hp) (m t : Nat) (i : Nat) (σ' : L2.St) (H' : Hp) : Prop := ∃ p l3, σ' = [some (.int m), some (.int t), some (.ref p), l3] ∧ Ex H H' ∧ H p = none ∧ H' p = some (.lst ((cfs m i).map V.int))
theorem ok_counts_of (T : Txt K mg) : FnOk P w K mg base CX0 2 T.f_counts_of T.fd_counts_of ["many", "times"] spCounts := by
  refine T.F_counts_of.ok sc_counts_of (fun vs H Q E h => ?_) (fun cdv A outer s H vs Q E hr h => ?_)
  · obtain ⟨m, t, rfl, _⟩ := h
    rfl
  · obtain ⟨m, t, rfl, h1, h2, h3, k⟩ := h
    apply Exists.intro
    apply And.intro
    · apply pss_cons
      · exact (ps_set (i := 2) sc_counts_of.nd rfl (.inl rfl) (pe_op op_cat (pe_lst (pa_cons pe_int pa_nil)) (pe_op op_rep (pe_lst (pa_cons pe_int pa_nil)) (pv 0))))
      apply pss_cons
      · apply ps_for PassesOwn.never rfl
        · exact (pi_range1 (by rfl) T.n_range (pa_cons (pv 1) pa_nil))
        · exact (pg_name (i := 3) sc_counts_of.nd rfl (.inl rfl))
        · apply pss_one
          exact (ps_set (i := 2) sc_counts_of.nd rfl (.inl rfl) (pe_call (ok_counts_after T) (hr.mono (by decide)) (by rfl) T.m_counts_after T.F_counts_after.kp T.b_counts_after .nil pass0 (pa_cons (pv 0) (pa_cons (pv 2) pa_nil))))
      apply pss_one
      exact (ps_ret (pv 2))
    walk_at "sx"
    refine ⟨sz_ok (by omega), fun z nz => ⟨sz_ok (by omega), fun y ny => ?_⟩⟩
    have s1 : Ex H (upd H z (.lst [V.int 1])) := Ex.new nz
    have s2 := s1.trans (Ex.new ny (o := .lst [V.int 0]))
    refine repL upd_same (by omega) (by omega) (sz_ok (by simp; omega)) fun x nx => ?_
    have s3 := s2.trans (Ex.new nx (o := .lst (List.replicate (m : Int).toNat [V.int 0]).flatten))
    have nzy : z ≠ y := ne_of_none upd_same ny
    have nzx : z ≠ x := ne_of_none (by rw [upd_ne nzy]; exact upd_same) nx
    refine catL (by rw [upd_ne nzx, upd_ne nzy, upd_same]) upd_same (sz_ok (by rw [rep_one]; simp; omega)) fun p np => ?_
    have s4 := s3.trans (Ex.new np (o := .lst ([V.int 1] ++ (List.replicate (m : Int).toNat [V.int 0]).flatten)))
    walk_at "sx"
    refine ⟨by omega, by omega, ?_⟩
    refine lg_rng (JC H m t) ⟨p, none, rfl, s4, fresh_back s3 np, ?_⟩ (fun i σ' H' hi hP => ?_) (fun σ' H' hP => ?_)
    · rw [upd_same, rep_one, cfs_zero]
      rfl
    · obtain ⟨p, l3, rfl, eH, hp, hL⟩ := hP
      walk_at "sx"
      refine ⟨m, i, p, rfl, .inl (.inl hL), h1, h2, by omega, fun q H2 nq e2 hq => ?_⟩
      walk_at "sx"
      exact ⟨q, _, rfl, eH.trans e2, fresh_back eH nq, hq⟩
    · obtain ⟨p, l3, rfl, eH, hp, hL⟩ := hP
      walk_at "sx"
      exact k p H' hp eH hL
def fls (m t : Nat) : List Int := (List.range (m + 1)).map fun l => fl m t l
theorem fls_at {m t j : Nat} (h : j ≤ m) : ((fls m t).map V.int)[j]? = some (.int (fl m t j)) := by
  unfold fls
  rw [List.getElem?_map, List.getElem?_map, List.getElem?_range (by omega)]
  rfl
theorem fls_len (m t : Nat) : (fls m t).length = m + 1 := by
  unfold fls
  rw [List.length_map, List.length_range]
theorem sum_range (f : Nat → Int) : ∀ n, ((List.range n).map f).sum = sumTo f n
  | 0 => rfl
  | n + 1 => by
    rw [List.range_succ, List.map_append, List.sum_append, sum_range f n]
    simp [FM.sumTo]
theorem fls_sum (m t : Nat) : (fls m t).sum = sumTo (fl m t) (m + 1) := sum_range _ _
def spAll : Sp := fun vs H Q _ => ∃ (m t : Nat), vs = [.int m, .int t] ∧ 1 ≤ m ∧ m ≤ 40 ∧ t ≤ 201 ∧
  ∀ p H', H p = none → Ex H H' → H' p = some (.lst ((fls m t).map V.int)) → Q (.ref p) H'
def JL (H : Hp) (m t : Nat) (c p : Addr) (i : Nat) (σ' : L2.St) (H' : Hp) : Prop := ∃ l4 l5, σ' = [some (.int m), some (.int t), some (.ref p), some (.int (pf m i)), l4, l5] ∧ Ex H H' ∧ H' c = some (.lst ((cfs m t).map V.int)) ∧ H' p = some (.lst (((fls m t).map V.int).take i))
theorem ok_all_by_length (T : Txt K mg) : FnOk P w K mg base CX0 3 T.f_all_by_length T.fd_all_by_length ["many", "times"] spAll := by
  refine T.F_all_by_length.ok sc_all_by_length (fun vs H Q E h => ?_) (fun cdv A outer s H vs Q E hr h => ?_)
  · obtain ⟨m, t, rfl, _⟩ := h
    rfl
  · obtain ⟨m, t, rfl, h1, h2, h3, k⟩ := h
    apply Exists.intro
    apply And.intro
    · apply pss_cons
      · exact (ps_par (i := 2) (j := 3) (by rfl) sc_all_by_length.nd rfl rfl (by decide) rfl rfl (pa_cons (pe_lst pa_nil) (pa_cons pe_int pa_nil)) (by rfl))
      apply pss_cons
      · apply ps_for PassesOwn.never rfl
        · exact (k_pi_enum (K := K) rfl (by rfl) T.n_enumerate (pa_cons (pe_call (ok_counts_of T) (hr.mono (by decide)) (by rfl) T.m_counts_of T.F_counts_of.kp T.b_counts_of .nil pass0 (pa_cons (pv 0) (pa_cons (pv 1) pa_nil))) pa_nil))
        · exact (k_tup (K := K) (n := 2) rfl rfl (pgs_cons (pg_name (i := 4) sc_all_by_length.nd rfl (.inl rfl)) (pgs_cons (pg_name (i := 5) sc_all_by_length.nd rfl (.inl rfl)) pgs_nil)))
        · apply pss_cons
          · exact (ps_expr (k_bm (K := K) rfl (pe_bm PySem.F.plainAttrs_list PySem.F.slot_list_append PySem.F.type_list_append mt_append (pv 2) (pa_cons (pe_op op_mulX (pv 3) (pv 5)) pa_nil))))
          apply pss_one
          exact (ps_aug (i := 3) sc_all_by_length.nd rfl (.inl rfl) (pe_op op_sub (pv 0) (pv 4)) ip_mulX)
      apply pss_one
      exact (ps_ret (pv 2))
    walk_at "sx"
    refine ⟨sz_ok (by omega), fun p np => ?_⟩
    have s1 : Ex H (upd H p (.lst [])) := Ex.new np
    walk_at "sx"
    refine ⟨_, _, ⟨rfl, rfl⟩, ?_⟩
    refine ⟨m, t, rfl, h1, h2, h3, fun c H1 nc e1 hc => ?_⟩
    walk_at "sx"
    refine ⟨_, .inl (.inl hc), ?_⟩
    have npc : p ≠ c := ne_of_none upd_same nc
    refine lg_enum (xs := (cfs m t).map V.int) (JL H m t c p)
      ⟨none, none, rfl, s1.trans e1, hc, e1 _ _ upd_same⟩ (fun i σ' H' hi hP => by obtain ⟨_, _, _, _, h, _⟩ := hP; exact .inl (.inl h)) (fun i x σ' H' T hx hP nT => ?_) (fun σ' H' hP => ?_)
    · obtain ⟨l4, l5, rfl, eH, hc', hp'⟩ := hP
      have hi' : i < m + 1 := by
        have := (List.getElem?_eq_some_iff.mp hx).1
        rw [List.length_map, cfs_len] at this
        exact this
      have ex : x = .int (cf m t i) := Option.some.inj (hx.symm.trans (cfs_at (by omega)))
      subst ex
      refine g_two upd_same ?_
      walk_at "sx"
      have npT : p ≠ T := ne_of_none hp' nT
      have hp2 : (upd H' T (.tup [V.int i, V.int (cf m t i)])) p = some (.lst (((fls m t).map V.int).take i)) := by rw [upd_ne npT]; exact hp'
      refine ⟨tyL hp2, .inr (wide_mul (pf_lt m i h2 (by omega)) (cf_lt m t i h1 h2 h3 (by omega)) (by omega) (by omega) (by omega)), ?_⟩
      refine appL hp2 (BC.sz_lt (by rw [List.length_take]; omega)) ?_
      walk_at "sx"
      refine ⟨.inl (.inr ⟨by omega, by omega⟩), ?_⟩
      have ncT : c ≠ T := ne_of_none hc' nT
      refine ⟨_, _, rfl, (eH.trans (Ex.new nT)).mut np, by rw [upd_ne npc.symm, upd_ne ncT]; exact hc', ?_⟩
      rw [upd_same, take_succ (fls_at (m := m) (t := t) (j := i) (by omega))]
      rfl
    · obtain ⟨l4, l5, rfl, eH, hc', hp'⟩ := hP
      walk_at "sx"
      rw [List.take_of_length_le (by rw [List.length_map, List.length_map, fls_len, cfs_len]; omega)] at hp'
      exact k p H' np eH hp'
def spGcd : Sp := fun vs H Q _ => ∃ (a b : Nat), vs = [.int a, .int b] ∧ ∀ H', Ex H H' → Q (.int (Nat.gcd a b : Nat)) H'
def JG (H : Hp) (g : Nat) (n : Nat) (σ' : L2.St) (H' : Hp) : Prop := ∃ a : Nat, σ' = [some (.int a), some (.int n)] ∧ Nat.gcd a n = g ∧ Ex H H'
theorem ok_common_divisor (T : Txt K mg) : FnOk P w K mg base CX0 1 T.f_common_divisor T.fd_common_divisor ["one", "other"] spGcd := by
  refine T.F_common_divisor.ok sc_common_divisor (fun vs H Q E h => ?_) (fun cdv A outer s H vs Q E hr h => ?_)
  · obtain ⟨a, b, rfl, _⟩ := h
    rfl
  · obtain ⟨a, b, rfl, k⟩ := h
    apply Exists.intro
    apply And.intro
    · apply pss_cons
      · apply ps_while PassesOwn.never
        · exact (pt_cmpR op_ne (pv 1) pe_int (by rfl))
        · apply pss_one
          exact (ps_par (i := 0) (j := 1) (by rfl) sc_common_divisor.nd rfl rfl (by decide) rfl rfl (pa_cons (pv 1) (pa_cons (pe_op op_modX (pv 0) (pv 1)) pa_nil)) (by rfl))
      apply pss_one
      exact (ps_ret (pv 0))
    walk_at "sx"
    refine ⟨JG H (Nat.gcd a b), ⟨b, a, rfl, rfl, Ex.refl H⟩, fun n σ' H' hP => ?_⟩
    obtain ⟨a', rfl, hg, eH⟩ := hP
    walk_at "sx"
    by_cases h0 : n = 0
    · subst h0
      have h1 : ((0 : Nat) : Int) = 0 := rfl
      simp only [h1]
      walk_at "sx"
      rw [Nat.gcd_zero_right] at hg
      rw [hg]
      exact k H' eH
    · have h1 : ¬ ((n : Int) = 0) := by omega
      simp only [h1, decide_false, Bool.not_false, if_true]
      refine ⟨fun σ' H' => ∃ n', n' < n ∧ JG H (Nat.gcd a b) n' σ' H', fun σ' H' h => h, ?_⟩
      walk_at "sx"
      refine ⟨by omega, _, _, ⟨rfl, rfl⟩, a' % n, Nat.mod_lt _ (by omega), n, ?_, ?_, eH⟩
      · rw [Int.natCast_emod]
      · rw [← hg, Nat.gcd_comm a' n, Nat.gcd_rec n a', Nat.gcd_comm]
def spCF : Sp := fun vs H Q _ => ∃ (m t l : Nat), vs = [.int m, .int t, .int l] ∧ 1 ≤ m ∧ m ≤ 40 ∧ t ≤ 200 ∧ l ≤ m ∧ ∀ H', Ex H H' → Q (.int (cf m t l)) H'
theorem ok_count_free (T : Txt K mg) : FnOk P w K mg base CX0 4 T.f_count_free T.fd_count_free ["many", "times", "length"] spCF := by
  refine T.F_count_free.ok sc_count_free (fun vs H Q E h => ?_) (fun cdv A outer s H vs Q E hr h => ?_)
  · obtain ⟨m, t, l, rfl, _⟩ := h
    rfl
  · obtain ⟨m, t, l, rfl, h1, h2, h3, h4, k⟩ := h
    apply Exists.intro
    apply And.intro
    · apply pss_cons
      · exact (ps_expr (pe_call (ok_check_free T) (hr.mono (by decide)) (by rfl) T.m_check_free T.F_check_free.kp T.b_check_free .nil pass0 (pa_cons (pv 0) (pa_cons (pv 1) pa_nil))))
      apply pss_cons
      · exact (ps_expr (pe_call (ok_check_number T) (hr.mono (by decide)) (by rfl) T.m_check_number T.F_check_number.kp T.b_check_number .nil pass0 (pa_cons (pv 2) (pa_cons pe_int (pa_cons (pv 0) pa_nil)))))
      apply pss_one
      exact (ps_ret (pe_ix (k_ix_list (K := K) rfl) (pe_call (ok_counts_of T) (hr.mono (by decide)) (by rfl) T.m_counts_of T.F_counts_of.kp T.b_counts_of .nil pass0 (pa_cons (pv 0) (pa_cons (pv 1) pa_nil))) (pv 2) (fun _ _ => rfl)))
    walk_at "sx"
    refine ⟨m, t, rfl, by omega, by omega, by omega, by omega, ?_⟩
    refine ⟨l, 0, m, rfl, by omega, by omega, ?_⟩
    refine ⟨m, t, rfl, h1, h2, by omega, fun p H1 np e1 hp => ?_⟩
    walk_at "sx"
    refine ixL (.inl (.inl hp)) (atI_n rfl (cfs_at h4)) ?_
    exact k H1 e1
def spFBL : Sp := fun vs H Q _ => ∃ (m t : Nat), vs = [.int m, .int t] ∧ 1 ≤ m ∧ m ≤ 40 ∧ t ≤ 200 ∧
  ∀ p H', H p = none → Ex H H' → H' p = some (.lst ((fls m t).map V.int)) → Q (.ref p) H'
theorem ok_free_by_length (T : Txt K mg) : FnOk P w K mg base CX0 4 T.f_free_by_length T.fd_free_by_length ["many", "times"] spFBL := by
  refine T.F_free_by_length.ok sc_free_by_length (fun vs H Q E h => ?_) (fun cdv A outer s H vs Q E hr h => ?_)
  · obtain ⟨m, t, rfl, _⟩ := h
    rfl
  · obtain ⟨m, t, rfl, h1, h2, h3, k⟩ := h
    apply Exists.intro
    apply And.intro
    · apply pss_cons
      · exact (ps_expr (pe_call (ok_check_free T) (hr.mono (by decide)) (by rfl) T.m_check_free T.F_check_free.kp T.b_check_free .nil pass0 (pa_cons (pv 0) (pa_cons (pv 1) pa_nil))))
      apply pss_one
      exact (ps_ret (pe_call (ok_all_by_length T) (hr.mono (by decide)) (by rfl) T.m_all_by_length T.F_all_by_length.kp T.b_all_by_length .nil pass0 (pa_cons (pv 0) (pa_cons (pv 1) pa_nil))))
    walk_at "sx"
    refine ⟨m, t, rfl, by omega, by omega, by omega, by omega, ?_⟩
    exact ⟨m, t, rfl, h1, h2, by omega, k⟩
def mtop (m t : Nat) : Int := top m t / ((Nat.gcd (top m t).toNat (m ^ t) : Nat) : Int)
def mbot (m t : Nat) : Int := (m : Int) ^ t / ((Nat.gcd (top m t).toNat (m ^ t) : Nat) : Int)
def spMean : Sp := fun vs H Q _ => ∃ (m t : Nat), vs = [.int m, .int t] ∧ 1 ≤ m ∧ m ≤ 40 ∧ t ≤ 200 ∧
  ∀ p H', H p = none → Ex H H' → H' p = some (.tup [.int (mtop m t), .int (mbot m t)]) → Q (.ref p) H'
def JM (H H0 : Hp) (D : Addr) (f : Nat → Int) (i : Nat) (H' : Hp) : Prop := Ex H H' ∧ Ex H0 H' ∧ H' D = some (.lst ((List.range i).map fun l => V.int (f l)))
theorem ok_mean_length (T : Txt K mg) : FnOk P w K mg base CX0 4 T.f_mean_length T.fd_mean_length ["many", "times"] spMean := by
  refine T.F_mean_length.ok sc_mean_length (fun vs H Q E h => ?_) (fun cdv A outer s H vs Q E hr h => ?_)
  · obtain ⟨m, t, rfl, _⟩ := h
    rfl
  · obtain ⟨m, t, rfl, h1, h2, h3, k⟩ := h
    apply Exists.intro
    apply And.intro
    · apply pss_cons
      · exact (ps_expr (pe_call (ok_check_free T) (hr.mono (by decide)) (by rfl) T.m_check_free T.F_check_free.kp T.b_check_free .nil pass0 (pa_cons (pv 0) (pa_cons (pv 1) pa_nil))))
      apply pss_cons
      · exact (ps_set (i := 2) sc_mean_length.nd rfl (.inl rfl) (pe_call (ok_all_by_length T) (hr.mono (by decide)) (by rfl) T.m_all_by_length T.F_all_by_length.kp T.b_all_by_length .nil pass0 (pa_cons (pv 0) (pa_cons (pv 1) pa_nil))))
      apply pss_cons
      · exact (ps_par (i := 4) (j := 5) (by rfl) sc_mean_length.nd rfl rfl (by decide) rfl rfl (pa_cons (pe_callB (k_sum (K := K) rfl rfl) (by rfl) T.n_sum (by decide +kernel) (pa_cons (pe_lc (own := [("length", 6), ("count", 7)]) rfl sc_mean_length.nd (k_pi_enum (K := K) rfl (by rfl) T.n_enumerate (pa_cons (pv 2) pa_nil)) (blkOk_by (own := [("length", 6), ("count", 7)]) (N := ["many", "times", "counts", "divisor", "top", "bottom", "length", "count"]) (sc := defScope s_mean_length) (by decide +kernel)) (fun _ _ _ _ _ => by exact (k_tup (K := K) (n := 2) rfl rfl (pgs_cons (pg_name (i := 6) sc_mean_length.nd rfl (.inl rfl)) (pgs_cons (pg_name (i := 7) sc_mean_length.nd rfl (.inl rfl)) pgs_nil)))) (fun _ _ _ _ _ => by exact pts_nil) (fun _ _ _ _ _ => by exact (pe_op op_mulX (pv 6) (pv 7)))) pa_nil)) (pa_cons (pe_callB (k_sum (K := K) rfl rfl) (by rfl) T.n_sum (by decide +kernel) (pa_cons (pv 2) pa_nil)) pa_nil)) (by rfl))
      apply pss_cons
      · exact (ps_set (i := 3) sc_mean_length.nd rfl (.inl rfl) (pe_call (ok_common_divisor T) (hr.mono (by decide)) (by rfl) T.m_common_divisor T.F_common_divisor.kp T.b_common_divisor .nil pass0 (pa_cons (pv 4) (pa_cons (pv 5) pa_nil))))
      apply pss_one
      exact (ps_ret (pe_tup (pa_cons (pe_op op_fdivX (pv 4) (pv 3)) (pa_cons (pe_op op_fdivX (pv 5) (pv 3)) pa_nil))))
    walk_at "sx"
    refine ⟨m, t, rfl, by omega, by omega, by omega, by omega, ?_⟩
    refine ⟨m, t, rfl, h1, h2, by omega, fun c H1 nc e1 hc => ?_⟩
    walk_at "sx"
    refine ⟨_, .inl (.inl hc), fun D nD => ?_⟩
    refine lc_enum (xs := (fls m t).map V.int) (fun _ => true) (fun l => V.int (l * fl m t l)) (.inl (.inl hc)) nD (by rw [List.length_map, fls_len]; omega) (fun u v => rfl) (fun i x hx => tyes) (fun i x hx _ => ?_) (fun H2 e2 hD => ?_)
    · have hi : i < m + 1 := by
        have := (List.getElem?_eq_some_iff.mp hx).1
        rw [List.length_map, fls_len] at this
        exact this
      have ex : x = .int (fl m t i) := Option.some.inj (hx.symm.trans (fls_at (by omega)))
      subst ex
      exact ev_op (ev_var rfl) (ev_var rfl) (rv_I (.inl (.inl ⟨by omega, by omega⟩)))
    · rw [kept_all, List.length_map, fls_len] at hD
      have e3 : (List.range (m + 1)).map (fun l => V.int ((l : Nat) * fl m t l)) = ((List.range (m + 1)).map fun l => ((l : Nat) : Int) * fl m t l).map V.int := by rw [List.map_map]; rfl
      rw [e3] at hD
      refine sumL (.inl (.inl hD)) ?_
      refine sumL (.inl (.inl (e2 _ _ hc))) ?_
      rw [sum_range, top_eq, fls_sum, sum_all]
      refine ⟨_, _, ⟨rfl, rfl⟩, (top m t).toNat, m ^ t, ?_, fun H3 e4 => ?_⟩
      · have := top_nn m t
        rw [Int.toNat_of_nonneg this, Int.natCast_pow]
      · have hg : 0 < Nat.gcd (top m t).toNat (m ^ t) := Nat.gcd_pos_of_pos_right _ (Nat.pow_pos (by omega))
        have hgl : Nat.gcd (top m t).toNat (m ^ t) < 2 ^ 1300 := by
          refine Nat.lt_of_le_of_lt (Nat.gcd_le_right _ (Nat.pow_pos (by omega))) ?_
          have := pow_lt (m := m) (n := t) (e := 1300) (by omega) (by omega)
          rw [Int.natAbs_pow] at this
          exact this
        have hdv : ∀ i, CDivW i ((Nat.gcd (top m t).toNat (m ^ t) : Nat) : Int) := fun i => wide_div (b := 1300) (by omega) (by omega) (by omega) (by omega)
        walk_at "sx"
        refine ⟨hdv _, hdv _, sz_ok (by omega), fun p np => ?_⟩
        exact k p _ (fresh_back (((e1.trans e2).trans e4)) np) (((e1.trans e2).trans e4).trans (Ex.new np)) upd_same
end
/-! ### the bag -/
def BagAt (H : Hp) (b : Addr) (c : Nat) : Prop := ∃ x0 x1 x2 : Int, H b = some (.lst [.int x0, .int x1, .int x2]) ∧ 0 ≤ x1 ∧ x1 < 10 ^ 37 + 43 ∧ 0 ≤ x2 ∧ x2 ≤ c
theorem BagAt.ex {H H' : Hp} {b : Addr} {c : Nat} (h : BagAt H b c) (e : Ex H H') : BagAt H' b c := by
  obtain ⟨x0, x1, x2, hb, r⟩ := h
  exact ⟨x0, x1, x2, e _ _ hb, r⟩
theorem BagAt.mono {H : Hp} {b : Addr} {c d : Nat} (h : BagAt H b c) (e : c ≤ d) : BagAt H b d := by
  obtain ⟨x0, x1, x2, hb, h1, h2, h3, h4⟩ := h
  exact ⟨x0, x1, x2, hb, h1, h2, h3, by omega⟩
theorem BagAt.some {H : Hp} {b : Addr} {c : Nat} (h : BagAt H b c) : ∃ o, H b = Option.some o := by
  obtain ⟨x0, x1, x2, hb, _⟩ := h
  exact ⟨_, hb⟩
theorem BagAt.apart {H : Hp} {b z : Addr} {c : Nat} (h : BagAt H b c) (nz : H z = none) : z ≠ b := fun e => by
  obtain ⟨o, ho⟩ := h.some
  subst e
  rw [ho] at nz
  cases nz
theorem BagAt.ne {H : Hp} {b z : Addr} {c : Nat} (h : BagAt H b c) (nb : H z = none) : b ≠ z := fun e => h.apart nb e.symm
section
variable {P : Program} {w : World} {K : PySem.W.Frag} {mg : Str → Option Value} {base : Heap}
def spBag : Sp := fun vs H Q _ => ∃ n : Int, vs = [.int n] ∧ ∀ p H', H p = none → Ex H H' → BagAt H' p 0 → Q (.ref p) H'
theorem ok_law_bag (T : Txt K mg) : FnOk P w K mg base CX0 1 T.f_law_bag T.fd_law_bag ["_law_cell"] spBag := by
  refine T.F_law_bag.ok sc_law_bag (fun vs H Q E h => ?_) (fun cdv A outer s H vs Q E hr h => ?_)
  · obtain ⟨n, rfl, _⟩ := h
    rfl
  · obtain ⟨n, rfl, k⟩ := h
    apply Exists.intro
    apply And.intro
    · apply pss_one
      exact (ps_ret (pe_lst (pa_cons (pe_callB (call_max2 rfl) (by rfl) T.n_max (by decide +kernel) (pa_cons pe_int (pa_cons (pe_op op_sub (pv 0) (pe_op op_powX pe_int pe_int)) pa_nil))) (pa_cons (pe_op op_modX (pv 0) (pe_op op_add (pe_op op_powX pe_int pe_int) pe_int)) (pa_cons pe_int pa_nil)))))
    walk_at "sx"
    have t18 : Int.toNat 18 = 18 := rfl
    have t37 : Int.toNat 37 = 37 := rfl
    rw [t37]
    refine ⟨⟨by decide, by decide, by decide⟩, _, _, ⟨rfl, rfl⟩, ⟨by decide, by decide, by decide⟩, by decide, sz_ok (by omega), fun p np => ?_⟩
    refine k p _ np (Ex.new np) ⟨_, _, _, upd_same, Int.emod_nonneg _ (by decide), Int.emod_lt_of_pos _ (by decide), by omega, by omega⟩
def spDraw : Sp := fun vs H Q _ => ∃ (b : Addr) (m : Int) (c : Nat), vs = [.ref b, .int m] ∧ 0 < m ∧ m ≤ 100000 ∧ BagAt H b c ∧ c ≤ 1000000 ∧ ∀ r H', 0 ≤ r → r < m → Fx b H H' → BagAt H' b (c + 1) → Q (.int r) H'
theorem ok_law_draw (T : Txt K mg) : FnOk P w K mg base CX0 1 T.f_law_draw T.fd_law_draw ["_law_bag_here", "_law_most"] spDraw := by
  refine T.F_law_draw.ok sc_law_draw (fun vs H Q E h => ?_) (fun cdv A outer s H vs Q E hr h => ?_)
  · obtain ⟨b, m, c, rfl, _⟩ := h
    rfl
  · obtain ⟨b, m, c, rfl, h1, h2, hB, hc, k⟩ := h
    obtain ⟨x0, x1, x2, hb, h3, h4, h5, h6⟩ := hB
    apply Exists.intro
    apply And.intro
    · apply pss_cons
      · apply ps_if
        · exact (pt_cmpR op_gt (pe_ix (k_ix_list (K := K) rfl) (pv 0) pe_int (fun _ _ => rfl)) pe_int (by rfl))
        · apply pss_cons
          · exact (ps_set (i := 3) sc_law_draw.nd rfl (.inl rfl) (pe_op op_modX (pe_ix (k_ix_list (K := K) rfl) (pv 0) pe_int (fun _ _ => rfl)) (pv 1)))
          apply pss_cons
          · exact (ps_asg (pe_op op_fdivX (pe_ix (k_ix_list (K := K) rfl) (pv 0) pe_int (fun _ _ => rfl)) (pv 1)) (pg_sub (pv 0) pe_int set_list))
          apply pss_one
          exact (ps_ret (pv 3))
        · exact pss_nil
      apply pss_cons
      · exact (ps_asg (pe_op op_add (pe_ix (k_ix_list (K := K) rfl) (pv 0) pe_int (fun _ _ => rfl)) pe_int) (pg_sub (pv 0) pe_int set_list))
      apply pss_cons
      · exact (ps_set (i := 2) sc_law_draw.nd rfl (.inl rfl) (pe_op op_modX (pe_op op_powX (pe_op op_add (pe_ix (k_ix_list (K := K) rfl) (pv 0) pe_int (fun _ _ => rfl)) (pe_op op_mulX pe_int (pe_ix (k_ix_list (K := K) rfl) (pv 0) pe_int (fun _ _ => rfl)))) pe_int) (pe_op op_add (pe_op op_powX pe_int pe_int) pe_int)))
      apply pss_cons
      · exact (ps_set (i := 2) sc_law_draw.nd rfl (.inl rfl) (pe_op op_modX (pe_op op_powX (pe_op op_add (pv 2) (pe_op op_mulX pe_int (pe_ix (k_ix_list (K := K) rfl) (pv 0) pe_int (fun _ _ => rfl)))) pe_int) (pe_op op_add (pe_op op_powX pe_int pe_int) pe_int)))
      apply pss_one
      exact (ps_ret (pe_op op_modX (pe_op op_fdivX (pv 2) pe_int) (pv 1)))
    walk_at "sx"
    refine ixL (.inl (.inl hb)) (atI_n (j := 0) rfl rfl) ?_
    walk_at "sx"
    have hdm : ∀ i, CDivW i m := fun i => wide_div (b := 64) (by omega) (by omega) (by omega) (by omega)
    by_cases h0 : 0 < x0
    · simp only [h0, if_true]
      refine ixL (.inl (.inl hb)) (atI_n (j := 0) rfl rfl) ?_
      walk_at "sx"
      refine ⟨h1, ?_⟩
      refine ixL (.inl (.inl hb)) (atI_n (j := 0) rfl rfl) ?_
      walk_at "sx"
      refine ⟨hdm _, ?_⟩
      refine setL hb (ixN_n (j := 0) rfl (by simp)) ?_
      exact k _ _ (Int.emod_nonneg _ (by omega)) (Int.emod_lt_of_pos _ h1) Fx.put ⟨_, _, _, upd_same, h3, h4, h5, by omega⟩
    · simp only [h0, if_false]
      refine ixL (.inl (.inl hb)) (atI_n (j := 2) rfl rfl) ?_
      walk_at "sx"
      refine setL hb (ixN_n (j := 2) rfl (by simp)) ?_
      have hb2 : (upd H b (.lst [V.int x0, V.int x1, V.int (x2 + 1)])) b = some (.lst [V.int x0, V.int x1, V.int (x2 + 1)]) := upd_same
      refine ixL (.inl (.inl hb2)) (atI_n (j := 1) rfl rfl) ?_
      walk_at "sx"
      refine ixL (.inl (.inl hb2)) (atI_n (j := 2) rfl rfl) ?_
      walk_at "sx"
      have c1 : CMulX 236887691 (x2 + 1) := .inl (.inl ⟨by decide, by decide⟩)
      have c2 : CMulX 32452867 (x2 + 1) := .inl (.inl ⟨by decide, by decide⟩)
      have c3 : CPowX (x1 + 236887691 * (x2 + 1)) 3 := ⟨by decide, by decide, Nat.lt_of_lt_of_le (log2_small (k := 200) (by decide) (by omega)) (by decide)⟩
      have t38 : Int.toNat 38 = 38 := rfl
      have t36 : Int.toNat 36 = 36 := rfl
      rw [t38, t36]
      refine ⟨c1, c3, ⟨by decide, by decide, by decide⟩, by decide, ?_⟩
      refine ixL (.inl (.inl hb2)) (atI_n (j := 2) rfl rfl) ?_
      walk_at "sx"
      generalize hz : (x1 + 236887691 * (x2 + 1)) ^ Int.toNat 3 % (10 ^ 38 + 133) = z
      have hz0 : 0 ≤ z := by rw [← hz]; exact Int.emod_nonneg _ (by decide)
      have hz1 : z < 10 ^ 38 + 133 := by rw [← hz]; exact Int.emod_lt_of_pos _ (by decide)
      have c4 : CPowX (z + 32452867 * (x2 + 1)) 5 := ⟨by decide, by decide, Nat.lt_of_lt_of_le (log2_small (k := 200) (by decide) (by omega)) (by decide)⟩
      refine ⟨c2, c4, ⟨by decide, by decide, by decide⟩, by decide, ⟨by decide, by decide⟩, h1, ?_⟩
      exact k _ _ (Int.emod_nonneg _ (by omega)) (Int.emod_lt_of_pos _ h1) Fx.put ⟨_, _, _, hb2, h3, h4, by omega, by omega⟩
end
end LW

set_option Elab.async false
set_option linter.all false
set_option maxRecDepth 100000
set_option maxHeartbeats 4000000
namespace LW
open PySem PySem.Spec PyProof.Rows L2 BC Evl FM

local macro_rules | `(tactic| walk_at "sx") => `(tactic| try simp only [x_seq, x_next, x_brk, x_cnt, x_nev, x_ret, x_retN, x_drop, x_ifS, x_asg, x_gn, x_gsub, x_par, x_par3, x_aug, x_for, x_lc, x_rng1, x_rng2, x_rng3, x_ilist, x_itup, x_ienum, x_izip, x_izipA, x_istr, x_var, x_c, x_op, x_un, x_test, x_b, x_chain, x_and, x_or, x_not, x_andV, x_orV, x_notV, x_ife, x_nil, x_cons, x_lst, x_tup, x_cb, x_call, x_callK, x_bm, x_bm0, x_tru, x_sl, x_nopart, x_part, x_revL, x_I0, x_I, x_U, x_ip, x_ipC, x_eqI, x_neI, x_eqB, x_neB, x_eqS, x_neS,
  L2.start, List.map_cons, List.map_nil, List.length_cons, List.length_nil, Nat.reduceAdd, Nat.reduceSub, Nat.sub_self, Nat.zero_add, List.replicate, List.replicate_succ, List.replicate_zero, List.append_nil, List.cons_append, List.nil_append, List.set_cons_zero, List.set_cons_succ, List.getElem?_cons_zero, List.getElem?_cons_succ, Option.some.injEq, V.int.injEq, V.bl.injEq, V.ref.injEq, V.str.injEq, List.cons.injEq, and_true, true_and, exists_eq_left', exists_eq_left, exists_and_left, exists_eq, if_true, if_false, ite_true, ite_false, Bool.true_eq_false, Bool.false_eq_true, reduceIte, reduceCtorEq, Bool.not_true, Bool.not_false, decide_true, decide_false, decide_eq_true_eq, Bool.and_true, Bool.true_and, Bool.and_self, Bool.and_false, Bool.false_and, Bool.or_self, Bool.or_false, Bool.false_or, Bool.or_true, Bool.true_or, eq_self])

/-! ### means -/
def gg (m t : Nat) : Int := ((Nat.gcd (top m t).toNat (m ^ t) : Nat) : Int)
theorem gg_pos {m t : Nat} (h : 1 ≤ m) : 0 < gg m t := by
  have : 0 < Nat.gcd (top m t).toNat (m ^ t) := Nat.gcd_pos_of_pos_right _ (Nat.pow_pos (by omega))
  unfold gg
  omega
theorem mtop_mul (m t : Nat) : mtop m t * gg m t = top m t := by
  unfold mtop
  show top m t / gg m t * gg m t = top m t
  refine Int.ediv_mul_cancel ?_
  have h := Nat.gcd_dvd_left (top m t).toNat (m ^ t)
  have h2 := Int.ofNat_dvd.mpr h
  rw [Int.toNat_of_nonneg (top_nn m t)] at h2
  exact h2
theorem mbot_mul (m t : Nat) : mbot m t * gg m t = (m : Int) ^ t := by
  unfold mbot
  show (m : Int) ^ t / gg m t * gg m t = (m : Int) ^ t
  refine Int.ediv_mul_cancel ?_
  have h := Nat.gcd_dvd_right (top m t).toNat (m ^ t)
  have h2 := Int.ofNat_dvd.mpr h
  rw [Int.natCast_pow] at h2
  exact h2
theorem le_of_scaled {a b g : Int} (hg : 0 < g) (h : a * g ≤ b * g) : a ≤ b := Int.le_of_mul_le_mul_right h hg
theorem mean_next (m t : Nat) (h : 1 ≤ m) : mtop m t * mbot m (t + 1) ≤ mtop m (t + 1) * mbot m t := by
  have p1 := gg_pos (m := m) (t := t) h
  have p2 := gg_pos (m := m) (t := t + 1) h
  refine le_of_scaled (Int.mul_pos p1 p2) ?_
  have e1 : mtop m t * mbot m (t + 1) * (gg m t * gg m (t + 1)) = (mtop m t * gg m t) * (mbot m (t + 1) * gg m (t + 1)) := by grind
  have e2 : mtop m (t + 1) * mbot m t * (gg m t * gg m (t + 1)) = (mtop m (t + 1) * gg m (t + 1)) * (mbot m t * gg m t) := by grind
  rw [e1, e2, mtop_mul, mtop_mul, mbot_mul, mbot_mul]
  have q := Int.mul_le_mul_of_nonneg_right (top_mono m t) (pow_nn m t)
  rw [Int.pow_succ]
  have e3 : top m t * ((m : Int) ^ t * m) = m * top m t * (m : Int) ^ t := by grind
  rw [e3]
  exact q
theorem mean_ge (m t : Nat) (h : 1 ≤ m) (ht : 1 ≤ t) : mbot m t ≤ mtop m t := by
  refine le_of_scaled (gg_pos (m := m) (t := t) h) ?_
  rw [mtop_mul, mbot_mul]
  exact top_ge m t h ht
theorem mean_le (m t : Nat) (h : 1 ≤ m) : mtop m t ≤ m * mbot m t := by
  refine le_of_scaled (gg_pos (m := m) (t := t) h) ?_
  have e : (m : Int) * mbot m t * gg m t = m * (mbot m t * gg m t) := by grind
  rw [e, mtop_mul, mbot_mul]
  exact top_le m t
theorem quot_lt {a g : Int} {e : Nat} (h0 : 0 ≤ a) (hg : 0 < g) (h : a.natAbs < 2 ^ e) : (a / g).natAbs < 2 ^ e := by
  have h1 : 0 ≤ a / g := Int.ediv_nonneg h0 (by omega)
  have h2 : a / g ≤ a := Int.ediv_le_self _ h0
  omega
theorem mtop_lt {m t : Nat} (h : 1 ≤ m) (h2 : m ≤ 40) (ht : t ≤ 201) : (mtop m t).natAbs < 2 ^ 1300 := quot_lt (top_nn m t) (gg_pos h) (top_lt m t h2 ht)
theorem mbot_lt {m t : Nat} (h : 1 ≤ m) (h2 : m ≤ 40) (ht : t ≤ 201) : (mbot m t).natAbs < 2 ^ 1300 := quot_lt (pow_nn m t) (gg_pos h) (pow_lt (by omega) (by omega))
theorem mulW {i j : Int} (h1 : i.natAbs < 2 ^ 1300) (h2 : j.natAbs < 2 ^ 1300) : CMulX i j := .inr (wide_mul h1 h2 (by omega) (by omega) (by omega))
/-! ### the table, its mathematics -/
/-- the factors from l up to n -/
def wy (m l : Nat) : Nat → Int
  | 0 => 1
  | i + 1 => wy m l i * ((m : Int) - (l + i : Nat))
def ps (m t l : Nat) : Nat → Int
  | 0 => cf m t (l - 1)
  | i + 1 => ps m t l i + wy m l i * cf m t (l + i)
theorem ps_eq (m t l : Nat) (hl : 1 ≤ l) : ∀ i, ps m t l i + wy m l i * lg m t (l + i) = cf m (t + 1) l
  | 0 => by
    show cf m t (l - 1) + 1 * lg m t l = _
    rw [← cf_step m t l hl]
    omega
  | i + 1 => by
    have ih := ps_eq m t l hl i
    have e := lg_step m t (l + i)
    show ps m t l i + wy m l i * cf m t (l + i) + wy m l i * ((m : Int) - (l + i : Nat)) * lg m t (l + i + 1) = _
    rw [← ih, ← e]
    grind
theorem wy_zero (m l : Nat) (h : l ≤ m) : wy m l (m - l + 1) = 0 := by
  show wy m l (m - l) * ((m : Int) - (l + (m - l) : Nat)) = 0
  rw [show l + (m - l) = m by omega]
  simp
theorem ps_full (m t l n : Nat) (h1 : 1 ≤ l) (h2 : l ≤ m) (hn : n = min m t + 1 - l) : ps m t l n = cf m (t + 1) l := by
  have h := ps_eq m t l h1 n
  by_cases q : m ≤ t
  · have e : n = m - l + 1 := by rw [hn, Nat.min_eq_left q]; omega
    rw [e, wy_zero m l h2] at h
    rw [e]
    omega
  · by_cases q2 : l ≤ t + 1
    · have e : l + n = t + 1 := by rw [hn, Nat.min_eq_right (by omega)]; omega
      rw [e] at h
      have z : lg m t (t + 1) = 0 := by unfold lg; rw [if_pos (by omega)]
      rw [z] at h
      omega
    · have e : n = 0 := by rw [hn, Nat.min_eq_right (by omega)]; omega
      rw [e] at h ⊢
      have z : lg m t (l + 0) = 0 := by unfold lg; rw [if_pos (by omega)]
      rw [z] at h
      omega
theorem wy_le (m l : Nat) : ∀ i, l + i ≤ m + 1 → 0 ≤ wy m l i ∧ wy m l i ≤ (m : Int) ^ i
  | 0, _ => by
    show (0 : Int) ≤ 1 ∧ (1 : Int) ≤ _
    simp
  | i + 1, h => by
    have ih := wy_le m l i (by omega)
    have h2 : (0 : Int) ≤ (m : Int) - (l + i : Nat) := by omega
    refine ⟨Int.mul_nonneg ih.1 h2, ?_⟩
    rw [Int.pow_succ]
    exact Int.mul_le_mul ih.2 (by omega) h2 (pow_nn _ _)
theorem wy_lt (m l i : Nat) (hm : m ≤ 40) (h : l + i ≤ m + 1) : (wy m l i).natAbs < 2 ^ 300 :=
  lt_of_le (wy_le m l i h).1 (wy_le m l i h).2 (pow_lt (by omega) (by omega))
section
variable {P : Program} {w : World} {K : PySem.W.Frag} {mg : Str → Option Value} {base : Heap}
def spFalse : Sp := fun _ _ _ _ => False
def spEq (K : PySem.W.Frag) (n : Nat) : Sp := fun vs H Q _ => ∃ (x y : V) (d : PyData), vs = [x, y] ∧ Dp K H x d ∧ Dp K H y d ∧ Sh n d ∧ ∀ H', Ex H H' → Q (.bl true) H'
theorem eq_base (T : Txt K mg) : FnOk P w K mg base CX0 0 T.f_law_equal T.fd_law_equal ["_law_found", "_law_due"] spFalse :=
  ⟨fun _ _ _ _ h => h.elim, fun _ _ _ _ _ _ _ _ _ _ _ _ _ h => h.elim⟩
theorem eq_step (T : Txt K mg) {lv n : Nat} {sp0 : Sp} (hsp : n = 0 ∨ ∃ n', n = n' + 1 ∧ sp0 = spEq K n') (G : FnOk P w K mg base CX0 lv T.f_law_equal T.fd_law_equal ["_law_found", "_law_due"] sp0) :
    FnOk P w K mg base CX0 (lv + 1) T.f_law_equal T.fd_law_equal ["_law_found", "_law_due"] (spEq K n) := by
  refine T.F_law_equal.ok sc_law_equal (fun vs H Q E h => ?_) (fun cdv A outer s H vs Q E hr h => ?_)
  · obtain ⟨x, y, d, rfl, _⟩ := h
    rfl
  · obtain ⟨x, y, d, rfl, hx, hy, hs, k⟩ := h
    apply Exists.intro
    apply And.intro
    · apply pss_cons
      · apply ps_if
        · exact (pt_val (pe_callB (k_isiT (K := K) rfl) (by rfl) T.n_isinstance (by decide +kernel) (pa_cons (pv 1) (pa_cons (pe_tup (pa_cons (pe_bltn (v := .ty "list") (by rfl) T.n_list (by decide +kernel) rfl) (pa_cons (pe_bltn (v := .ty "tuple") (by rfl) T.n_tuple (by decide +kernel) rfl) pa_nil))) pa_nil))))
        · apply pss_cons
          · apply ps_if
            · exact (PW.pt (pw_or (pt_cmpR op_ne (pe_callB (k_isi (K := K) rfl) (by rfl) T.n_isinstance (by decide +kernel) (pa_cons (pv 0) (pa_cons (pe_bltn (v := .ty "list") (by rfl) T.n_list (by decide +kernel) rfl) pa_nil))) (pe_callB (k_isi (K := K) rfl) (by rfl) T.n_isinstance (by decide +kernel) (pa_cons (pv 1) (pa_cons (pe_bltn (v := .ty "list") (by rfl) T.n_list (by decide +kernel) rfl) pa_nil))) (by rfl)) (pw_or1 (pt_cmpR op_ne (pe_callB (k_isi (K := K) rfl) (by rfl) T.n_isinstance (by decide +kernel) (pa_cons (pv 0) (pa_cons (pe_bltn (v := .ty "tuple") (by rfl) T.n_tuple (by decide +kernel) rfl) pa_nil))) (pe_callB (k_isi (K := K) rfl) (by rfl) T.n_isinstance (by decide +kernel) (pa_cons (pv 1) (pa_cons (pe_bltn (v := .ty "tuple") (by rfl) T.n_tuple (by decide +kernel) rfl) pa_nil))) (by rfl)))))
            · apply pss_one
              exact (ps_ret pe_bl)
            · exact pss_nil
          apply pss_one
          exact (ps_ret (pe_and (pe_cmpR op_eq (pe_callB (k_len (K := K) rfl) (by rfl) T.n_len PySem.boot_len (pa_cons (pv 0) pa_nil)) (pe_callB (k_len (K := K) rfl) (by rfl) T.n_len PySem.boot_len (pa_cons (pv 1) pa_nil)) (by rfl)) (pe_one (pe_callB (k_all (K := K) rfl rfl) (by rfl) T.n_all (by decide +kernel) (pa_cons (pe_lc (own := [("_law_one", 2), ("_law_two", 3)]) rfl sc_law_equal.nd (k_pi_zipA (K := K) rfl (by rfl) T.n_zip (pa_cons (pv 0) (pa_cons (pv 1) pa_nil))) (blkOk_by (own := [("_law_one", 2), ("_law_two", 3)]) (N := ["_law_found", "_law_due", "_law_one", "_law_two"]) (sc := defScope s_law_equal) (by decide +kernel)) (fun _ _ _ _ _ => by exact (k_tup (K := K) (n := 2) rfl rfl (pgs_cons (pg_name (i := 2) sc_law_equal.nd rfl (.inl rfl)) (pgs_cons (pg_name (i := 3) sc_law_equal.nd rfl (.inl rfl)) pgs_nil)))) (fun _ _ _ _ _ => by exact pts_nil) (fun _ _ _ _ _ => by exact (pe_call G hr (by rfl) T.m_law_equal T.F_law_equal.kp T.b_law_equal .nil pass0 (pa_cons (pv 2) (pa_cons (pv 3) pa_nil))))) pa_nil)))))
        · exact pss_nil
      apply pss_cons
      · apply ps_if
        · exact (PW.pt (pw_or (pt_cmpR op_isN (pv 1) pe_non (by rfl)) (pw_or1 (pt_val (pe_callB (k_isiT (K := K) rfl) (by rfl) T.n_isinstance (by decide +kernel) (pa_cons (pv 1) (pa_cons (pe_tup (pa_cons (pe_bltn (v := .ty "bool") (by rfl) T.n_bool (by decide +kernel) rfl) (pa_cons (pe_bltn (v := .ty "str") (by rfl) T.n_str (by decide +kernel) rfl) pa_nil))) pa_nil)))))))
        · apply pss_one
          exact (ps_ret (pe_and (pe_cmpR op_eq (pv 0) (pv 1) (by rfl)) (pe_one (pe_cmpR op_eq (pe_callB (k_isi (K := K) rfl) (by rfl) T.n_isinstance (by decide +kernel) (pa_cons (pv 0) (pa_cons (pe_bltn (v := .ty "bool") (by rfl) T.n_bool (by decide +kernel) rfl) pa_nil))) (pe_callB (k_isi (K := K) rfl) (by rfl) T.n_isinstance (by decide +kernel) (pa_cons (pv 1) (pa_cons (pe_bltn (v := .ty "bool") (by rfl) T.n_bool (by decide +kernel) rfl) pa_nil))) (by rfl)))))
        · exact pss_nil
      apply pss_one
      exact (ps_ret (pe_and (pe_callB (k_isi (K := K) rfl) (by rfl) T.n_isinstance (by decide +kernel) (pa_cons (pv 0) (pa_cons (pe_bltn (v := .ty "int") (by rfl) T.n_int (by decide +kernel) rfl) pa_nil))) (pe_and (pe_not (pe_callB (k_isi (K := K) rfl) (by rfl) T.n_isinstance (by decide +kernel) (pa_cons (pv 0) (pa_cons (pe_bltn (v := .ty "bool") (by rfl) T.n_bool (by decide +kernel) rfl) pa_nil)))) (pe_one (pe_cmpR op_eq (pv 0) (pv 1) (by rfl))))))
    walk_at "sx"
    refine ⟨sz_ok (by omega), fun p np => ?_⟩
    have e1 := Ex.new np (o := .tup [V.ty "list", V.ty "tuple"])
    have ty := tyx_d (ex_d e1 _ _ hy)
    have tx := tyx_d (ex_d e1 _ _ hx)
    cases hs with
    | non n =>
      simp only [tyn] at ty tx
      cases hx; cases hy
      refine isiT2 (b := false) (c := false) ty upd_same (by decide +kernel) (by decide +kernel) ?_
      walk_at "sx"
      refine eq_same (by rfl) ?_
      walk_at "sx"
      refine isi_x (b := false) tx (by decide +kernel) ?_
      refine isi_x (b := false) ty (by decide +kernel) ?_
      walk_at "sx"
      exact k _ e1
    | bl n b =>
      simp only [tyn] at ty tx
      cases hx; cases hy
      refine isiT2 (b := false) (c := false) ty upd_same (by decide +kernel) (by decide +kernel) ?_
      walk_at "sx"
      refine ⟨sz_ok (by omega), fun p2 np2 => ?_⟩
      have e2 := Ex.new np2 (o := .tup [V.ty "bool", V.ty "str"])
      refine isiT2 (b := true) (c := false) (.base (.bl b)) upd_same (by decide +kernel) (by decide +kernel) ?_
      walk_at "sx"
      refine isi_x (b := true) (.base (.bl b)) (by decide +kernel) ?_
      refine isi_x (b := true) (.base (.bl b)) (by decide +kernel) ?_
      walk_at "sx"
      exact k _ (e1.trans e2)
    | int n i =>
      simp only [tyn] at ty tx
      cases hx; cases hy
      refine isiT2 (b := false) (c := false) ty upd_same (by decide +kernel) (by decide +kernel) ?_
      walk_at "sx"
      refine ⟨sz_ok (by omega), fun p2 np2 => ?_⟩
      have e2 := Ex.new np2 (o := .tup [V.ty "bool", V.ty "str"])
      refine isiT2 (b := false) (c := false) (.base (.int i)) upd_same (by decide +kernel) (by decide +kernel) ?_
      walk_at "sx"
      refine isi_x (b := true) (.base (.int i)) (by decide +kernel) ?_
      walk_at "sx"
      refine isi_x (b := false) (.base (.int i)) (by decide +kernel) ?_
      walk_at "sx"
      exact k _ (e1.trans e2)
    | str n s =>
      simp only [tyn] at ty tx
      cases hx; cases hy
      refine isiT2 (b := false) (c := false) ty upd_same (by decide +kernel) (by decide +kernel) ?_
      walk_at "sx"
      refine ⟨sz_ok (by omega), fun p2 np2 => ?_⟩
      have e2 := Ex.new np2 (o := .tup [V.ty "bool", V.ty "str"])
      refine isiT2 (b := false) (c := true) (.base (.str s)) upd_same (by decide +kernel) (by decide +kernel) ?_
      walk_at "sx"
      refine isi_x (b := false) (.base (.str s)) (by decide +kernel) ?_
      refine isi_x (b := false) (.base (.str s)) (by decide +kernel) ?_
      walk_at "sx"
      exact k _ (e1.trans e2)
    | @lst n' ds hl h =>
      simp only [tyn] at ty tx
      obtain ⟨n2, en, rfl⟩ : ∃ n2, n' + 1 = n2 + 1 ∧ sp0 = spEq K n2 := by
        rcases hsp with q | ⟨n2, q1, q2⟩
        · omega
        · exact ⟨n2, q1, q2⟩
      obtain rfl : n' = n2 := by omega
      cases ex_d e1 _ _ hx with
      | lst hx1 hx2 =>
      cases ex_d e1 _ _ hy with
      | lst hy1 hy2 =>
      refine isiT2 (b := true) (c := false) ty upd_same (by decide +kernel) (by decide +kernel) ?_
      walk_at "sx"
      refine isi_x (b := true) tx (by decide +kernel) ?_
      refine isi_x (b := true) ty (by decide +kernel) ?_
      walk_at "sx"
      refine isi_x (b := false) tx (by decide +kernel) ?_
      refine isi_x (b := false) ty (by decide +kernel) ?_
      walk_at "sx"
      refine lenL hx1 ?_
      refine lenL hy1 ?_
      have lx := dp_len hx2
      have ly := dp_len hy2
      rw [lx, ly]
      walk_at "sx"
      refine ⟨_, _, ⟨rfl, rfl⟩, _, _, .inl ⟨hx1, hy1, fun D nD => ?_⟩⟩
      refine lc_zip (fun _ => true) (fun _ => V.bl true) hx1 hy1 (by omega) nD (by omega) (fun u v => rfl) (fun i u v _ _ => tyes) (fun i u v hu hv _ => ?_) (fun H2 e2 hD => ?_)
      · obtain ⟨d1, f1, g1⟩ := dp_at hx2 hu
        obtain ⟨d2, f2, g2⟩ := dp_at hy2 hv
        rw [f1] at f2
        cases f2
        refine ev_call (vs := [u, v]) (ea_cons (ev_var rfl) (ea_cons (ev_var rfl) ea_nil)) (fun H3 e3 Q3 q3 E3 => ?_)
        exact ⟨u, v, d1, rfl, ex_d e3 _ _ g1, ex_d e3 _ _ g2, h _ (List.mem_of_getElem? f1), q3⟩
      · rw [kept_const] at hD
        have e5 : List.replicate ds.length (V.bl true) = (List.replicate ds.length true).map V.bl := by rw [List.map_replicate]
        rw [lx, e5] at hD
        refine allL (.inl (.inl hD)) ?_
        rw [all_true]
        exact k _ (e1.trans e2)
    | @tup n' ds hl h =>
      simp only [tyn] at ty tx
      obtain ⟨n2, en, rfl⟩ : ∃ n2, n' + 1 = n2 + 1 ∧ sp0 = spEq K n2 := by
        rcases hsp with q | ⟨n2, q1, q2⟩
        · omega
        · exact ⟨n2, q1, q2⟩
      obtain rfl : n' = n2 := by omega
      cases ex_d e1 _ _ hx with
      | tup hx1 hx2 =>
      cases ex_d e1 _ _ hy with
      | tup hy1 hy2 =>
      refine isiT2 (b := false) (c := true) ty upd_same (by decide +kernel) (by decide +kernel) ?_
      walk_at "sx"
      refine isi_x (b := false) tx (by decide +kernel) ?_
      refine isi_x (b := false) ty (by decide +kernel) ?_
      walk_at "sx"
      refine isi_x (b := true) tx (by decide +kernel) ?_
      refine isi_x (b := true) ty (by decide +kernel) ?_
      walk_at "sx"
      refine lenT hx1 ?_
      refine lenT hy1 ?_
      have lx := dp_len hx2
      have ly := dp_len hy2
      rw [lx, ly]
      walk_at "sx"
      refine ⟨_, _, ⟨rfl, rfl⟩, _, _, .inr ⟨hx1, hy1, fun D nD => ?_⟩⟩
      refine lc_zipT (fun _ => true) (fun _ => V.bl true) hx1 hy1 (by omega) nD (by omega) (fun u v => rfl) (fun i u v _ _ => tyes) (fun i u v hu hv _ => ?_) (fun H2 e2 hD => ?_)
      · obtain ⟨d1, f1, g1⟩ := dp_at hx2 hu
        obtain ⟨d2, f2, g2⟩ := dp_at hy2 hv
        rw [f1] at f2
        cases f2
        refine ev_call (vs := [u, v]) (ea_cons (ev_var rfl) (ea_cons (ev_var rfl) ea_nil)) (fun H3 e3 Q3 q3 E3 => ?_)
        exact ⟨u, v, d1, rfl, ex_d e3 _ _ g1, ex_d e3 _ _ g2, h _ (List.mem_of_getElem? f1), q3⟩
      · rw [kept_const] at hD
        have e5 : List.replicate ds.length (V.bl true) = (List.replicate ds.length true).map V.bl := by rw [List.map_replicate]
        rw [lx, e5] at hD
        refine allL (.inl (.inl hD)) ?_
        rw [all_true]
        exact k _ (e1.trans e2)
theorem ok_law_equal (T : Txt K mg) : FnOk P w K mg base CX0 3 T.f_law_equal T.fd_law_equal ["_law_found", "_law_due"] (spEq K 2) :=
  eq_step T (.inr ⟨1, rfl, rfl⟩) (eq_step T (.inr ⟨0, rfl, rfl⟩) (eq_step T (n := 0) (.inl rfl) (eq_base T)))
end
section
variable {P : Program} {w : World} {K : PySem.W.Frag} {mg : Str → Option Value} {base : Heap}
def spTable : Sp := fun vs H Q _ => ∃ (m t : Nat), vs = [.int m, .int t] ∧ 1 ≤ m ∧ m ≤ 40 ∧ t ≤ 200 ∧ ∀ p H', H p = none → Ex H H' → H' p = some (.lst ((cfs m t).map V.int)) → Q (.ref p) H'
def JT1 (H : Hp) (m t : Nat) (i : Nat) (σ' : L2.St) (H' : Hp) : Prop := ∃ p l3 l4 l5 l6 l7 l8, σ' = [some (.int m), some (.int t), some (.ref p), l3, l4, l5, l6, l7, l8] ∧ Ex H H' ∧ H p = none ∧ H' p = some (.lst ((cfs m i).map V.int))
def JT2 (H : Hp) (m t i : Nat) (p q : Addr) (j : Nat) (σ' : L2.St) (H' : Hp) : Prop := ∃ l5 l6 l7 l8, σ' = [some (.int m), some (.int t), some (.ref p), some (.int i), some (.ref q), l5, l6, l7, l8] ∧ Ex H H' ∧ H' q = some (.lst (((cfs m (i + 1)).map V.int).take (j + 1)))
def JT3 (H : Hp) (m t i l : Nat) (p q : Addr) (n : Nat) (σ' : L2.St) (H' : Hp) : Prop := ∃ l6, σ' = [some (.int m), some (.int t), some (.ref p), some (.int i), some (.ref q), some (.int l), l6, some (.int (ps m i l n)), some (.int (wy m l n))] ∧ Ex H H'
theorem ok_law_table (T : Txt K mg) : FnOk P w K mg base CX0 1 T.f_law_table T.fd_law_table ["_law_wide", "_law_long"] spTable := by
  refine T.F_law_table.ok sc_law_table (fun vs H Q E h => ?_) (fun cdv A outer s H vs Q E hr h => ?_)
  · obtain ⟨m, t, rfl, _⟩ := h
    rfl
  · obtain ⟨m, t, rfl, h1, h2, h3, k⟩ := h
    apply Exists.intro
    apply And.intro
    · apply pss_cons
      · exact (ps_set (i := 2) sc_law_table.nd rfl (.inl rfl) (pe_op op_cat (pe_lst (pa_cons pe_int pa_nil)) (pe_op op_rep (pe_lst (pa_cons pe_int pa_nil)) (pv 0))))
      apply pss_cons
      · apply ps_for PassesOwn.never rfl
        · exact (pi_range1 (by rfl) T.n_range (pa_cons (pv 1) pa_nil))
        · exact (pg_name (i := 3) sc_law_table.nd rfl (.inl rfl))
        · apply pss_cons
          · exact (ps_set (i := 4) sc_law_table.nd rfl (.inl rfl) (pe_lst (pa_cons pe_int pa_nil)))
          apply pss_cons
          · apply ps_for PassesOwn.never rfl
            · exact (pi_range2 (by rfl) T.n_range (pa_cons pe_int (pa_cons (pe_op op_add (pv 0) pe_int) pa_nil)))
            · exact (pg_name (i := 5) sc_law_table.nd rfl (.inl rfl))
            · apply pss_cons
              · exact (ps_par (i := 7) (j := 8) (by rfl) sc_law_table.nd rfl rfl (by decide) rfl rfl (pa_cons (pe_ix (k_ix_list (K := K) rfl) (pv 2) (pe_op op_sub (pv 5) pe_int) (fun _ _ => rfl)) (pa_cons pe_int pa_nil)) (by rfl))
              apply pss_cons
              · apply ps_for PassesOwn.never rfl
                · exact (pi_range2 (by rfl) T.n_range (pa_cons (pv 5) (pa_cons (pe_op op_add (pe_callB (call_min2 rfl) (by rfl) T.n_min (by decide +kernel) (pa_cons (pv 0) (pa_cons (pv 3) pa_nil))) pe_int) pa_nil)))
                · exact (pg_name (i := 6) sc_law_table.nd rfl (.inl rfl))
                · apply pss_cons
                  · exact (ps_set (i := 7) sc_law_table.nd rfl (.inl rfl) (pe_op op_add (pv 7) (pe_op op_mulX (pv 8) (pe_ix (k_ix_list (K := K) rfl) (pv 2) (pv 6) (fun _ _ => rfl)))))
                  apply pss_one
                  exact (ps_set (i := 8) sc_law_table.nd rfl (.inl rfl) (pe_op op_mulX (pv 8) (pe_op op_sub (pv 0) (pv 6))))
              apply pss_one
              exact (ps_expr (k_bm (K := K) rfl (pe_bm PySem.F.plainAttrs_list PySem.F.slot_list_append PySem.F.type_list_append mt_append (pv 4) (pa_cons (pv 7) pa_nil))))
          apply pss_one
          exact (ps_set (i := 2) sc_law_table.nd rfl (.inl rfl) (pv 4))
      apply pss_one
      exact (ps_ret (pv 2))
    walk_at "sx"
    refine ⟨sz_ok (by omega), fun z nz => ⟨sz_ok (by omega), fun y ny => ?_⟩⟩
    have s1 : Ex H (upd H z (.lst [V.int 1])) := Ex.new nz
    have s2 := s1.trans (Ex.new ny (o := .lst [V.int 0]))
    refine repL upd_same (by omega) (by omega) (sz_ok (by simp; omega)) fun x nx => ?_
    have s3 := s2.trans (Ex.new nx (o := .lst (List.replicate (m : Int).toNat [V.int 0]).flatten))
    have nzy : z ≠ y := ne_of_none upd_same ny
    have nzx : z ≠ x := ne_of_none (by rw [upd_ne nzy]; exact upd_same) nx
    refine catL (by rw [upd_ne nzx, upd_ne nzy, upd_same]) upd_same (sz_ok (by rw [rep_one]; simp; omega)) fun p np => ?_
    have s4 := s3.trans (Ex.new np (o := .lst ([V.int 1] ++ (List.replicate (m : Int).toNat [V.int 0]).flatten)))
    walk_at "sx"
    refine ⟨by omega, by omega, ?_⟩
    refine lg_rng (JT1 H m t) ⟨p, none, none, none, none, none, none, rfl, s4, fresh_back s3 np, ?_⟩ (fun i σ' H' hi hP => ?_) (fun σ' H' hP => ?_)
    · rw [upd_same, rep_one, cfs_zero]
      rfl
    · obtain ⟨p, l3, l4, l5, l6, l7, l8, rfl, eH, hp, hL⟩ := hP
      have hi' : i < t := by omega
      walk_at "sx"
      rw [show (0 : Int) + i = (i : Int) by omega]
      refine ⟨sz_ok (by omega), fun q nq => ?_⟩
      refine ⟨_, _, ⟨rfl, rfl⟩, ⟨by omega, by omega, by omega, by omega⟩, ?_⟩
      have e1 := Ex.new nq (o := .lst [V.int 0])
      have en : ((m : Int) + 1 - 1).toNat = m := by omega
      rw [en]
      refine lg_rng (JT2 H' m t i p q) ⟨l5, l6, l7, l8, rfl, e1, ?_⟩ (fun j σ2 H2 hj hP => ?_) (fun σ2 H2 hP => ?_)
      · rw [upd_same, take_succ (cfs_at (m := m) (t := i + 1) (j := 0) (by omega))]
        rfl
      · obtain ⟨m5, m6, m7, m8, rfl, e2, hq⟩ := hP
        have hp2 := e2 _ _ hL
        walk_at "sx"
        have el : (1 : Int) + j = ((j + 1 : Nat) : Int) := by omega
        rw [el]
        refine ixL (.inl (.inl hp2)) (atI_n (j := j) (by omega) (cfs_at (by omega))) ?_
        walk_at "sx"
        refine ⟨_, _, ⟨rfl, rfl⟩, ?_⟩
        refine ⟨_, _, ⟨rfl, rfl⟩, ?_⟩
        refine ⟨_, _, ⟨rfl, rfl⟩, ⟨by omega, by omega, by split <;> omega, by split <;> omega⟩, ?_⟩
        have emn : (((if (i : Int) < (m : Int) then (i : Int) else (m : Int)) + 1 - ((j + 1 : Nat) : Int)).toNat) = min m i + 1 - (j + 1) := by
          split <;> omega
        rw [emn]
        refine lg_rng (JT3 H2 m t i (j + 1) p q) ⟨m6, ?_, Ex.refl _⟩ (fun n σ3 H3 hn hP => ?_) (fun σ3 H3 hP => ?_)
        · rfl
        · obtain ⟨n6, rfl, e3⟩ := hP
          have hn' : j + 1 + n ≤ min m i := by omega
          have hp3 := e3 _ _ hp2
          have hw := wy_lt m (j + 1) n h2 (by omega)
          have hc := cf_lt m i (j + 1 + n) h1 h2 (by omega) (by omega)
          walk_at "sx"
          have ex : ((j + 1 : Nat) : Int) + n = ((j + 1 + n : Nat) : Int) := by omega
          rw [ex]
          refine ixL (.inl (.inl hp3)) (atI_n rfl (cfs_at (by omega))) ?_
          walk_at "sx"
          refine ⟨.inr (wide_mul hw hc (by omega) (by omega) (by omega)), .inl (.inr ⟨by omega, by omega⟩), ?_⟩
          exact ⟨some (.int ((j + 1 + n : Nat) : Int)), rfl, e3⟩
        · obtain ⟨n6, rfl, e3⟩ := hP
          have hq3 := e3 _ _ hq
          walk_at "sx"
          refine ⟨tyL hq3, ?_⟩
          refine appL hq3 (BC.sz_lt (by rw [List.length_take]; omega)) ?_
          walk_at "sx"
          rw [ps_full m i (j + 1) _ (by omega) (by omega) rfl]
          refine ⟨_, _, _, _, rfl, (e2.trans e3).mut nq, ?_⟩
          rw [upd_same, take_succ (cfs_at (m := m) (t := i + 1) (j := j + 1) (by omega))]
      · obtain ⟨m5, m6, m7, m8, rfl, e2, hq⟩ := hP
        walk_at "sx"
        rw [List.take_of_length_le (by rw [List.length_map, cfs_len]; omega)] at hq
        exact ⟨q, _, _, _, _, _, _, rfl, eH.trans e2, fresh_back eH nq, hq⟩
    · obtain ⟨p, l3, l4, l5, l6, l7, l8, rfl, eH, hp, hL⟩ := hP
      walk_at "sx"
      exact k p H' hp eH hL
theorem gcd_one {a b : Nat} (h : 0 < b) : Nat.gcd (a / Nat.gcd a b) (b / Nat.gcd a b) = 1 := by
  rw [Nat.gcd_div (Nat.gcd_dvd_left a b) (Nat.gcd_dvd_right a b), Nat.div_self (Nat.gcd_pos_of_pos_right a h)]
theorem mtop_nat (m t : Nat) : mtop m t = (((top m t).toNat / Nat.gcd (top m t).toNat (m ^ t) : Nat) : Int) := by
  unfold mtop
  rw [Int.natCast_ediv, Int.toNat_of_nonneg (top_nn m t)]
theorem mbot_nat (m t : Nat) : mbot m t = ((m ^ t / Nat.gcd (top m t).toNat (m ^ t) : Nat) : Int) := by
  unfold mbot
  rw [Int.natCast_ediv, Int.natCast_pow]
theorem cop (m t : Nat) (h : 1 ≤ m) : Nat.gcd ((top m t).toNat / Nat.gcd (top m t).toNat (m ^ t)) (m ^ t / Nat.gcd (top m t).toNat (m ^ t)) = 1 := gcd_one (Nat.pow_pos (by omega))
def JA1 (H1 : Hp) (b p q : Addr) (m t : Nat) (i : Nat) (σ' : L2.St) (H' : Hp) : Prop := ∃ l3, σ' = [some (.ref b), some (.int m), some (.int t), l3, none, some (.ref p), some (.ref q), some (.int (pf m i)), none, none, none, none] ∧ Ex H1 H' ∧ H' q = some (.lst (((fls m t).map V.int).take i))
def JA2 (H2 : Hp) (b p q : Addr) (m t : Nat) (i : Nat) (σ' : L2.St) (H' : Hp) : Prop := ∃ l3 l7, σ' = [some (.ref b), some (.int m), some (.int t), l3, none, some (.ref p), some (.ref q), l7, none, none, none, none] ∧ Ex H2 H'
def JA3 (H3 : Hp) (b p q : Addr) (m t : Nat) (n : Nat) (σ' : L2.St) (H' : Hp) : Prop := ∃ l3 l7, ∃ a : Nat, σ' = [some (.ref b), some (.int m), some (.int t), l3, none, some (.ref p), some (.ref q), l7, some (.int (mtop m t)), some (.int (mbot m t)), some (.int a), some (.int n)] ∧ Nat.gcd a n = 1 ∧ Ex H3 H'
def spHolds (K : PySem.W.Frag) : Sp := fun vs H Q _ => ∃ (b : Addr) (m t c : Nat), vs = [.ref b, .int m, .int t] ∧ 1 ≤ m ∧ m ≤ 40 ∧ t ≤ 200 ∧ BagAt H b c ∧ c ≤ 900000 ∧ ∀ H', Fx b H H' → BagAt H' b (c + 100) → Q (.bl true) H'
theorem ok_law_holds (T : Txt K mg) : FnOk P w K mg base CX0 5 T.f_law_holds T.fd_law_holds ["_law_bag_here", "_law_wide", "_law_long"] (spHolds K) := by
  refine T.F_law_holds.ok sc_law_holds (fun vs H Q E h => ?_) (fun cdv A outer s H vs Q E hr h => ?_)
  · obtain ⟨b, m, t, c, rfl, _⟩ := h
    rfl
  · obtain ⟨b, m, t, c, rfl, h1, h2, h3, hB, hc, k⟩ := h
    apply Exists.intro
    apply And.intro
    · apply pss_cons
      · exact (ps_asg (pe_tup (pa_cons (pe_call (ok_law_table T) (hr.mono (by decide)) (by rfl) T.m_law_table T.F_law_table.kp T.b_law_table .nil pass0 (pa_cons (pv 1) (pa_cons (pv 2) pa_nil))) (pa_cons (pe_lst pa_nil) (pa_cons pe_int pa_nil)))) (k_tup (K := K) (n := 3) rfl rfl (pgs_cons (pg_name (i := 5) sc_law_holds.nd rfl (.inl rfl)) (pgs_cons (pg_name (i := 6) sc_law_holds.nd rfl (.inr rfl)) (pgs_cons (pg_name (i := 7) sc_law_holds.nd rfl (.inl rfl)) pgs_nil)))))
      apply pss_cons
      · apply ps_for PassesOwn.never rfl
        · exact (pi_range1 (by rfl) T.n_range (pa_cons (pe_op op_add (pv 1) pe_int) pa_nil))
        · exact (pg_name (i := 3) sc_law_holds.nd rfl (.inl rfl))
        · apply pss_cons
          · exact (ps_expr (k_bm (K := K) rfl (pe_bm PySem.F.plainAttrs_list PySem.F.slot_list_append PySem.F.type_list_append mt_append (pv 6) (pa_cons (pe_op op_mulX (pv 7) (pe_ix (k_ix_list (K := K) rfl) (pv 5) (pv 3) (fun _ _ => rfl))) pa_nil))))
          apply pss_one
          exact (ps_set (i := 7) sc_law_holds.nd rfl (.inl rfl) (pe_op op_mulX (pv 7) (pe_op op_sub (pv 1) (pv 3))))
      apply pss_cons
      · apply ps_if
        · exact (pt_not (pt_val (pe_call (ok_law_equal T) (hr.mono (by decide)) (by rfl) T.m_law_equal T.F_law_equal.kp T.b_law_equal .nil pass0 (pa_cons (pe_call (ok_free_by_length T) (hr.mono (by decide)) (by rfl) T.m_free_by_length T.F_free_by_length.kp T.b_free_by_length .nil pass0 (pa_cons (pv 1) (pa_cons (pv 2) pa_nil))) (pa_cons (pv 6) pa_nil)))))
        · apply pss_one
          exact (ps_ret pe_bl)
        · exact pss_nil
      apply pss_cons
      · apply ps_for PassesOwn.never rfl
        · exact (k_pi_list (K := K) rfl (pe_lst (pa_cons pe_int (pa_cons pe_int (pa_cons (pv 1) (pa_cons (pe_call (ok_law_draw T) (hr.mono (by decide)) (by rfl) T.m_law_draw T.F_law_draw.kp T.b_law_draw .nil pass0 (pa_cons (pv 0) (pa_cons (pe_op op_add (pv 1) pe_int) pa_nil))) pa_nil))))))
        · exact (pg_name (i := 3) sc_law_holds.nd rfl (.inl rfl))
        · apply pss_one
          apply ps_if
          · exact (pt_not (pt_val (pe_call (ok_law_equal T) (hr.mono (by decide)) (by rfl) T.m_law_equal T.F_law_equal.kp T.b_law_equal .nil pass0 (pa_cons (pe_call (ok_count_free T) (hr.mono (by decide)) (by rfl) T.m_count_free T.F_count_free.kp T.b_count_free .nil pass0 (pa_cons (pv 1) (pa_cons (pv 2) (pa_cons (pv 3) pa_nil)))) (pa_cons (pe_ix (k_ix_list (K := K) rfl) (pv 5) (pv 3) (fun _ _ => rfl)) pa_nil)))))
          · apply pss_one
            exact (ps_ret pe_bl)
          · exact pss_nil
      apply pss_cons
      · exact (ps_asg (pe_call (ok_mean_length T) (hr.mono (by decide)) (by rfl) T.m_mean_length T.F_mean_length.kp T.b_mean_length .nil pass0 (pa_cons (pv 1) (pa_cons (pv 2) pa_nil))) (k_tup (K := K) (n := 2) rfl rfl (pgs_cons (pg_name (i := 8) sc_law_holds.nd rfl (.inl rfl)) (pgs_cons (pg_name (i := 9) sc_law_holds.nd rfl (.inl rfl)) pgs_nil))))
      apply pss_cons
      · exact (ps_par (i := 10) (j := 11) (by rfl) sc_law_holds.nd rfl rfl (by decide) rfl rfl (pa_cons (pv 8) (pa_cons (pv 9) pa_nil)) (by rfl))
      apply pss_cons
      · apply ps_while PassesOwn.never
        · exact (pt_cmpR op_gt (pv 11) pe_int (by rfl))
        · apply pss_one
          exact (ps_par (i := 10) (j := 11) (by rfl) sc_law_holds.nd rfl rfl (by decide) rfl rfl (pa_cons (pv 11) (pa_cons (pe_op op_modX (pv 10) (pv 11)) pa_nil)) (by rfl))
      apply pss_cons
      · exact (ps_set (i := 4) sc_law_holds.nd rfl (.inl rfl) (pe_callB (k_sum (K := K) rfl rfl) (by rfl) T.n_sum (by decide +kernel) (pa_cons (pe_lc (own := [("_law_size", 3)]) rfl sc_law_holds.nd (pi_range1 (by rfl) T.n_range (pa_cons (pe_op op_add (pv 1) pe_int) pa_nil)) (blkOk_by (own := [("_law_size", 3)]) (N := ["_law_bag_here", "_law_wide", "_law_long", "_law_size", "_law_whole", "_law_table_here", "_law_due", "_law_ways", "_law_top", "_law_bottom", "_law_one", "_law_other"]) (sc := defScope s_law_holds) (by decide +kernel)) (fun _ _ _ _ _ => by exact (pg_name (i := 3) sc_law_holds.nd rfl (.inl rfl))) (fun _ _ _ _ _ => by exact pts_nil) (fun _ _ _ _ _ => by exact (pe_op op_mulX (pv 3) (pe_ix (k_ix_list (K := K) rfl) (pv 6) (pv 3) (fun _ _ => rfl))))) pa_nil)))
      apply pss_one
      exact (ps_ret (pe_and (pe_cmpR op_eq (pv 10) pe_int (by rfl)) (pe_one (pe_cmpR op_eq (pe_op op_mulX (pv 8) (pe_callB (k_sum (K := K) rfl rfl) (by rfl) T.n_sum (by decide +kernel) (pa_cons (pv 6) pa_nil))) (pe_op op_mulX (pv 9) (pv 4)) (by rfl)))))
    walk_at "sx"
    refine ⟨m, t, rfl, h1, h2, h3, fun p H1 np e1 hp => ?_⟩
    refine ⟨sz_ok (by omega), fun q nq => ⟨sz_ok (by omega), fun z nz => ?_⟩⟩
    refine g_three upd_same ?_
    walk_at "sx"
    refine ⟨by omega, by omega, ?_⟩
    have en : ((m : Int) + 1).toNat = m + 1 := by omega
    rw [en]
    have e2 := Ex.new nq (o := .lst [])
    have e3 := e2.trans (Ex.new nz (o := .tup [V.ref p, V.ref q, V.int 1]))
    refine lg_rng (JA1 H1 b p q m t) ⟨none, rfl, e3, (Ex.new nz) _ _ upd_same⟩ (fun i σ' H' hi hP => ?_) (fun σ' H' hP => ?_)
    · obtain ⟨l3, rfl, eH, hq⟩ := hP
      have hp' := eH _ _ hp
      walk_at "sx"
      rw [show (0 : Int) + i = (i : Int) by omega]
      refine ⟨tyL hq, ?_⟩
      refine ixL (.inl (.inl hp')) (atI_n rfl (cfs_at (by omega))) ?_
      walk_at "sx"
      refine ⟨.inr (wide_mul (pf_lt m i h2 (by omega)) (cf_lt m t i h1 h2 (by omega) (by omega)) (by omega) (by omega) (by omega)), ?_⟩
      refine appL hq (BC.sz_lt (by rw [List.length_take]; omega)) ?_
      walk_at "sx"
      refine ⟨.inl (.inr ⟨by omega, by omega⟩), ?_⟩
      refine ⟨_, rfl, eH.mut nq, ?_⟩
      rw [upd_same, take_succ (fls_at (m := m) (t := t) (j := i) (by omega))]
      rfl
    · obtain ⟨l3, rfl, eH, hq⟩ := hP
      rw [List.take_of_length_le (by rw [List.length_map, fls_len]; omega)] at hq
      have hp' := eH _ _ hp
      walk_at "sx"
      refine ⟨m, t, rfl, h1, h2, h3, fun f H2 nf e4 hf => ?_⟩
      have hq2 := e4 _ _ hq
      refine ⟨.ref f, .ref q, .list ((fls m t).map PyData.int), rfl, .lst (.inl (.inl hf)) (dp_ints _), .lst (.inl (.inl hq2)) (dp_ints _), .lst (by rw [List.length_map, fls_len]; omega) (fun d hd => by
        obtain ⟨n, _, rfl⟩ := List.mem_map.mp hd
        exact .int 1 n), fun H3 e5 => ?_⟩
      walk_at "sx"
      have e6 := e4.trans e5
      have E1 := (e1.trans eH).trans e6
      refine ⟨b, (m : Int) + 1, c, rfl, by omega, by omega, hB.ex E1, by omega, fun r H4 r0 r1 f4 b4 => ?_⟩
      have qb : q ≠ b := fun z => by
        obtain ⟨o, ho⟩ := hB.some
        subst z
        rw [e1 _ _ ho] at nq
        cases nq
      have pb : p ≠ b := fun z => by
        obtain ⟨o, ho⟩ := hB.some
        subst z
        rw [ho] at np
        cases np
      have hp4 := f4 _ _ pb (e6 _ _ hp')
      have hq4 := f4 _ _ qb (e6 _ _ hq)
      refine ⟨sz_ok (by omega), fun L nL => ?_⟩
      refine ⟨⟨_, .inl (.inl upd_same)⟩, ?_⟩
      have e7 := Ex.new nL (o := .lst [V.int 0, V.int 1, V.int m, V.int r])
      refine lg_list (xs := [V.int 0, V.int 1, V.int m, V.int r]) (JA2 (upd H4 L (.lst [V.int 0, V.int 1, V.int m, V.int r])) b p q m t) ⟨_, _, rfl, Ex.refl _⟩ (fun i σ5 H5 hi hP => by obtain ⟨_, _, _, e⟩ := hP; exact .inl (.inl (e _ _ upd_same)))
        (fun i x σ5 H5 hx hP => ?_) (fun σ5 H5 hP => ?_)
      · obtain ⟨l3, l7, rfl, e8⟩ := hP
        obtain ⟨n, hn, rfl⟩ : ∃ n : Nat, n ≤ m ∧ x = .int n := by
          have hm := List.mem_of_getElem? hx
          simp only [List.mem_cons, List.mem_nil_iff, or_false] at hm
          rcases hm with rfl | rfl | rfl | rfl
          · exact ⟨0, by omega, rfl⟩
          · exact ⟨1, by omega, rfl⟩
          · exact ⟨m, by omega, rfl⟩
          · exact ⟨r.toNat, by omega, by rw [Int.toNat_of_nonneg r0]⟩
        walk_at "sx"
        refine ⟨m, t, n, rfl, h1, h2, h3, hn, fun H6 e9 => ?_⟩
        refine ixL (.inl (.inl (e9 _ _ (e8 _ _ (e7 _ _ hp4))))) (atI_n rfl (cfs_at hn)) ?_
        refine ⟨_, _, .int (cf m t n), rfl, .int _, .int _, .int _ _, fun H7 e10 => ?_⟩
        walk_at "sx"
        exact ⟨_, _, rfl, (e8.trans e9).trans e10⟩
      · obtain ⟨l3, l7, rfl, e8⟩ := hP
        walk_at "sx"
        refine ⟨m, t, rfl, h1, h2, h3, fun u H6 nu e9 hu => ?_⟩
        refine g_two hu ?_
        walk_at "sx"
        refine ⟨_, _, ⟨rfl, rfl⟩, ?_⟩
        have E9 := (e7.trans e8).trans e9
        refine ⟨JA3 H6 b p q m t, ⟨_, _, _, _, by rw [mtop_nat, mbot_nat], cop m t h1, Ex.refl _⟩, fun n σ7 H7 hP => ?_⟩
        obtain ⟨l3', l7', a, rfl, hg, e10⟩ := hP
        walk_at "sx"
        by_cases h0 : n = 0
        · subst h0
          rw [Nat.gcd_zero_right] at hg
          subst hg
          have z0 : ¬ ((0 : Int) < ((0 : Nat) : Int)) := by omega
          simp only [z0]
          walk_at "sx"
          refine ⟨by omega, by omega, fun D nD => ?_⟩
          rw [en]
          have hq7 := e10 _ _ (E9 _ _ hq4)
          refine lc_rng (lo := 0) (n := m + 1) (fun _ => true) (fun l => V.int ((l : Nat) * fl m t l)) nD (by omega) (fun u => rfl) (fun i hi => tyes) (fun i hi _ => ?_) (fun H8 e11 hD => ?_)
          · rw [show (0 : Int) + i = (i : Int) by omega]
            exact ev_op (ev_var rfl) (ev_op (ev_var rfl) (ev_var rfl) (rv_ixL (.inl (.inl hq7)) (atI_n rfl (fls_at (by omega))))) (rv_I (.inl (.inl ⟨by omega, by omega⟩)))
          · rw [kept_all] at hD
            have e12 : (List.range (m + 1)).map (fun l => V.int ((l : Nat) * fl m t l)) = ((List.range (m + 1)).map fun l => ((l : Nat) : Int) * fl m t l).map V.int := by rw [List.map_map]; rfl
            rw [e12] at hD
            refine sumL (.inl (.inl hD)) ?_
            rw [sum_range, top_eq]
            walk_at "sx"
            rw [if_pos (by rfl)]
            refine sumL (.inl (.inl (e11 _ _ hq7))) ?_
            rw [fls_sum, sum_all]
            walk_at "sx"
            have hm1 : CMulX (mtop m t) ((m : Int) ^ t) := mulW (mtop_lt h1 h2 (by omega)) (pow_lt (by omega) (by omega))
            have hm2 : CMulX (mbot m t) (top m t) := mulW (mbot_lt h1 h2 (by omega)) (top_lt m t h2 (by omega))
            refine ⟨hm1, hm2, ?_⟩
            have heq : mtop m t * (m : Int) ^ t = mbot m t * top m t := by
              rw [← mtop_mul m t, ← mbot_mul m t]
              grind
            rw [heq, decide_eq_true rfl]
            have FF := ((((Fx.of E1).trans f4).trans (Fx.of E9)).trans (Fx.of e10)).trans (Fx.of e11)
            exact k H8 FF ((((b4.ex E9).ex e10).ex e11).mono (by omega))
        · have z0 : (0 : Int) < (n : Int) := by omega
          simp only [z0]
          walk_at "sx"
          refine ⟨fun σ' H' => ∃ n', n' < n ∧ JA3 H6 b p q m t n' σ' H', fun σ' H' h => h, ?_⟩
          refine ⟨_, _, ⟨rfl, rfl⟩, a % n, Nat.mod_lt _ (by omega), l3', l7', n, ?_, ?_, e10⟩
          · rw [Int.natCast_emod]
          · rw [Nat.gcd_comm n, ← Nat.gcd_rec n a, Nat.gcd_comm]; exact hg
def spLaw (K : PySem.W.Frag) : Sp := fun vs H Q _ => ∃ (a : Addr) (ns : List Int), vs = [.ref a] ∧ SqL K H a (ns.map V.int) ∧ ns.length ≤ 63 ∧ ∀ H', Q (.bl true) H'
def JO (H1 : Hp) (a : Addr) (i : Nat) (σ' : L2.St) (H' : Hp) : Prop := ∃ l1 l2 l3 l4 l5 l6, σ' = [some (.ref a), l1, l2, l3, l4, l5, l6] ∧ Ex H1 H'
theorem ok_law (T : Txt K mg) : FnOk P w K mg base CX0 6 T.f_law T.fd_law ["_law_script"] (spLaw K) := by
  refine T.F_law.ok sc_law (fun vs H Q E h => ?_) (fun cdv A outer s H vs Q E hr h => ?_)
  · obtain ⟨a, ns, rfl, _⟩ := h
    rfl
  · obtain ⟨a, ns, rfl, hA, hn, k⟩ := h
    apply Exists.intro
    apply And.intro
    · apply pss_cons
      · apply ps_for PassesOwn.never rfl
        · exact (k_pi_enum (K := K) rfl (by rfl) T.n_enumerate (pa_cons (pe_op op_cat (pe_slice (k_sl_list (K := K) rfl) (pv 0) po_none (po_some pe_int)) (pe_lst (pa_cons pe_int pa_nil))) pa_nil))
        · exact (k_tup (K := K) (n := 2) rfl rfl (pgs_cons (pg_name (i := 1) sc_law.nd rfl (.inl rfl)) (pgs_cons (pg_name (i := 2) sc_law.nd rfl (.inl rfl)) pgs_nil)))
        · apply pss_cons
          · exact (ps_set (i := 3) sc_law.nd rfl (.inl rfl) (pe_call (ok_law_bag T) (hr.mono (by decide)) (by rfl) T.m_law_bag T.F_law_bag.kp T.b_law_bag .nil pass0 (pa_cons (pv 2) pa_nil)))
          apply pss_cons
          · exact (ps_set (i := 4) sc_law.nd rfl (.inl rfl) (pe_cmpR op_eq (pv 1) (pe_callB (k_len (K := K) rfl) (by rfl) T.n_len PySem.boot_len (pa_cons (pe_slice (k_sl_list (K := K) rfl) (pv 0) po_none (po_some pe_int)) pa_nil)) (by rfl)))
          apply pss_cons
          · exact (ps_set (i := 5) sc_law.nd rfl (.inl rfl) (pe_op op_add pe_int (pe_call (ok_law_draw T) (hr.mono (by decide)) (by rfl) T.m_law_draw T.F_law_draw.kp T.b_law_draw .nil pass0 (pa_cons (pv 3) (pa_cons (pe_ifExp (pt_val (pv 4)) pe_int pe_int) pa_nil)))))
          apply pss_cons
          · exact (ps_set (i := 6) sc_law.nd rfl (.inl rfl) (pe_call (ok_law_draw T) (hr.mono (by decide)) (by rfl) T.m_law_draw T.F_law_draw.kp T.b_law_draw .nil pass0 (pa_cons (pv 3) (pa_cons (pe_ifExp (pt_val (pv 4)) pe_int pe_int) pa_nil))))
          apply pss_cons
          · apply ps_if
            · exact (PW.pt (pw_and (pt_not (pt_val (pv 4))) (pw_and1 (pt_cmpR op_eq (pv 1) pe_int (by rfl)))))
            · apply pss_cons
              · exact (ps_set (i := 5) sc_law.nd rfl (.inl rfl) (pe_ix (k_ix_list (K := K) rfl) (pe_lst (pa_cons (pv 5) (pa_cons pe_int pa_nil))) (pe_call (ok_law_draw T) (hr.mono (by decide)) (by rfl) T.m_law_draw T.F_law_draw.kp T.b_law_draw .nil pass0 (pa_cons (pv 3) (pa_cons pe_int pa_nil))) (fun _ _ => rfl)))
              apply pss_one
              exact (ps_set (i := 6) sc_law.nd rfl (.inl rfl) (pe_ix (k_ix_list (K := K) rfl) (pe_lst (pa_cons (pe_op op_add pe_int (pe_call (ok_law_draw T) (hr.mono (by decide)) (by rfl) T.m_law_draw T.F_law_draw.kp T.b_law_draw .nil pass0 (pa_cons (pv 3) (pa_cons pe_int pa_nil)))) (pa_cons pe_int pa_nil))) (pe_call (ok_law_draw T) (hr.mono (by decide)) (by rfl) T.m_law_draw T.F_law_draw.kp T.b_law_draw .nil pass0 (pa_cons (pv 3) (pa_cons pe_int pa_nil))) (fun _ _ => rfl)))
            · exact pss_nil
          apply pss_one
          apply ps_if
          · exact (pt_not (pt_val (pe_call (ok_law_holds T) (hr.mono (by decide)) (by rfl) T.m_law_holds T.F_law_holds.kp T.b_law_holds .nil pass0 (pa_cons (pv 3) (pa_cons (pv 5) (pa_cons (pv 6) pa_nil))))))
          · apply pss_one
            exact (ps_ret pe_bl)
          · exact pss_nil
      apply pss_one
      exact (ps_ret (pe_and (pe_cmpR op_eq (pe_callB (k_sum (K := K) rfl rfl) (by rfl) T.n_sum (by decide +kernel) (pa_cons (pe_call (ok_free_by_length T) (hr.mono (by decide)) (by rfl) T.m_free_by_length T.F_free_by_length.kp T.b_free_by_length .nil pass0 (pa_cons pe_int (pa_cons pe_int pa_nil))) pa_nil)) (pe_op op_powX pe_int pe_int) (by rfl)) (pe_one (pe_cmpR op_gt (pe_call (ok_count_free T) (hr.mono (by decide)) (by rfl) T.m_count_free T.F_count_free.kp T.b_count_free .nil pass0 (pa_cons pe_int (pa_cons pe_int (pa_cons pe_int pa_nil)))) pe_int (by rfl)))))
    walk_at "sx"
    refine ⟨a, _, rfl, hA, fun c1 n1 => ⟨sz_ok (by omega), fun c2 n2 => ?_⟩⟩
    have x1 : Ex H (upd H c1 (.lst (cutV (ns.map V.int) none (some 3)))) := Ex.new n1
    have x2 := Ex.new n2 (o := .lst [V.int 0])
    have hl4 : (cutV (ns.map V.int) none (some 3)).length ≤ 63 := Nat.le_trans (cutV_len _ _ _) (by rw [List.length_map]; exact hn)
    refine catL (x2 _ _ upd_same) upd_same (sz_ok (by rw [List.length_cons, List.length_nil]; omega)) fun L nL => ?_
    walk_at "sx"
    refine ⟨_, .inl (.inl upd_same), ?_⟩
    have x3 := (x1.trans x2).trans (Ex.new nL (o := .lst (cutV (ns.map V.int) none (some 3) ++ [V.int 0])))
    generalize hH1 : (upd (upd (upd H c1 (.lst (cutV (ns.map V.int) none (some 3)))) c2 (.lst [V.int 0])) L (.lst (cutV (ns.map V.int) none (some 3) ++ [V.int 0]))) = H1 at x3 ⊢
    have hL : H1 L = some (.lst (cutV (ns.map V.int) none (some 3) ++ [V.int 0])) := by rw [← hH1]; exact upd_same
    have hA1 : SqL K H1 a (ns.map V.int) := ex_l x3 hA
    refine lg_enum (xs := cutV (ns.map V.int) none (some 3) ++ [V.int 0]) (JO H1 a) ⟨none, none, none, none, none, none, rfl, Ex.refl H1⟩ (fun i σ' H' hi hP => by obtain ⟨_, _, _, _, _, _, _, e⟩ := hP; exact .inl (.inl (e _ _ hL)))
      (fun i x σ' H' T hx hP nT => ?_) (fun σ' H' hP => ?_)
    · obtain ⟨l1, l2, l3, l4, l5, l6, rfl, e⟩ := hP
      obtain ⟨n, rfl⟩ : ∃ n, x = .int n := by
        have := List.mem_of_getElem? hx
        rcases List.mem_append.mp this with h | h
        · obtain ⟨n, _, e⟩ := List.mem_map.mp (cutV_mem h)
          exact ⟨n, e.symm⟩
        · exact ⟨0, List.mem_singleton.mp h⟩
      refine g_two upd_same ?_
      walk_at "sx"
      have e1 := e.trans (Ex.new nT (o := .tup [V.int i, V.int n]))
      refine ⟨n, rfl, fun b H2 nb e2 hb => ?_⟩
      walk_at "sx"
      have e3 := e1.trans e2
      refine ⟨a, _, rfl, ex_l e3 hA1, fun z nz => ?_⟩
      refine ⟨z, _, rfl, .inl (.inl (.inl upd_same)), ?_⟩
      have e4 := Ex.new nz (o := .lst (cutV (ns.map V.int) none (some 3)))
      have hb4 := hb.ex e4
      generalize (upd H2 z (.lst (cutV (ns.map V.int) none (some 3)))) = H4 at e4 hb4 ⊢
      generalize (((cutV (ns.map V.int) none (some 3)).length : Nat) : Int) = lv
      have nbH : H' b = none := fresh_back (Ex.new nT) nb
      have fin : ∀ (bb : Bool) (Hx : Hp) (u v : Int) (c : Nat), Fx b H4 Hx → BagAt Hx b c → c ≤ 1000 → 1 ≤ u → u ≤ 40 → 0 ≤ v → v ≤ 200 →
          spHolds K [V.ref b, V.int u, V.int v] Hx (fun x_2 H' => ∃ k, x_2 = V.bl k ∧ if (!k) = true then Q (V.bl false) H' else JO H1 a (i + 1) [some (.ref a), some (.int i), some (.int n), some (.ref b), some (.bl bb), some (.int u), some (.int v)] H') E0 := fun bb Hx u v c f5 b5 hc u1 u2 v1 v2 => by
        refine ⟨b, u.toNat, v.toNat, c, by rw [Int.toNat_of_nonneg v1, Int.toNat_of_nonneg (by omega)], by omega, by omega, by omega, b5, by omega, fun H6 f6 b6 => ?_⟩
        refine ⟨true, rfl, ?_⟩
        exact ⟨_, _, _, _, _, _, rfl, e.trans ((((((Fx.of (Ex.new nT)).trans (Fx.of e2)).trans (Fx.of e4)).trans f5).trans f6).ex nbH)⟩
      refine ⟨rfl, ?_⟩
      generalize decide (V.int (i : Int) = V.int lv) = bb
      cases bb with
      | false =>
        walk_at "sx"
        refine ⟨b, _, 0, rfl, by omega, by omega, hb4, by omega, fun r1 H5 r10 r11 f5 b5 => ?_⟩
        walk_at "sx"
        refine ⟨b, _, _, rfl, by omega, by omega, b5, by omega, fun r2 H6 r20 r21 f6 b6 => ?_⟩
        walk_at "sx"
        have f7 := f5.trans f6
        by_cases hi0 : (i : Int) = 0
        · simp only [hi0]
          walk_at "sx"
          refine ⟨sz_ok (by omega), fun z1 nz1 => ?_⟩
          have w1 := Ex.new nz1 (o := .lst [V.int (1 + r1), V.int 40])
          refine ⟨b, _, _, rfl, by omega, by omega, b6.ex w1, by omega, fun r3 H7 r30 r31 f8 b8 => ?_⟩
          have hz1 := f8 z1 _ (b6.apart nz1) upd_same
          obtain ⟨m, hm1, hm2, hat⟩ := two_at (x := 1 + r1) (y := 40) (r := r3) (n := 40) r30 r31 (by omega) (by omega) (by omega) (by omega)
          refine ixL (.inl (.inl hz1)) hat ?_
          walk_at "sx"
          refine ⟨b, _, _, rfl, by omega, by omega, b8, by omega, fun r4 H8 r40 r41 f9 b9 => ?_⟩
          walk_at "sx"
          refine ⟨sz_ok (by omega), fun z2 nz2 => ?_⟩
          have w2 := Ex.new nz2 (o := .lst [V.int (1 + r4), V.int 200])
          refine ⟨b, _, _, rfl, by omega, by omega, b9.ex w2, by omega, fun r5 H9 r50 r51 f10 b10 => ?_⟩
          have hz2 := f10 z2 _ (b9.apart nz2) upd_same
          obtain ⟨t, ht1, ht2, hat2⟩ := two_at (x := 1 + r4) (y := 200) (r := r5) (n := 200) r50 r51 (by omega) (by omega) (by omega) (by omega)
          refine ixL (.inl (.inl hz2)) hat2 ?_
          have fin' := fin false H9 m t _ (((((f7.trans (Fx.of w1)).trans f8).trans f9).trans (Fx.of w2)).trans f10) b10 (by omega) (by omega) (by omega) (by omega) (by omega)
          rw [hi0] at fin'
          exact fin'
        · simp only [hi0]
          walk_at "sx"
          exact fin false H6 (1 + r1) r2 _ f7 b6 (by omega) (by omega) (by omega) (by omega) (by omega)
      | true =>
        walk_at "sx"
        refine ⟨b, _, 0, rfl, by omega, by omega, hb4, by omega, fun r1 H5 r10 r11 f5 b5 => ?_⟩
        walk_at "sx"
        refine ⟨b, _, _, rfl, by omega, by omega, b5, by omega, fun r2 H6 r20 r21 f6 b6 => ?_⟩
        walk_at "sx"
        exact fin true H6 (1 + r1) r2 _ (f5.trans f6) b6 (by omega) (by omega) (by omega) (by omega) (by omega)
    · obtain ⟨l1, l2, l3, l4, l5, l6, rfl, e⟩ := hP
      walk_at "sx"
      refine ⟨2, 60, rfl, by omega, by omega, by omega, fun p H2 np e2 hp => ?_⟩
      refine sumL (.inl (.inl hp)) ?_
      rw [fls_sum, sum_all]
      have t60 : Int.toNat 60 = 60 := rfl
      rw [t60]
      walk_at "sx"
      refine ⟨⟨by decide, by decide, by decide⟩, ?_⟩
      rw [if_pos (by rfl)]
      refine ⟨40, 200, 40, rfl, by omega, by omega, by omega, by omega, fun H3 e3 => ?_⟩
      have e40 : (0 : Int) < cf 40 200 40 := by decide +kernel
      walk_at "sx"
      simp only [e40]
      walk_at "sx"
      exact k _
end
end LW

set_option Elab.async false
set_option linter.all false
set_option maxRecDepth 100000
set_option maxHeartbeats 4000000
namespace LW
open PySem PySem.Spec PyProof.Rows L2 BC Evl FM

theorem all_mk {l : PySem.W.OpenLaw} {w : World} {K : PySem.W.Frag} {h : Heap} {mg : Str → Option Value} {fa : Addr} (X : K.In h) (G : h.Ns mainGlobals mg) (hfa : mg "law" = some (.ref fa))
    {f0 : Addr} {od0 an0 : Option Addr} {sl0 : Array (Option Value)} {oc0 kV0 dc0 pm0 cd0 ct0 : Value}
    {f1 : Addr} {od1 an1 : Option Addr} {sl1 : Array (Option Value)} {oc1 kV1 dc1 pm1 cd1 ct1 : Value}
    {f2 : Addr} {od2 an2 : Option Addr} {sl2 : Array (Option Value)} {oc2 kV2 dc2 pm2 cd2 ct2 : Value}
    {f3 : Addr} {od3 an3 : Option Addr} {sl3 : Array (Option Value)} {oc3 kV3 dc3 pm3 cd3 ct3 : Value}
    {f4 : Addr} {od4 an4 : Option Addr} {sl4 : Array (Option Value)} {oc4 kV4 dc4 pm4 cd4 ct4 : Value}
    {f5 : Addr} {od5 an5 : Option Addr} {sl5 : Array (Option Value)} {oc5 kV5 dc5 pm5 cd5 ct5 : Value}
    {f6 : Addr} {od6 an6 : Option Addr} {sl6 : Array (Option Value)} {oc6 kV6 dc6 pm6 cd6 ct6 : Value}
    {f7 : Addr} {od7 an7 : Option Addr} {sl7 : Array (Option Value)} {oc7 kV7 dc7 pm7 cd7 ct7 : Value}
    {f8 : Addr} {od8 an8 : Option Addr} {sl8 : Array (Option Value)} {oc8 kV8 dc8 pm8 cd8 ct8 : Value}
    {f9 : Addr} {od9 an9 : Option Addr} {sl9 : Array (Option Value)} {oc9 kV9 dc9 pm9 cd9 ct9 : Value}
    {f10 : Addr} {od10 an10 : Option Addr} {sl10 : Array (Option Value)} {oc10 kV10 dc10 pm10 cd10 ct10 : Value}
    {f11 : Addr} {od11 an11 : Option Addr} {sl11 : Array (Option Value)} {oc11 kV11 dc11 pm11 cd11 ct11 : Value}
    {f12 : Addr} {od12 an12 : Option Addr} {sl12 : Array (Option Value)} {oc12 kV12 dc12 pm12 cd12 ct12 : Value}
    {f13 : Addr} {od13 an13 : Option Addr} {sl13 : Array (Option Value)} {oc13 kV13 dc13 pm13 cd13 ct13 : Value}
    {f14 : Addr} {od14 an14 : Option Addr} {sl14 : Array (Option Value)} {oc14 kV14 dc14 pm14 cd14 ct14 : Value}
    {f15 : Addr} {od15 an15 : Option Addr} {sl15 : Array (Option Value)} {oc15 kV15 dc15 pm15 cd15 ct15 : Value}
    {tt_MOST_PAGES : Tok}
    {tt_MOST_VISITS : Tok}
    (a0 : PySem.W.nsIn K mainGlobals "is_integer" = some (some (.ref f0))) (l0 : K.lookup f0 = some ⟨oc0, od0, .func (PySem.W.fnOf "is_integer" "is_integer" (defArgs s_is_integer) (defBody s_is_integer) (defScope s_is_integer) .none kV0 dc0 pm0 an0 cd0 ct0), sl0⟩) (c0 : PySem.W.codeIn K cd0 "is_integer" = true) (k0 : PySem.W.keepIn K (.ref f0) = true)
    (a1 : PySem.W.nsIn K mainGlobals "check_number" = some (some (.ref f1))) (l1 : K.lookup f1 = some ⟨oc1, od1, .func (PySem.W.fnOf "check_number" "check_number" (defArgs s_check_number) (defBody s_check_number) (defScope s_check_number) .none kV1 dc1 pm1 an1 cd1 ct1), sl1⟩) (c1 : PySem.W.codeIn K cd1 "check_number" = true) (k1 : PySem.W.keepIn K (.ref f1) = true)
    (a2 : PySem.W.nsIn K mainGlobals "check_free" = some (some (.ref f2))) (l2 : K.lookup f2 = some ⟨oc2, od2, .func (PySem.W.fnOf "check_free" "check_free" (defArgs s_check_free) (defBody s_check_free) (defScope s_check_free) .none kV2 dc2 pm2 an2 cd2 ct2), sl2⟩) (c2 : PySem.W.codeIn K cd2 "check_free" = true) (k2 : PySem.W.keepIn K (.ref f2) = true)
    (a3 : PySem.W.nsIn K mainGlobals "counts_after" = some (some (.ref f3))) (l3 : K.lookup f3 = some ⟨oc3, od3, .func (PySem.W.fnOf "counts_after" "counts_after" (defArgs s_counts_after) (defBody s_counts_after) (defScope s_counts_after) .none kV3 dc3 pm3 an3 cd3 ct3), sl3⟩) (c3 : PySem.W.codeIn K cd3 "counts_after" = true) (k3 : PySem.W.keepIn K (.ref f3) = true)
    (a4 : PySem.W.nsIn K mainGlobals "counts_of" = some (some (.ref f4))) (l4 : K.lookup f4 = some ⟨oc4, od4, .func (PySem.W.fnOf "counts_of" "counts_of" (defArgs s_counts_of) (defBody s_counts_of) (defScope s_counts_of) .none kV4 dc4 pm4 an4 cd4 ct4), sl4⟩) (c4 : PySem.W.codeIn K cd4 "counts_of" = true) (k4 : PySem.W.keepIn K (.ref f4) = true)
    (a5 : PySem.W.nsIn K mainGlobals "all_by_length" = some (some (.ref f5))) (l5 : K.lookup f5 = some ⟨oc5, od5, .func (PySem.W.fnOf "all_by_length" "all_by_length" (defArgs s_all_by_length) (defBody s_all_by_length) (defScope s_all_by_length) .none kV5 dc5 pm5 an5 cd5 ct5), sl5⟩) (c5 : PySem.W.codeIn K cd5 "all_by_length" = true) (k5 : PySem.W.keepIn K (.ref f5) = true)
    (a6 : PySem.W.nsIn K mainGlobals "common_divisor" = some (some (.ref f6))) (l6 : K.lookup f6 = some ⟨oc6, od6, .func (PySem.W.fnOf "common_divisor" "common_divisor" (defArgs s_common_divisor) (defBody s_common_divisor) (defScope s_common_divisor) .none kV6 dc6 pm6 an6 cd6 ct6), sl6⟩) (c6 : PySem.W.codeIn K cd6 "common_divisor" = true) (k6 : PySem.W.keepIn K (.ref f6) = true)
    (a7 : PySem.W.nsIn K mainGlobals "count_free" = some (some (.ref f7))) (l7 : K.lookup f7 = some ⟨oc7, od7, .func (PySem.W.fnOf "count_free" "count_free" (defArgs s_count_free) (defBody s_count_free) (defScope s_count_free) .none kV7 dc7 pm7 an7 cd7 ct7), sl7⟩) (c7 : PySem.W.codeIn K cd7 "count_free" = true) (k7 : PySem.W.keepIn K (.ref f7) = true)
    (a8 : PySem.W.nsIn K mainGlobals "free_by_length" = some (some (.ref f8))) (l8 : K.lookup f8 = some ⟨oc8, od8, .func (PySem.W.fnOf "free_by_length" "free_by_length" (defArgs s_free_by_length) (defBody s_free_by_length) (defScope s_free_by_length) .none kV8 dc8 pm8 an8 cd8 ct8), sl8⟩) (c8 : PySem.W.codeIn K cd8 "free_by_length" = true) (k8 : PySem.W.keepIn K (.ref f8) = true)
    (a9 : PySem.W.nsIn K mainGlobals "mean_length" = some (some (.ref f9))) (l9 : K.lookup f9 = some ⟨oc9, od9, .func (PySem.W.fnOf "mean_length" "mean_length" (defArgs s_mean_length) (defBody s_mean_length) (defScope s_mean_length) .none kV9 dc9 pm9 an9 cd9 ct9), sl9⟩) (c9 : PySem.W.codeIn K cd9 "mean_length" = true) (k9 : PySem.W.keepIn K (.ref f9) = true)
    (a10 : PySem.W.nsIn K mainGlobals "_law_bag" = some (some (.ref f10))) (l10 : K.lookup f10 = some ⟨oc10, od10, .func (PySem.W.fnOf "_law_bag" "_law_bag" (defArgs s_law_bag) (defBody s_law_bag) (defScope s_law_bag) .none kV10 dc10 pm10 an10 cd10 ct10), sl10⟩) (c10 : PySem.W.codeIn K cd10 "_law_bag" = true) (k10 : PySem.W.keepIn K (.ref f10) = true)
    (a11 : PySem.W.nsIn K mainGlobals "_law_draw" = some (some (.ref f11))) (l11 : K.lookup f11 = some ⟨oc11, od11, .func (PySem.W.fnOf "_law_draw" "_law_draw" (defArgs s_law_draw) (defBody s_law_draw) (defScope s_law_draw) .none kV11 dc11 pm11 an11 cd11 ct11), sl11⟩) (c11 : PySem.W.codeIn K cd11 "_law_draw" = true) (k11 : PySem.W.keepIn K (.ref f11) = true)
    (a12 : PySem.W.nsIn K mainGlobals "_law_equal" = some (some (.ref f12))) (l12 : K.lookup f12 = some ⟨oc12, od12, .func (PySem.W.fnOf "_law_equal" "_law_equal" (defArgs s_law_equal) (defBody s_law_equal) (defScope s_law_equal) .none kV12 dc12 pm12 an12 cd12 ct12), sl12⟩) (c12 : PySem.W.codeIn K cd12 "_law_equal" = true) (k12 : PySem.W.keepIn K (.ref f12) = true)
    (a13 : PySem.W.nsIn K mainGlobals "_law_table" = some (some (.ref f13))) (l13 : K.lookup f13 = some ⟨oc13, od13, .func (PySem.W.fnOf "_law_table" "_law_table" (defArgs s_law_table) (defBody s_law_table) (defScope s_law_table) .none kV13 dc13 pm13 an13 cd13 ct13), sl13⟩) (c13 : PySem.W.codeIn K cd13 "_law_table" = true) (k13 : PySem.W.keepIn K (.ref f13) = true)
    (a14 : PySem.W.nsIn K mainGlobals "_law_holds" = some (some (.ref f14))) (l14 : K.lookup f14 = some ⟨oc14, od14, .func (PySem.W.fnOf "_law_holds" "_law_holds" (defArgs s_law_holds) (defBody s_law_holds) (defScope s_law_holds) .none kV14 dc14 pm14 an14 cd14 ct14), sl14⟩) (c14 : PySem.W.codeIn K cd14 "_law_holds" = true) (k14 : PySem.W.keepIn K (.ref f14) = true)
    (a15 : PySem.W.nsIn K mainGlobals "law" = some (some (.ref f15))) (l15 : K.lookup f15 = some ⟨oc15, od15, .func (PySem.W.fnOf "law" "law" (defArgs s_law) (defBody s_law) (defScope s_law) .none kV15 dc15 pm15 an15 cd15 ct15), sl15⟩) (c15 : PySem.W.codeIn K cd15 "law" = true) (k15 : PySem.W.keepIn K (.ref f15) = true)
    (q_MOST_PAGES : PySem.W.nsIn K mainGlobals "MOST_PAGES" = some (some (.int 40 tt_MOST_PAGES)))
    (q_MOST_VISITS : PySem.W.nsIn K mainGlobals "MOST_VISITS" = some (some (.int 200 tt_MOST_VISITS)))
    (z_all : PySem.W.nsIn K mainGlobals "all" = some none)
    (z_bool : PySem.W.nsIn K mainGlobals "bool" = some none)
    (z_enumerate : PySem.W.nsIn K mainGlobals "enumerate" = some none)
    (z_int : PySem.W.nsIn K mainGlobals "int" = some none)
    (z_isinstance : PySem.W.nsIn K mainGlobals "isinstance" = some none)
    (z_len : PySem.W.nsIn K mainGlobals "len" = some none)
    (z_list : PySem.W.nsIn K mainGlobals "list" = some none)
    (z_max : PySem.W.nsIn K mainGlobals "max" = some none)
    (z_min : PySem.W.nsIn K mainGlobals "min" = some none)
    (z_range : PySem.W.nsIn K mainGlobals "range" = some none)
    (z_str : PySem.W.nsIn K mainGlobals "str" = some none)
    (z_sum : PySem.W.nsIn K mainGlobals "sum" = some none)
    (z_tuple : PySem.W.nsIn K mainGlobals "tuple" = some none)
    (z_zip : PySem.W.nsIn K mainGlobals "zip" = some none) :
    ∃ fd : FuncData, (∀ (s : Shared) (v : Value), BindsTo s fd ⟨[v], []⟩ [("_law_script", v)]) ∧ ∀ base : Heap, K.In base → base.Ns mainGlobals mg → FnOk l.prog w K mg base CX0 6 fa fd ["_law_script"] (spLaw K) := by
  have e := hfa.symm.trans (PySem.W.mg_of X G a15)
  cases e
  let T : Txt K mg := ⟨f0, _, fun_mk (st := s_is_integer) l0 c0 k0, PySem.W.mg_of X G a0, (fun_mk (st := s_is_integer) l0 c0 k0).binds fun _ _ _ _ _ _ us hl => match us, hl with | [_, _, _], _ => rfl,
    f1, _, fun_mk (st := s_check_number) l1 c1 k1, PySem.W.mg_of X G a1, (fun_mk (st := s_check_number) l1 c1 k1).binds fun _ _ _ _ _ _ us hl => match us, hl with | [_, _, _], _ => rfl,
    f2, _, fun_mk (st := s_check_free) l2 c2 k2, PySem.W.mg_of X G a2, (fun_mk (st := s_check_free) l2 c2 k2).binds fun _ _ _ _ _ _ us hl => match us, hl with | [_, _], _ => rfl,
    f3, _, fun_mk (st := s_counts_after) l3 c3 k3, PySem.W.mg_of X G a3, (fun_mk (st := s_counts_after) l3 c3 k3).binds fun _ _ _ _ _ _ us hl => match us, hl with | [_, _], _ => rfl,
    f4, _, fun_mk (st := s_counts_of) l4 c4 k4, PySem.W.mg_of X G a4, (fun_mk (st := s_counts_of) l4 c4 k4).binds fun _ _ _ _ _ _ us hl => match us, hl with | [_, _], _ => rfl,
    f5, _, fun_mk (st := s_all_by_length) l5 c5 k5, PySem.W.mg_of X G a5, (fun_mk (st := s_all_by_length) l5 c5 k5).binds fun _ _ _ _ _ _ us hl => match us, hl with | [_, _], _ => rfl,
    f6, _, fun_mk (st := s_common_divisor) l6 c6 k6, PySem.W.mg_of X G a6, (fun_mk (st := s_common_divisor) l6 c6 k6).binds fun _ _ _ _ _ _ us hl => match us, hl with | [_, _], _ => rfl,
    f7, _, fun_mk (st := s_count_free) l7 c7 k7, PySem.W.mg_of X G a7, (fun_mk (st := s_count_free) l7 c7 k7).binds fun _ _ _ _ _ _ us hl => match us, hl with | [_, _, _], _ => rfl,
    f8, _, fun_mk (st := s_free_by_length) l8 c8 k8, PySem.W.mg_of X G a8, (fun_mk (st := s_free_by_length) l8 c8 k8).binds fun _ _ _ _ _ _ us hl => match us, hl with | [_, _], _ => rfl,
    f9, _, fun_mk (st := s_mean_length) l9 c9 k9, PySem.W.mg_of X G a9, (fun_mk (st := s_mean_length) l9 c9 k9).binds fun _ _ _ _ _ _ us hl => match us, hl with | [_, _], _ => rfl,
    f10, _, fun_mk (st := s_law_bag) l10 c10 k10, PySem.W.mg_of X G a10, (fun_mk (st := s_law_bag) l10 c10 k10).binds fun _ _ _ _ _ _ us hl => match us, hl with | [_], _ => rfl,
    f11, _, fun_mk (st := s_law_draw) l11 c11 k11, PySem.W.mg_of X G a11, (fun_mk (st := s_law_draw) l11 c11 k11).binds fun _ _ _ _ _ _ us hl => match us, hl with | [_, _], _ => rfl,
    f12, _, fun_mk (st := s_law_equal) l12 c12 k12, PySem.W.mg_of X G a12, (fun_mk (st := s_law_equal) l12 c12 k12).binds fun _ _ _ _ _ _ us hl => match us, hl with | [_, _], _ => rfl,
    f13, _, fun_mk (st := s_law_table) l13 c13 k13, PySem.W.mg_of X G a13, (fun_mk (st := s_law_table) l13 c13 k13).binds fun _ _ _ _ _ _ us hl => match us, hl with | [_, _], _ => rfl,
    f14, _, fun_mk (st := s_law_holds) l14 c14 k14, PySem.W.mg_of X G a14, (fun_mk (st := s_law_holds) l14 c14 k14).binds fun _ _ _ _ _ _ us hl => match us, hl with | [_, _, _], _ => rfl,
    fa, _, fun_mk (st := s_law) l15 c15 k15, PySem.W.mg_of X G a15, (fun_mk (st := s_law) l15 c15 k15).binds fun _ _ _ _ _ _ us hl => match us, hl with | [_], _ => rfl,
    tt_MOST_PAGES, PySem.W.mg_of X G q_MOST_PAGES,
    tt_MOST_VISITS, PySem.W.mg_of X G q_MOST_VISITS,
    PySem.W.mg_none_of X G z_all,
    PySem.W.mg_none_of X G z_bool,
    PySem.W.mg_none_of X G z_enumerate,
    PySem.W.mg_none_of X G z_int,
    PySem.W.mg_none_of X G z_isinstance,
    PySem.W.mg_none_of X G z_len,
    PySem.W.mg_none_of X G z_list,
    PySem.W.mg_none_of X G z_max,
    PySem.W.mg_none_of X G z_min,
    PySem.W.mg_none_of X G z_range,
    PySem.W.mg_none_of X G z_str,
    PySem.W.mg_none_of X G z_sum,
    PySem.W.mg_none_of X G z_tuple,
    PySem.W.mg_none_of X G z_zip⟩
  exact ⟨T.fd_law, fun s v => .of_eq rfl, fun base _ _ => ok_law T⟩

end LW
open PySem PySem.W PyProof.Rows
set_option maxHeartbeats 0 in
theorem PySem.Challenge.cw_breadcrumbs_k59_free_visits_of_many_page_holds : PySem.Challenge.rw_breadcrumbs_k59_free_visits_of_many_page.Holds := by
  w_on; o_law; k_head; (case hw => w_witness2)
  k_fill
  refine L2.walk_of (l := PySem.Challenge.rw_breadcrumbs_k59_free_visits_of_many_page) (n := 63) (k := 6) (x := "_law_script") (CX := fun _ => L2.CX0) (sp := fun w => LW.spLaw _) rfl (by decide) rfl ⟨rfl, by decide, by decide⟩ (fun w h Y => PySem.W.kIn_of Y) ?F (fun _ _ a ns hl _ hS => ⟨a, ns, rfl, hS, hl, fun _ => rfl⟩) (fun _ _ _ _ _ h => h)
  case F =>
    intro w mg fa h KX G hmg
    refine' LW.all_mk KX G hmg ?a0 ?l0 ?c0 ?k0 ?a1 ?l1 ?c1 ?k1 ?a2 ?l2 ?c2 ?k2 ?a3 ?l3 ?c3 ?k3 ?a4 ?l4 ?c4 ?k4 ?a5 ?l5 ?c5 ?k5 ?a6 ?l6 ?c6 ?k6 ?a7 ?l7 ?c7 ?k7 ?a8 ?l8 ?c8 ?k8 ?a9 ?l9 ?c9 ?k9 ?a10 ?l10 ?c10 ?k10 ?a11 ?l11 ?c11 ?k11 ?a12 ?l12 ?c12 ?k12 ?a13 ?l13 ?c13 ?k13 ?a14 ?l14 ?c14 ?k14 ?a15 ?l15 ?c15 ?k15 ?q_MOST_PAGES ?q_MOST_VISITS ?z_all ?z_bool ?z_enumerate ?z_int ?z_isinstance ?z_len ?z_list ?z_max ?z_min ?z_range ?z_str ?z_sum ?z_tuple ?z_zip
    (case a0 => k_is); (case l0 => k_is); (case c0 => k_is); (case k0 => k_is); (case a1 => k_is); (case l1 => k_is); (case c1 => k_is); (case k1 => k_is); (case a2 => k_is); (case l2 => k_is); (case c2 => k_is); (case k2 => k_is); (case a3 => k_is); (case l3 => k_is); (case c3 => k_is); (case k3 => k_is); (case a4 => k_is); (case l4 => k_is); (case c4 => k_is); (case k4 => k_is); (case a5 => k_is); (case l5 => k_is); (case c5 => k_is); (case k5 => k_is); (case a6 => k_is); (case l6 => k_is); (case c6 => k_is); (case k6 => k_is); (case a7 => k_is); (case l7 => k_is); (case c7 => k_is); (case k7 => k_is); (case a8 => k_is); (case l8 => k_is); (case c8 => k_is); (case k8 => k_is); (case a9 => k_is); (case l9 => k_is); (case c9 => k_is); (case k9 => k_is); (case a10 => k_is); (case l10 => k_is); (case c10 => k_is); (case k10 => k_is); (case a11 => k_is); (case l11 => k_is); (case c11 => k_is); (case k11 => k_is); (case a12 => k_is); (case l12 => k_is); (case c12 => k_is); (case k12 => k_is); (case a13 => k_is); (case l13 => k_is); (case c13 => k_is); (case k13 => k_is); (case a14 => k_is); (case l14 => k_is); (case c14 => k_is); (case k14 => k_is); (case a15 => k_is); (case l15 => k_is); (case c15 => k_is); (case k15 => k_is); (case q_MOST_PAGES => k_is); (case q_MOST_VISITS => k_is); (case z_all => k_is); (case z_bool => k_is); (case z_enumerate => k_is); (case z_int => k_is); (case z_isinstance => k_is); (case z_len => k_is); (case z_list => k_is); (case z_max => k_is); (case z_min => k_is); (case z_range => k_is); (case z_str => k_is); (case z_sum => k_is); (case z_tuple => k_is); (case z_zip => k_is)

