import PyProof.Rows.All
import Wide.All
import OpenK.AllK
import Wide.FinOn
import HandS.ForMost
import HandS.IsInst
import HandS.Style
import HandS.Wide
import HandS.Evl
import HandS.Zip
import HandS.SortKw
import HandS.Conv
import HandS.TupLe
import HandS.RaiseMore
import HandS.Defaults
import HandS.TupSets
import KE.DataCmp
import HandS.SetFor
import HandS.Strs
import PySem.Challenge.RW_breadcrumbs_k64_few_lengths_listed
set_option Elab.async false
set_option linter.all false
set_option maxRecDepth 100000
set_option maxHeartbeats 4000000
namespace BC
open PySem PySem.Spec PyProof.Rows L2
section
variable {X : Cx}
/-- a power of a number of any size that matters here -/
def CPowX (i j : Int) : Prop := 0 ≤ j ∧ j ≤ 1000 ∧ i.natAbs.log2 < 100000
theorem op_powX : OpR X (binaryOp .Pow) (rI CPowX fun i j => .int (i ^ j.toNat)) := opI fun i j _ _ _ _ _ hc q => by
  obtain ⟨h0, h1, h2⟩ := hc
  refine pow_int h0 ?_ q
  have hb : Builtin.Int.intBits i ≤ 100000 := by
    unfold Builtin.Int.intBits
    split <;> omega
  have h3 : (Builtin.Int.intBits i : Int) * j ≤ 100000 * j := Int.mul_le_mul_of_nonneg_right (by omega) h0
  omega
/-- a product: one factor small, or both of bounded size -/
def CMulX (i j : Int) : Prop := CMul i j ∨ CMulW i j
theorem op_mulX : OpR X (binaryOp .Mult) (rI CMulX fun i j => .int (i * j)) := opI fun _ _ _ _ _ _ _ hc q => by
  rcases hc with hc | hc
  · exact mul_int q hc.ok
  · exact mul_int q hc.ok
theorem op_fdivX : OpR X (binaryOp .FloorDiv) (rI CDivW fun i j => .int (i / j)) := op_fdivW
theorem op_modX : OpR X (binaryOp .Mod) (rI (fun _ j => 0 < j) fun i j => .int (i % j)) := opI fun i j _ _ _ _ _ hc q => by
  refine mod_int' (show j ≠ 0 by omega) ?_
  rw [Int.fmod_eq_emod_of_nonneg i (by omega)]
  exact q
def ipC (C : Int → Int → Prop) (f : Int → Int → Int) : TIp := fun x y H Q => ∃ i j, x = .int i ∧ y = .int j ∧ C i j ∧ Q (.int (f i j)) H
theorem ip_mulX : PIp X .Mult (ipC CMulX fun i j => i * j) := by
  intro pins s σ H x y v u Q I r1 r2 h
  obtain ⟨i, j, rfl, rfl, hc, q⟩ := h
  obtain ⟨t, rfl⟩ := r1
  obtain ⟨t', rfl⟩ := r2
  have ok : IntMulOk i j := by
    rcases hc with hc | hc
    · exact hc.ok
    · exact hc.ok
  exact imul_int ⟨.int (i * j), H, I.tok _, ⟨_, rfl⟩, q⟩ ok
end
end BC

/-! ### readings opened one construct at a time: full applications alone, so that what stands in a loop is left closed -/
namespace BC
open PySem PySem.Spec PyProof.Rows L2
section
variable {K : PySem.W.Frag} {σ : L2.St} {H : Hp} {Q : VK} {QT : Bool → Hp → Prop} {QA : List V → Hp → Prop} {D : Ends} {ta tb tc : TE} {t u : TT} {a : TA} {r r' : R2} {i j : Nat} {v x y : V} {s1 s2 : TS} {g : TG} {QG : L2.St → Hp → Prop}
def LoopG (J : It) (g : TG) (tb : TS) : TS := fun D σ H => ∃ W : Nat → Nat → L2.St → Hp → Prop, (∃ m, W 0 m σ H) ∧ ∀ i m σ H, W i m σ H →
  (J.stop i H ∧ D.nx σ H) ∨ (J.go i H ∧ ∃ N : L2.St → Hp → Prop, (∀ σ' H', N σ' H' → ∃ m', m' < m ∧ W (i + 1) m' σ' H') ∧ ∀ x H', J.yld i H x H' → g x σ H' fun σ2 H2 => tb { D with nx := N, ct := N, bk := D.nx } σ2 H2)
def LcG (J : It) (g : TG) (tt : TT) (te : TE) (vs : List Nat) (σ : L2.St) (Dl : Addr) (H1 : Hp) (Q : VK) : Prop := ∃ W : Nat → Nat → Hp → Prop, (∃ m, W 0 m (upd H1 Dl (.lst []))) ∧ ∀ i m H, W i m H →
  (J.stop i H ∧ Q (.ref Dl) H) ∨ (J.go i H ∧ ∃ Nx : Hp → Prop, (∀ H', Nx H' → ∃ m', m' < m ∧ W (i + 1) m' H') ∧ ∀ x H', J.yld i H x H' → g x (wipe σ vs) H' fun σ2 H2 => wipe σ2 vs = wipe σ vs ∧ tt σ2 H2 fun b H3 =>
    if b = true then te σ2 H3 fun y H4 => ∃ acc, H4 Dl = some (.lst acc) ∧ acc.length < sizeLine ∧ Nx (upd H4 Dl (.lst (acc ++ [y]))) else Nx H3)
theorem x_seq : tSeq s1 s2 D σ H = s1 { D with nx := s2 D } σ H := rfl
theorem x_next : tNext D σ H = D.nx σ H := rfl
theorem x_brk : tBreak D σ H = D.bk σ H := rfl
theorem x_cnt : tCont D σ H = D.ct σ H := rfl
theorem x_nev : tNever D σ H = False := rfl
theorem x_ret : tRet ta D σ H = ta σ H D.rt := rfl
theorem x_retN : tRetN D σ H = D.rt .non H := rfl
theorem x_drop : tDrop ta D σ H = ta σ H (fun _ H1 => D.nx σ H1) := rfl
theorem x_ifS : tIfS t s1 s2 D σ H = t σ H (fun b H1 => if b = true then s1 D σ H1 else s2 D σ H1) := rfl
theorem x_asg : tAsg ta g D σ H = ta σ H (fun x H1 => g x σ H1 D.nx) := rfl
theorem x_gn : gName i v σ H QG = QG (σ.set i (some v)) H := rfl
theorem x_gsub {o ix : TE} {st : TSet} : gSub o ix st v σ H QG = o σ H (fun o H1 => ix σ H1 fun i H2 => st o i v H2 fun H3 => QG σ H3) := rfl
theorem x_par : tPar i j a D σ H = a σ H (fun vs H1 => ∃ v w, vs = [v, w] ∧ D.nx ((σ.set i (some v)).set j (some w)) H1) := rfl
theorem x_par3 {l : Nat} : tPar3 i j l a D σ H = a σ H (fun vs H1 => ∃ u v w, vs = [u, v, w] ∧ D.nx (((σ.set i (some u)).set j (some v)).set l (some w)) H1) := rfl
theorem x_aug {ti : TIp} : tAug i ta ti D σ H = ∃ x, σ[i]? = some (some x) ∧ ta σ H fun y H1 => ti x y H1 fun z H2 => D.nx (σ.set i (some z)) H2 := rfl
theorem x_for {wi : TI} : tFor wi g s1 D σ H = wi σ H (fun J H1 => LoopG J g s1 D σ H1) := rfl
theorem x_lc {wi : TI} {vs : List Nat} : tLc wi g t ta vs σ H Q = wi σ H (fun J H1 => ∀ Dl, H1 Dl = none → LcG J g t ta vs σ Dl H1 Q) := rfl
theorem x_rng1 {R : It → Hp → Prop} : iRng1 a σ H R = a σ H (fun vs H1 => ∃ j : Int, vs = [.int j] ∧ -(2 ^ 62) ≤ j ∧ j < 2 ^ 62 ∧ R (Itr 0 j.toNat) H1) := rfl
theorem x_rng2 {R : It → Hp → Prop} : iRng2 a σ H R = a σ H (fun vs H1 => ∃ i j : Int, vs = [.int i, .int j] ∧ (-(2 ^ 62) ≤ i ∧ i < 2 ^ 62 ∧ -(2 ^ 62) ≤ j ∧ j < 2 ^ 62) ∧ R (Itr i (j - i).toNat) H1) := rfl
theorem x_rng3 {R : It → Hp → Prop} : iRng3 a σ H R = a σ H (fun vs H1 => ∃ (i j c : Int) (n : Nat), vs = [.int i, .int j, .int c] ∧ RgC i j c n ∧ R (Itc i c n) H1) := rfl
theorem x_ilist {R : It → Hp → Prop} : iList K ta σ H R = ta σ H (fun x H1 => ∃ a, x = .ref a ∧ (∃ xs, SqL K H1 a xs) ∧ R (Itl K a) H1) := rfl
theorem x_itup {R : It → Hp → Prop} : iTup K ta σ H R = ta σ H (fun x H1 => ∃ a, x = .ref a ∧ (∃ xs, SqT K H1 a xs) ∧ R (Itt K a) H1) := rfl
theorem x_ienum {R : It → Hp → Prop} : iEnum K a σ H R = a σ H (fun vs H1 => ∃ a xs, vs = [.ref a] ∧ SqL K H1 a xs ∧ R (Ite K a) H1) := rfl
theorem x_izip {R : It → Hp → Prop} : iZip K a σ H R = a σ H (fun vs H1 => ∃ a b xs ys, vs = [.ref a, .ref b] ∧ SqL K H1 a xs ∧ SqL K H1 b ys ∧ R (Itz K a b) H1) := rfl
theorem x_istr {R : It → Hp → Prop} : iStr ta σ H R = ta σ H (fun v H1 => ∃ x, v = .str x ∧ R (Its x) H1) := rfl
theorem x_var : tVar i σ H Q = ∃ v, σ[i]? = some (some v) ∧ Q v H := rfl
theorem x_c : tC v σ H Q = Q v H := rfl
theorem x_op : tOp r ta tb σ H Q = ta σ H (fun x H1 => tb σ H1 fun y H2 => r x y H2 Q) := rfl
theorem x_un {ru : V → Hp → VK → Prop} : tUn ru ta σ H Q = ta σ H (fun x H1 => ru x H1 Q) := rfl
theorem x_test : tTest ta σ H QT = ta σ H (fun x H' => ∃ k, x = .bl k ∧ QT k H') := rfl
theorem x_b : tB ta σ H QT = ta σ H (fun x H' => ∃ k, x = .bl k ∧ QT k H') := rfl
theorem x_chain : tChain r r' ta tb tc σ H Q = ta σ H (fun x H1 => tb σ H1 fun y H2 => r x y H2 fun z H3 => ∃ k, z = .bl k ∧ (if k = true then tc σ H3 fun w' H4 => r' y w' H4 Q else Q (.bl false) H3)) := rfl
theorem x_and : tAnd t u σ H QT = t σ H (fun c H1 => if c = true then u σ H1 QT else QT false H1) := rfl
theorem x_or : tOr t u σ H QT = t σ H (fun c H1 => if c = true then QT true H1 else u σ H1 QT) := rfl
theorem x_not : tNot t σ H QT = t σ H (fun c H1 => QT (!c) H1) := rfl
theorem x_andV : tAndV ta tb σ H Q = ta σ H (fun x H1 => ∃ c, x = .bl c ∧ if c = true then tb σ H1 Q else Q (.bl false) H1) := rfl
theorem x_orV : tOrV ta tb σ H Q = ta σ H (fun x H1 => ∃ c, x = .bl c ∧ if c = true then Q (.bl true) H1 else tb σ H1 Q) := rfl
theorem x_notV : tNotV ta σ H Q = ta σ H (fun x H1 => ∃ c, x = .bl c ∧ Q (.bl (!c)) H1) := rfl
theorem x_ife : tIf t ta tb σ H Q = t σ H (fun c H1 => if c = true then ta σ H1 Q else tb σ H1 Q) := rfl
theorem x_nil : tNil σ H QA = QA [] H := rfl
theorem x_cons {rest : TA} : tCons ta rest σ H QA = ta σ H (fun x H1 => rest σ H1 fun xs H2 => QA (x :: xs) H2) := rfl
theorem x_lst : tLst a σ H Q = a σ H (fun xs H1 => xs.length ≤ sizeLine ∧ ∀ p, H1 p = none → Q (.ref p) (upd H1 p (.lst xs))) := rfl
theorem x_tup : tTup a σ H Q = a σ H (fun xs H1 => xs.length ≤ sizeLine ∧ ∀ p, H1 p = none → Q (.ref p) (upd H1 p (.tup xs))) := rfl
theorem x_cb {rc : List V → Hp → VK → Prop} : tCB rc a σ H Q = a σ H (fun vs H1 => rc vs H1 Q) := rfl
theorem x_call {sp : Sp} {dvs : List V} {E : XK} : tCall sp dvs E a σ H Q = a σ H (fun vs H1 => sp (vs ++ dvs) H1 Q E) := rfl
theorem x_callK {sp : Sp} {gV : List V → List V → List V} {E : XK} {b : TA} : tCallK sp gV E a b σ H Q = a σ H (fun vs H1 => b σ H1 fun zs H2 => sp (gV vs zs) H2 Q E) := rfl
theorem x_bm {T : String} {rm : V → List V → Hp → VK → Prop} : tBM K T rm ta a σ H Q = ta σ H (fun x H1 => tyV K T x H1 ∧ a σ H1 fun xs H2 => rm x xs H2 Q) := rfl
theorem x_bm0 {T : String} {rm : V → List V → Hp → VK → Prop} : tBM0 K T rm ta σ H Q = ta σ H (fun x H1 => tyV K T x H1 ∧ rm x [] H1 Q) := rfl
theorem x_sl {rs : V → Option Int → Option Int → Hp → VK → Prop} {tl th : TO} : tSl rs ta tl th σ H Q = ta σ H (fun x H1 => tl σ H1 fun l H2 => th σ H2 fun u H3 => rs x l u H3 Q) := rfl
theorem x_nopart {QO : Option Int → Hp → Prop} : tNoPart σ H QO = QO none H := rfl
theorem x_part {QO : Option Int → Hp → Prop} : tPart ta σ H QO = ta σ H (fun x H1 => ∃ i, x = .int i ∧ QO (some i) H1) := rfl
theorem x_revL : tRevL K ta σ H Q = ta σ H (fun x H1 => ∃ a xs, x = .ref a ∧ SqL K H1 a xs ∧ ∀ p, H1 p = none → Q (.ref p) (upd H1 p (.lst xs.reverse))) := rfl
theorem x_I0 {f : Int → Int → V} {m n : Int} : rI0 f (.int m) (.int n) H Q ↔ Q (f m n) H := ⟨fun ⟨i, j, e1, e2, q⟩ => by cases e1; cases e2; exact q, fun q => ⟨m, n, rfl, rfl, q⟩⟩
theorem x_I {C : Int → Int → Prop} {f : Int → Int → V} {m n : Int} : rI C f (.int m) (.int n) H Q ↔ C m n ∧ Q (f m n) H := ⟨fun ⟨i, j, e1, e2, q⟩ => by cases e1; cases e2; exact q, fun q => ⟨m, n, rfl, rfl, q⟩⟩
theorem x_U {f : Int → V} {m : Int} : rU f (.int m) H Q ↔ Q (f m) H := ⟨fun ⟨i, e1, q⟩ => by cases e1; exact q, fun q => ⟨m, rfl, q⟩⟩
theorem x_ip {f : Int → Int → Int} {m n : Int} : ipI f (.int m) (.int n) H Q ↔ Q (.int (f m n)) H := ⟨fun ⟨i, j, e1, e2, q⟩ => by cases e1; cases e2; exact q, fun q => ⟨m, n, rfl, rfl, q⟩⟩
theorem x_ipC {C : Int → Int → Prop} {f : Int → Int → Int} {m n : Int} : ipC C f (.int m) (.int n) H Q ↔ C m n ∧ Q (.int (f m n)) H := ⟨fun ⟨i, j, e1, e2, q⟩ => by cases e1; cases e2; exact q, fun q => ⟨m, n, rfl, rfl, q⟩⟩
theorem x_eqI {m n : Int} : rEq (.int m) (.int n) H Q ↔ Q (.bl (decide (m = n))) H := by
  unfold rEq
  rw [show scal (V.int m) (V.int n) = true from rfl]
  by_cases e : m = n
  · subst e; simp
  · simp [e]
theorem x_neI {m n : Int} : rNe (.int m) (.int n) H Q ↔ Q (.bl (!decide (m = n))) H := by
  unfold rNe
  rw [show scal (V.int m) (V.int n) = true from rfl]
  by_cases e : m = n
  · subst e; simp
  · simp [e]
end
/-! ### the rules that speak of the written part, by its own name -/
section
variable {X : Cx} {K : PySem.W.Frag}
theorem k_pi_list {tg l : Expr} {tl : TE} (hK : X.K = K) (hl : PE X l tl) : PI X tg l (iList K tl) := by subst hK; exact pi_list hl
theorem k_pi_tup {tg l : Expr} {tl : TE} (hK : X.K = K) (hl : PE X l tl) : PI X tg l (iTup K tl) := by subst hK; exact pi_tup hl
theorem k_pi_enum {e : Expr} {ta : TA} {p pos tpos : Pos} {elts : List Expr} {kk : Nat} (hK : X.K = K) (hg : Gl X "enumerate") (hm : X.mg "enumerate" = none) (ha : PA X [e] ta) (hs : starEach [e] X.env = [(false, eval e X.env)] := by rfl) : PI X (.Tuple elts kk tpos) (.Call (.Name "enumerate" p) [e] [] pos) (iEnum K ta) := by subst hK; exact pi_enum hg hm ha hs
theorem k_pi_zip {e e2 : Expr} {ta : TA} {p pos tpos : Pos} {elts : List Expr} {kk : Nat} (hK : X.K = K) (hg : Gl X "zip") (hm : X.mg "zip" = none) (ha : PA X [e, e2] ta)
    (hs : starEach [e, e2] X.env = (false, eval e X.env) :: starEach [e2] X.env := by rfl) (hpl : (backTo pos (starEach [e2] X.env)).any (·.1) = false := by rfl) : PI X (.Tuple elts kk tpos) (.Call (.Name "zip" p) [e, e2] [] pos) (iZip K ta) := by subst hK; exact pi_zip hg hm ha hs hpl
theorem k_ix_list (hK : X.K = K) : IxR X (rIxL K) := by subst hK; exact ix_list
theorem k_ix_tup (hK : X.K = K) : IxR X (rIxT K) := by subst hK; exact ix_tup
theorem k_sl_list (hK : X.K = K) : SlR X (rSlL K) := by subst hK; exact sl_list
theorem k_in (hK : X.K = K) : OpR X (compareOp .In) (rIn K false) := by subst hK; exact op_in_seq
theorem k_notIn (hK : X.K = K) : OpR X (compareOp .NotIn) (rIn K true) := by subst hK; exact op_notIn_seq
theorem k_eqD (hK : X.K = K) (hu : X.A.units + 64 < cLine) : OpR X (compareOp .Eq) (rEqD K) := by subst hK; exact op_eqD hu
theorem k_neD (hK : X.K = K) (hu : X.A.units + 64 < cLine) : OpR X (compareOp .NotEq) (rNeD K) := by subst hK; exact op_neD hu
def rLen (K : PySem.W.Frag) : List V → Hp → VK → Prop := fun xs H Q => ∃ p ys, xs = [.ref p] ∧ (SqL K H p ys ∨ SqT K H p ys) ∧ Q (.int ys.length) H
def rListOf (K : PySem.W.Frag) : List V → Hp → VK → Prop := fun xs H Q => ∃ p ys, xs = [.ref p] ∧ (SqL K H p ys ∨ SqT K H p ys) ∧ ∀ l, H l = none → Q (.ref l) (upd H l (.lst ys))
def rTupOf (K : PySem.W.Frag) : List V → Hp → VK → Prop := fun xs H Q => ∃ p ys, xs = [.ref p] ∧ ((SqL K H p ys ∧ ∀ l, H l = none → Q (.ref l) (upd H l (.tup ys))) ∨ (SqT K H p ys ∧ Q (.ref p) H))
theorem k_len (hK : X.K = K) : CallR X (.builtin "len") (rLen K) := by subst hK; exact call_len_seq
theorem k_listOf (hK : X.K = K) : CallR X (.type "list") (rListOf K) := by subst hK; exact call_list_of
theorem k_tupOf (hK : X.K = K) : CallR X (.type "tuple") (rTupOf K) := by subst hK; exact call_tuple_of
theorem k_isi (hK : X.K = K) : CallR X (.builtin "isinstance") (rIsi K) := by subst hK; exact call_isi
theorem k_sum (hK : X.K = K) (hc : X.calm = true) : CallR X (.builtin "sum") (rSum K) := by subst hK; exact cr_sum hc
theorem k_all (hK : X.K = K) (hc : X.calm = true) : CallR X (.builtin "all") (rAll K) := by subst hK; exact cr_all hc
theorem k_any (hK : X.K = K) (hc : X.calm = true) : CallR X (.builtin "any") (rAny K) := by subst hK; exact cr_any hc
theorem k_sorted (hK : X.K = K) : CallR X (.builtin "sorted") (rSorted K) := by subst hK; exact cr_sorted
def tTruK (K : PySem.W.Frag) (ta : TE) : TT := fun σ H Q => ta σ H fun x H' => ∃ k, TruV K x H' k ∧ Q k H'
theorem k_truth {a : Expr} {ta : TE} (hK : X.K = K) (ha : PE X a ta) (he : ∀ whole, isTrue a X.env whole = (do let v ← whole; standAt a.pos; holding [v] (truthy v))) : PT X a (tTruK K ta) := by subst hK; exact pt_truth ha he
theorem k_tup {es : List Expr} {k n : Nat} {pos : Pos} {t : TGs} (hK : X.K = K) (hc : X.calm = true) (h : PGs X es t)
    (hn : (assignEach es X.env).length = n := by rfl) (hst : (assignEach es X.env).findIdx? (·.1) = none := by rfl) : PG X (.Tuple es k pos) (gTup K n t) := by subst hK; exact pg_tup hc h hn hst
theorem k_bm0 {T : String} {to : TE} {r : V → List V → Hp → VK → Prop} {e : Expr} (hK : X.K = K) (h : PE X e (tBM0 X.K T r to)) : PE X e (tBM0 K T r to) := by subst hK; exact h
theorem k_bm {T : String} {to : TE} {ta : TA} {r : V → List V → Hp → VK → Prop} {e : Expr} (hK : X.K = K) (h : PE X e (tBM X.K T r to ta)) : PE X e (tBM K T r to ta) := by subst hK; exact h
theorem k_rev {e : Expr} {te : TE} {k : Nat} {p1 p2 p3 pos : Pos} (hK : X.K = K) (he : PE X e te) : PE X (.Subscript e (.Slice none none (some (.UnaryOp .USub (.Constant (.int 1) k p1) p2)) p3) pos) (tRevL K te) := by subst hK; exact pe_revL he
theorem k_index (hK : X.K = K) : MtR X "list.index" (rIndex K) := by subst hK; exact mt_index
end
section
variable {K : PySem.W.Frag} {σ : L2.St} {H : Hp} {ta : TE} {QT : Bool → Hp → Prop}
theorem x_tru : tTruK K ta σ H QT = ta σ H (fun x H' => ∃ k, TruV K x H' k ∧ QT k H') := rfl
end
/-! ### loops -/
section
variable {K : PySem.W.Frag} {σ : L2.St} {H : Hp} {D : Ends} {g : TG} {tb : TS}
theorem lg_rng {lo : Int} {n : Nat} (Pv : Nat → L2.St → Hp → Prop) (h0 : Pv 0 σ H)
    (hs : ∀ i σ H, i < n → Pv i σ H → g (.int (lo + i)) σ H fun σ2 H2 => tb { D with nx := Pv (i + 1), ct := Pv (i + 1), bk := D.nx } σ2 H2) (hd : ∀ σ H, Pv n σ H → D.nx σ H) : LoopG (Itr lo n) g tb D σ H := for_range Pv h0 hs hd
theorem lg_rngC {lo c : Int} {n : Nat} (Pv : Nat → L2.St → Hp → Prop) (h0 : Pv 0 σ H)
    (hs : ∀ i σ H, i < n → Pv i σ H → g (.int (lo + (i : Nat) * c)) σ H fun σ2 H2 => tb { D with nx := Pv (i + 1), ct := Pv (i + 1), bk := D.nx } σ2 H2) (hd : ∀ σ H, Pv n σ H → D.nx σ H) : LoopG (Itc lo c n) g tb D σ H := for_rangeC Pv h0 hs hd
theorem lg_list {a : Addr} {xs : List V} (Pv : Nat → L2.St → Hp → Prop) (h0 : Pv 0 σ H) (hl : ∀ i σ H, i ≤ xs.length → Pv i σ H → SqL K H a xs)
    (hs : ∀ i x σ H, xs[i]? = some x → Pv i σ H → g x σ H fun σ2 H2 => tb { D with nx := Pv (i + 1), ct := Pv (i + 1), bk := D.nx } σ2 H2) (hd : ∀ σ H, Pv xs.length σ H → D.nx σ H) : LoopG (Itl K a) g tb D σ H := for_list Pv h0 hl hs hd
/-- enumerate over a list that stands still: each pair is a new tuple -/
theorem lg_enum {a : Addr} {xs : List V} (Pv : Nat → L2.St → Hp → Prop) (h0 : Pv 0 σ H) (hl : ∀ i σ H, i ≤ xs.length → Pv i σ H → SqL K H a xs)
    (hs : ∀ i x σ H T, xs[i]? = some x → Pv i σ H → H T = none → g (.ref T) σ (upd H T (.tup [.int (i : Nat), x])) fun σ2 H2 => tb { D with nx := Pv (i + 1), ct := Pv (i + 1), bk := D.nx } σ2 H2) (hd : ∀ σ H, Pv xs.length σ H → D.nx σ H) : LoopG (Ite K a) g tb D σ H := by
  refine ⟨fun i m σ H => m = xs.length - i ∧ i ≤ xs.length ∧ Pv i σ H, ⟨xs.length, by simp, Nat.zero_le _, h0⟩, ?_⟩
  rintro i m σ H ⟨rfl, hi, p⟩
  have q := hl i σ H hi p
  by_cases hlt : i < xs.length
  · refine .inr ⟨⟨xs, xs[i], q, by simp [hlt]⟩, Pv (i + 1), fun σ' H' p' => ⟨xs.length - (i + 1), by omega, rfl, hlt, p'⟩, fun x H' y => ?_⟩
    obtain ⟨T, x', rfl, hT, rfl, f⟩ := y
    exact hs i x' σ H T (f xs q) p hT
  · have e : i = xs.length := by omega
    subst e
    exact .inl ⟨⟨xs, q, Nat.le_refl _⟩, hd σ H p⟩
/-- a pair unpacked -/
theorem g_two {i j : Nat} {T : Addr} {x y : V} {QG : L2.St → Hp → Prop} (h : H T = some (.tup [x, y])) (q : QG ((σ.set i (some x)).set j (some y)) H) : gTup K 2 (gCons (gName i) (gCons (gName j) gNil)) (.ref T) σ H QG :=
  ⟨T, [x, y], rfl, .inl (.inl h), rfl, x, [y], rfl, y, [], rfl, rfl, q⟩
end
/-! ### comprehensions over lists whose elements are given by a function of the turn -/
section
variable {K : PySem.W.Frag} {σ : L2.St} {H1 : Hp} {g : TG} {tt : TT} {te : TE} {vs : List Nat} {Dl : Addr} {Q : VK}
theorem lc_g (n : Nat) {J : It} (Pv : Nat → Hp → Prop) (h0 : Pv 0 (upd H1 Dl (.lst []))) (hst : ∀ H, Pv n H → J.stop n H) (hgo : ∀ i H, i < n → Pv i H → J.go i H)
    (hs : ∀ i H x H', i < n → Pv i H → J.yld i H x H' → g x (wipe σ vs) H' fun σ2 H2 => wipe σ2 vs = wipe σ vs ∧ tt σ2 H2 fun b H3 =>
      if b = true then te σ2 H3 fun y H4 => ∃ acc, H4 Dl = some (.lst acc) ∧ acc.length < sizeLine ∧ Pv (i + 1) (upd H4 Dl (.lst (acc ++ [y]))) else Pv (i + 1) H3) (hd : ∀ H, Pv n H → Q (.ref Dl) H) : LcG J g tt te vs σ Dl H1 Q := by
  refine ⟨fun i m H => m = n - i ∧ i ≤ n ∧ Pv i H, ⟨n, by simp, Nat.zero_le _, h0⟩, ?_⟩
  rintro i m H ⟨rfl, hi, p⟩
  by_cases hlt : i < n
  · exact .inr ⟨hgo i H hlt p, Pv (i + 1), fun H' p' => ⟨n - (i + 1), by omega, rfl, hlt, p'⟩, fun x H' y => hs i H x H' hlt p y⟩
  · have e : i = n := by omega
    subst e
    exact .inl ⟨hst H p, hd H p⟩
end
/-! ### comprehensions that change nothing -/
section
variable {K : PySem.W.Frag} {σ : L2.St} {H1 : Hp} {g : TG} {tt : TT} {te : TE} {vs : List Nat} {Dl : Addr} {Q : VK}
def kept (n : Nat) (keep : Nat → Bool) (f : Nat → V) : List V := ((List.range n).filter keep).map f
theorem kept_yes {n : Nat} {k : Nat → Bool} {f : Nat → V} (h : k n = true) : kept (n + 1) k f = kept n k f ++ [f n] := by
  unfold kept
  rw [List.range_succ, List.filter_append, List.map_append]
  simp [h]
theorem kept_no {n : Nat} {k : Nat → Bool} {f : Nat → V} (h : k n = false) : kept (n + 1) k f = kept n k f := by
  unfold kept
  rw [List.range_succ, List.filter_append, List.map_append]
  simp [h]
theorem kept_len (n : Nat) (k : Nat → Bool) (f : Nat → V) : (kept n k f).length ≤ n := by
  unfold kept
  rw [List.length_map]
  exact Nat.le_trans (List.length_filter_le _ _) (by rw [List.length_range]; exact Nat.le_refl _)
theorem kept_all (n : Nat) (f : Nat → V) : kept n (fun _ => true) f = (List.range n).map f := by
  unfold kept
  rw [List.filter_eq_self.mpr (by simp)]
theorem lc_pure {J : It} (n : Nat) (item : Nat → L2.St) (keep : Nat → Bool) (f : Nat → V) (hD : H1 Dl = none) (hn : n ≤ 100000)
    (hst : ∀ H', Evl.Ex H1 H' → J.stop n H') (hgo : ∀ i H', i < n → Evl.Ex H1 H' → J.go i H')
    (hy : ∀ i H' x H'' (QG : L2.St → Hp → Prop), i < n → Evl.Ex H1 H' → J.yld i H' x H'' → (Evl.Ex H' H'' → QG (item i) H'') → g x (wipe σ vs) H'' QG)
    (hw : ∀ i, i < n → wipe (item i) vs = wipe σ vs) (ht : ∀ i, i < n → Evl.EvT tt (item i) H1 (keep i)) (he : ∀ i, i < n → keep i = true → Evl.Ev te (item i) H1 (f i))
    (hd : ∀ H', Evl.Ex H1 H' → H' Dl = some (.lst (kept n keep f)) → Q (.ref Dl) H') : LcG J g tt te vs σ Dl H1 Q := by
  refine lc_g n (fun i H' => Evl.Ex H1 H' ∧ H' Dl = some (.lst (kept i keep f))) ⟨Evl.Ex.new hD, upd_same⟩ (fun H' h => hst H' h.1) (fun i H' hi h => hgo i H' hi h.1) (fun i H' x H'' hi h y => ?_) (fun H' h => hd H' h.1 h.2)
  obtain ⟨e, hl⟩ := h
  refine hy i H' x H'' _ hi e y fun e2 => ⟨hw i hi, ht i hi H'' (e.trans e2) _ fun H3 e3 => ?_⟩
  have hl3 := e3 _ _ (e2 _ _ hl)
  cases hk : keep i with
  | false =>
    show (if false = true then _ else _)
    rw [if_neg Bool.false_ne_true, kept_no hk]
    exact ⟨(e.trans e2).trans e3, hl3⟩
  | true =>
    show (if true = true then _ else _)
    rw [if_pos rfl]
    refine he i hi hk H3 ((e.trans e2).trans e3) _ fun H4 e4 => ⟨_, e4 _ _ hl3, Nat.lt_of_lt_of_le (Nat.lt_of_le_of_lt (kept_len i keep f) hi) (Nat.le_trans hn (by decide)), ?_⟩
    rw [kept_yes hk]
    exact ⟨(((e.trans e2).trans e3).trans e4).mut hD, upd_same⟩
theorem tyes {σ : L2.St} {H : Hp} : Evl.EvT tYes σ H true := fun H1 _ _ q => q H1 (Evl.Ex.refl H1)
theorem lc_enum {a : Addr} {xs : List V} {j k : Nat} (keep : Nat → Bool) (f : Nat → V) (hx : SqL K H1 a xs) (hD : H1 Dl = none) (hn : xs.length ≤ 100000)
    (hw : ∀ u v : V, wipe (((wipe σ vs).set j (some u)).set k (some v)) vs = wipe σ vs)
    (ht : ∀ i x, xs[i]? = some x → Evl.EvT tt (((wipe σ vs).set j (some (.int (i : Nat)))).set k (some x)) H1 (keep i))
    (he : ∀ i x, xs[i]? = some x → keep i = true → Evl.Ev te (((wipe σ vs).set j (some (.int (i : Nat)))).set k (some x)) H1 (f i))
    (hd : ∀ H', Evl.Ex H1 H' → H' Dl = some (.lst (kept xs.length keep f)) → Q (.ref Dl) H') : LcG (Ite K a) (gTup K 2 (gCons (gName j) (gCons (gName k) gNil))) tt te vs σ Dl H1 Q := by
  refine lc_pure xs.length (fun i => ((wipe σ vs).set j (some (.int (i : Nat)))).set k (some (xs.getD i .non))) keep f hD hn (fun H' e => ⟨xs, Evl.ex_l e hx, Nat.le_refl _⟩) (fun i H' hi e => ⟨xs, xs[i], Evl.ex_l e hx, List.getElem?_eq_getElem hi⟩)
    (fun i H' x H'' QG hi e y q => ?_) (fun i hi => hw _ _) (fun i hi => ht i _ (by rw [List.getD_eq_getElem?_getD, List.getElem?_eq_getElem hi]; rfl)) (fun i hi => he i _ (by rw [List.getD_eq_getElem?_getD, List.getElem?_eq_getElem hi]; rfl)) hd
  obtain ⟨T, v, rfl, hT, rfl, hf⟩ := y
  have hv := hf xs (Evl.ex_l e hx)
  have e1 : xs.getD i .non = v := by rw [List.getD_eq_getElem?_getD, hv]; rfl
  refine g_two upd_same ?_
  have q2 := q (Evl.Ex.new hT)
  rw [e1] at q2
  exact q2
theorem lc_list {a : Addr} {xs : List V} {j : Nat} (keep : Nat → Bool) (f : Nat → V) (hx : SqL K H1 a xs) (hD : H1 Dl = none) (hn : xs.length ≤ 100000)
    (hw : ∀ u : V, wipe ((wipe σ vs).set j (some u)) vs = wipe σ vs)
    (ht : ∀ i x, xs[i]? = some x → Evl.EvT tt ((wipe σ vs).set j (some x)) H1 (keep i))
    (he : ∀ i x, xs[i]? = some x → keep i = true → Evl.Ev te ((wipe σ vs).set j (some x)) H1 (f i))
    (hd : ∀ H', Evl.Ex H1 H' → H' Dl = some (.lst (kept xs.length keep f)) → Q (.ref Dl) H') : LcG (Itl K a) (gName j) tt te vs σ Dl H1 Q := by
  refine lc_pure xs.length (fun i => (wipe σ vs).set j (some (xs.getD i .non))) keep f hD hn (fun H' e => ⟨xs, Evl.ex_l e hx, Nat.le_refl _⟩) (fun i H' hi e => ⟨xs, xs[i], Evl.ex_l e hx, List.getElem?_eq_getElem hi⟩)
    (fun i H' x H'' QG hi e y q => ?_) (fun i hi => hw _) (fun i hi => ht i _ (by rw [List.getD_eq_getElem?_getD, List.getElem?_eq_getElem hi]; rfl)) (fun i hi => he i _ (by rw [List.getD_eq_getElem?_getD, List.getElem?_eq_getElem hi]; rfl)) hd
  obtain ⟨rfl, hf⟩ := y
  have hv := hf xs (Evl.ex_l e hx)
  have e1 : xs.getD i .non = x := by rw [List.getD_eq_getElem?_getD, hv]; rfl
  show QG _ _
  rw [← e1]
  exact q (Evl.Ex.refl _)
theorem lc_rng {lo : Int} {n j : Nat} (keep : Nat → Bool) (f : Nat → V) (hD : H1 Dl = none) (hn : n ≤ 100000)
    (hw : ∀ u : V, wipe ((wipe σ vs).set j (some u)) vs = wipe σ vs)
    (ht : ∀ i, i < n → Evl.EvT tt ((wipe σ vs).set j (some (.int (lo + i)))) H1 (keep i))
    (he : ∀ i, i < n → keep i = true → Evl.Ev te ((wipe σ vs).set j (some (.int (lo + i)))) H1 (f i))
    (hd : ∀ H', Evl.Ex H1 H' → H' Dl = some (.lst (kept n keep f)) → Q (.ref Dl) H') : LcG (Itr lo n) (gName j) tt te vs σ Dl H1 Q := by
  refine lc_pure n (fun i => (wipe σ vs).set j (some (.int (lo + i)))) keep f hD hn (fun H' e => Nat.le_refl _) (fun i H' hi e => hi)
    (fun i H' x H'' QG hi e y q => ?_) (fun i hi => hw _) ht he hd
  obtain ⟨rfl, rfl⟩ := y
  exact q (Evl.Ex.refl _)
end
/-! ### operations on values -/
section
variable {K : PySem.W.Frag} {H : Hp} {Q : VK}
theorem isi_int {i : Int} {T : String} {b : Bool} (h : kitB "int" T = some b) (q : Q (.bl b) H) : rIsi K [.int i, .ty T] H Q :=
  ⟨.int i, .ty T, .type "int", .type T, b, rfl, .ty T, .base (.int i), kit_ty h, q⟩
theorem ixL {p : Addr} {xs : List V} {i : Int} {v : V} (h : SqL K H p xs) (hi : atI xs i = some v) (q : Q v H) : rIxL K (.ref p) (.int i) H Q := ⟨p, xs, i, v, rfl, rfl, h, hi, q⟩
theorem setL {p : Addr} {xs : List V} {i : Int} {j : Nat} {v : V} {R : Hp → Prop} (h : H p = some (.lst xs)) (hj : ixN xs.length i = some j) (q : R (upd H p (.lst (xs.set j v)))) : rSetL (.ref p) (.int i) v H R := ⟨p, xs, i, j, rfl, rfl, h, hj, q⟩
theorem repL {p : Addr} {xs : List V} {k : Int} (h : H p = some (.lst xs)) (h1 : -(2 ^ 63) ≤ k) (h2 : k < 2 ^ 63) (hz : xs.length * k.toNat ≤ sizeLine) (q : ∀ l, H l = none → Q (.ref l) (upd H l (.lst (List.replicate k.toNat xs).flatten))) : rRep (.ref p) (.int k) H Q := ⟨p, k, xs, rfl, rfl, h, h1, h2, hz, q⟩
theorem catL {p b : Addr} {xs ys : List V} (h : H p = some (.lst xs)) (hb : H b = some (.lst ys)) (hz : xs.length + ys.length ≤ sizeLine) (q : ∀ l, H l = none → Q (.ref l) (upd H l (.lst (xs ++ ys)))) : rCat (.ref p) (.ref b) H Q := ⟨p, b, xs, ys, rfl, rfl, h, hb, hz, q⟩
theorem sumL {p : Addr} {ns : List Int} (h : SqL K H p (ns.map V.int)) (q : Q (.int ns.sum) H) : rSum K [.ref p] H Q := ⟨p, ns, rfl, h, q⟩
theorem appL {p : Addr} {xs : List V} {y : V} (h : H p = some (.lst xs)) (hz : xs.length < sizeLine) (q : Q .non (upd H p (.lst (xs ++ [y])))) : rAppend (.ref p) [y] H Q := ⟨p, xs, y, rfl, rfl, h, hz, q⟩
theorem tyL {p : Addr} {xs : List V} (h : H p = some (.lst xs)) : tyV K "list" (.ref p) H := Or.inl ⟨rfl, _, Or.inl (Or.inl h)⟩
theorem atI_n {xs : List V} {i : Int} {j : Nat} {v : V} (e : i = (j : Int)) (h : xs[j]? = some v) : atI xs i = some v := by
  subst e
  have hj := (List.getElem?_eq_some_iff.mp h).1
  unfold atI ixN
  rw [if_pos (by omega), if_pos (by omega)]
  exact h
theorem ixN_n {n : Nat} {i : Int} {j : Nat} (e : i = (j : Int)) (h : j < n) : ixN n i = some j := by
  subst e
  unfold ixN
  rw [if_pos (by omega), if_pos (by omega)]
  rfl
theorem sz_ok {n : Nat} (h : n ≤ 100000) : n ≤ sizeLine := Nat.le_trans h (by decide)
theorem sz_lt {n : Nat} (h : n < 100000) : n < sizeLine := Nat.lt_of_lt_of_le h (by decide)
end
end BC

set_option Elab.async false
set_option linter.all false
set_option maxRecDepth 100000
set_option maxHeartbeats 4000000
namespace BC
open PySem PySem.Spec PyProof.Rows L2 Evl RZ
/-! ### all but the object at b stands -/
def Fx (b : Addr) (H H' : Hp) : Prop := ∀ a o, a ≠ b → H a = some o → H' a = some o
theorem Fx.refl (b : Addr) (H : Hp) : Fx b H H := fun _ _ _ h => h
theorem Fx.trans {b : Addr} {H H1 H2 : Hp} (x : Fx b H H1) (y : Fx b H1 H2) : Fx b H H2 := fun a o n h => y a o n (x a o n h)
theorem Fx.of {b : Addr} {H H' : Hp} (e : Ex H H') : Fx b H H' := fun a o _ h => e a o h
theorem Fx.put {b : Addr} {H : Hp} {o : HO} : Fx b H (upd H b o) := fun a u n h => by rw [upd_ne n]; exact h
theorem Fx.ex {b : Addr} {H H' : Hp} (x : Fx b H H') (h : H b = none) : Ex H H' := fun a o e => x a o (ne_of_none e h) e
theorem Fx.l {K : PySem.W.Frag} {b a : Addr} {H H' : Hp} {xs : List V} (x : Fx b H H') (n : a ≠ b) (h : SqL K H a xs) : SqL K H' a xs := by
  rcases h with h | h
  · rcases h with h | ⟨o, h⟩
    · exact .inl (.inl (x a _ n h))
    · exact .inl (.inr ⟨o, x a _ n h⟩)
  · exact .inr h
/-! ### lists -/
theorem cutV_mem {xs : List V} {lo hi : Option Int} {x : V} (h : x ∈ cutV xs lo hi) : x ∈ xs := by
  unfold cutV at h
  exact List.mem_of_mem_drop (List.mem_of_mem_take h)
theorem cutV_len (xs : List V) (lo hi : Option Int) : (cutV xs lo hi).length ≤ xs.length := by
  unfold cutV
  rw [List.length_take, List.length_drop]
  omega
theorem two_at0 {x y r : Int} {n : Nat} (h0 : 0 ≤ r) (h1 : r < 2) (hx0 : 0 ≤ x) (hx1 : x ≤ n) (hy0 : 0 ≤ y) (hy1 : y ≤ n) : ∃ m : Nat, m ≤ n ∧ atI [V.int x, V.int y] r = some (.int m) := by
  by_cases e : r = 0
  · exact ⟨x.toNat, by omega, by rw [Int.toNat_of_nonneg hx0]; exact atI_n (j := 0) e rfl⟩
  · exact ⟨y.toNat, by omega, by rw [Int.toNat_of_nonneg hy0]; exact atI_n (j := 1) (by omega) rfl⟩
theorem two_at {x y r : Int} {n : Nat} (h0 : 0 ≤ r) (h1 : r < 2) (hx0 : 1 ≤ x) (hx1 : x ≤ n) (hy0 : 1 ≤ y) (hy1 : y ≤ n) : ∃ m : Nat, 1 ≤ m ∧ m ≤ n ∧ atI [V.int x, V.int y] r = some (.int m) := by
  by_cases e : r = 0
  · exact ⟨x.toNat, by omega, by omega, by rw [Int.toNat_of_nonneg (by omega)]; exact atI_n (j := 0) e rfl⟩
  · exact ⟨y.toNat, by omega, by omega, by rw [Int.toNat_of_nonneg (by omega)]; exact atI_n (j := 1) (by omega) rfl⟩
/-- a written list read at a drawn place -/
theorem pick {xs : List V} {r : Int} (h0 : 0 ≤ r) (h1 : r < xs.length) : ∃ v, v ∈ xs ∧ atI xs r = some v := by
  have hj : r.toNat < xs.length := by omega
  exact ⟨xs[r.toNat], List.getElem_mem hj, atI_n (j := r.toNat) (by omega) (List.getElem?_eq_getElem hj)⟩
theorem rep_one (n : Nat) (v : V) : (List.replicate n [v]).flatten = List.replicate n v := by
  induction n with
  | zero => rfl
  | succ n ih => rw [List.replicate_succ, List.flatten_cons, ih]; rfl
theorem take_succ {xs : List V} {i : Nat} {v : V} (h : xs[i]? = some v) : xs.take (i + 1) = xs.take i ++ [v] := by
  rw [List.take_add_one, h]
  rfl
theorem log2_small {i : Int} {k : Nat} (hk : 0 < k) (h : i.natAbs < 2 ^ k) : i.natAbs.log2 < k := PySem.Flt.log2_lt_of hk h
/-! ### kinds -/
section
variable {X : Cx} {K : PySem.W.Frag} {H : Hp} {Q : VK}
theorem k_pi_zipA {e e2 : Expr} {ta : TA} {p pos tpos : Pos} {elts : List Expr} {kk : Nat} (hK : X.K = K) (hg : Gl X "zip") (hm : X.mg "zip" = none) (ha : PA X [e, e2] ta)
    (hs : starEach [e, e2] X.env = (false, eval e X.env) :: starEach [e2] X.env := by rfl) (hpl : (backTo pos (starEach [e2] X.env)).any (·.1) = false := by rfl) : PI X (.Tuple elts kk tpos) (.Call (.Name "zip" p) [e, e2] [] pos) (iZipA K ta) := by subst hK; exact pi_zipA hg hm ha hs hpl
theorem k_isiT (hK : X.K = K) : CallR X (.builtin "isinstance") (rIsiT K) := by subst hK; exact call_isiT
theorem tyx_l {a : Addr} {xs : List V} (h : SqL K H a xs) : TyX K H (.ref a) (.type "list") := by
  rcases h with (h | ⟨o, h⟩) | ⟨o, its, n, h, c, _⟩
  · exact .base (.lst h)
  · exact .base (.frz h)
  · exact .kList h c
theorem tyx_t {a : Addr} {xs : List V} (h : SqT K H a xs) : TyX K H (.ref a) (.type "tuple") := by
  rcases h with (h | ⟨o, h⟩) | ⟨o, its, n, h, c, _⟩
  · exact .base (.tup h)
  · exact .fTuple h
  · exact .kTuple h c
def tyn : PyData → String
  | .none => "NoneType"
  | .bool _ => "bool"
  | .int _ => "int"
  | .str _ => "str"
  | .list _ => "list"
  | .tuple _ => "tuple"
  | .dict _ => "dict"
theorem tyx_d {v : V} {d : PyData} (h : Dp K H v d) : TyX K H v (.type (tyn d)) := by
  cases h with
  | non => exact .base .non
  | bl b => exact .base (.bl b)
  | int i => exact .base (.int i)
  | str x => exact .base (.str x)
  | lst h _ => exact tyx_l h
  | tup h _ => exact tyx_t h
theorem isi_x {v : V} {A T : String} {b : Bool} (h : TyX K H v (.type A)) (hk : kitB A T = some b) (q : Q (.bl b) H) : rIsi K [v, .ty T] H Q :=
  ⟨v, .ty T, .type A, .type T, b, rfl, .ty T, h, kit_ty hk, q⟩
theorem kit_two {A B C : String} {b c : Bool} (h1 : kitB A B = some b) (h2 : kitB A C = some c) : PySem.W.kitAny K (.type A) [.type B, .type C] = some (b || c) := by
  refine kitAny_cons (kit_ty h1) (fun e => ?_) (fun e => by rw [e]; rfl)
  subst e
  refine kitAny_cons (kit_ty h2) (fun e => ?_) (fun e => by rw [e]; rfl)
  subst e
  exact kitAny_nil
theorem isiT2 {v : V} {p : Addr} {A B C : String} {b c : Bool} (h : TyX K H v (.type A)) (hp : H p = some (.tup [.ty B, .ty C])) (h1 : kitB A B = some b) (h2 : kitB A C = some c) (q : Q (.bl (b || c)) H) : rIsiT K [v, .ref p] H Q :=
  ⟨v, p, [.ty B, .ty C], .type A, [.type B, .type C], b || c, rfl, hp, .cons (.ty B) (.cons (.ty C) .nil), h, kit_two h1 h2, q⟩
theorem ex_d {H H' : Hp} (e : Ex H H') : ∀ (d : PyData) (v : V), Dp K H v d → Dp K H' v d
  | .none, _, h => by cases h; exact .non
  | .bool _, _, h => by cases h; exact .bl _
  | .int _, _, h => by cases h; exact .int _
  | .str _, _, h => by cases h; exact .str _
  | .dict _, _, h => by cases h
  | .list ds, _, h => by
    cases h with
    | lst h1 h2 => exact .lst (ex_l e h1) (all ds _ h2)
  | .tuple ds, _, h => by
    cases h with
    | tup h1 h2 => exact .tup (ex_t e h1) (all ds _ h2)
where
  all : ∀ (ds : List PyData) (vs : List V), DpAll K H vs ds → DpAll K H' vs ds
  | [], _, h => by cases h; exact .nil
  | d :: ds, _, h => by
    cases h with
    | cons h1 h2 => exact .cons (ex_d e d _ h1) (all ds _ h2)
theorem dp_len : ∀ {vs : List V} {ds : List PyData}, DpAll K H vs ds → vs.length = ds.length
  | _, _, .nil => rfl
  | _, _, .cons _ h => by rw [List.length_cons, List.length_cons, dp_len h]
theorem dp_at : ∀ {vs : List V} {ds : List PyData} {i : Nat} {v : V}, DpAll K H vs ds → vs[i]? = some v → ∃ d, ds[i]? = some d ∧ Dp K H v d
  | _, _, _, _, .nil, e => by simp at e
  | _, _, 0, _, .cons h _, e => by simp at e; subst e; exact ⟨_, rfl, h⟩
  | _, _, i + 1, _, .cons _ h, e => by
    obtain ⟨d, e1, e2⟩ := dp_at (i := i) h (by simpa using e)
    exact ⟨d, by simpa using e1, e2⟩
theorem dp_ints : ∀ ns : List Int, DpAll K H (ns.map V.int) (ns.map PyData.int)
  | [] => .nil
  | n :: ns => .cons (.int n) (dp_ints ns)
/-- data of so many levels, of moderate size -/
inductive Sh : Nat → PyData → Prop
  | non (n : Nat) : Sh n .none
  | bl (n : Nat) (b : Bool) : Sh n (.bool b)
  | int (n : Nat) (i : Int) : Sh n (.int i)
  | str (n : Nat) (x : Str) : Sh n (.str x)
  | lst {n : Nat} {ds : List PyData} (hl : ds.length ≤ 100000) (h : ∀ d ∈ ds, Sh n d) : Sh (n + 1) (.list ds)
  | tup {n : Nat} {ds : List PyData} (hl : ds.length ≤ 100000) (h : ∀ d ∈ ds, Sh n d) : Sh (n + 1) (.tuple ds)
theorem sh_ints (ns : List Int) (h : ns.length ≤ 100000) : Sh 1 (.list (ns.map PyData.int)) := .lst (by rw [List.length_map]; exact h) fun d hd => by
  obtain ⟨n, _, rfl⟩ := List.mem_map.mp hd
  exact .int 0 n
end
/-! ### more readings -/
section
variable {K : PySem.W.Frag} {σ : L2.St} {H H1 : Hp} {g : TG} {tt : TT} {te : TE} {vs : List Nat} {Dl : Addr} {Q : VK}
theorem x_eqB {m n : Bool} : rEq (.bl m) (.bl n) H Q ↔ Q (.bl (decide (m = n))) H := by
  unfold rEq
  rw [show scal (V.bl m) (V.bl n) = true from rfl]
  cases m <;> cases n <;> simp
theorem x_neB {m n : Bool} : rNe (.bl m) (.bl n) H Q ↔ Q (.bl (!decide (m = n))) H := by
  unfold rNe
  rw [show scal (V.bl m) (V.bl n) = true from rfl]
  cases m <;> cases n <;> simp
theorem x_eqS {m n : Str} : rEq (.str m) (.str n) H Q ↔ Q (.bl (decide (m = n))) H := by
  unfold rEq
  rw [show scal (V.str m) (V.str n) = true from rfl]
  by_cases e : m = n
  · subst e; simp
  · simp [e]
theorem x_neS {m n : Str} : rNe (.str m) (.str n) H Q ↔ Q (.bl (!decide (m = n))) H := by
  unfold rNe
  rw [show scal (V.str m) (V.str n) = true from rfl]
  by_cases e : m = n
  · subst e; simp
  · simp [e]
theorem allL {p : Addr} {bs : List Bool} (h : SqL K H p (bs.map V.bl)) (q : Q (.bl (bs.all id)) H) : rAll K [.ref p] H Q := ⟨p, bs, rfl, h, q⟩
theorem anyL {p : Addr} {bs : List Bool} (h : SqL K H p (bs.map V.bl)) (q : Q (.bl (bs.any id)) H) : rAny K [.ref p] H Q := ⟨p, bs, rfl, h, q⟩
theorem lenL {p : Addr} {xs : List V} (h : SqL K H p xs) (q : Q (.int (xs.length : Nat)) H) : rLen K [.ref p] H Q := ⟨p, xs, rfl, .inl h, q⟩
theorem lenT {p : Addr} {xs : List V} (h : SqT K H p xs) (q : Q (.int (xs.length : Nat)) H) : rLen K [.ref p] H Q := ⟨p, xs, rfl, .inr h, q⟩
theorem x_izipA {a : TA} {R : It → Hp → Prop} : iZipA K a σ H R = a σ H (fun vs H1 => ∃ a b xs ys, vs = [.ref a, .ref b] ∧ ((SqL K H1 a xs ∧ SqL K H1 b ys ∧ R (Itz K a b) H1) ∨ (SqT K H1 a xs ∧ SqT K H1 b ys ∧ R (ItzT K a b) H1))) := rfl
theorem eq_same {v : V} (h : scal v v = true) (q : Q (.bl true) H) : rEq v v H Q := ⟨h, by rw [decide_eq_true rfl]; exact q⟩
theorem g_three {i j l : Nat} {T : Addr} {x y z : V} {QG : L2.St → Hp → Prop} (h : H T = some (.tup [x, y, z])) (q : QG (((σ.set i (some x)).set j (some y)).set l (some z)) H) : gTup K 3 (gCons (gName i) (gCons (gName j) (gCons (gName l) gNil))) (.ref T) σ H QG :=
  ⟨T, [x, y, z], rfl, .inl (.inl h), rfl, x, [y, z], rfl, y, [z], rfl, z, [], rfl, rfl, q⟩
theorem lc_zip {a b : Addr} {xs ys : List V} {j k : Nat} (keep : Nat → Bool) (f : Nat → V) (hx : SqL K H1 a xs) (hy : SqL K H1 b ys) (he0 : xs.length = ys.length) (hD : H1 Dl = none) (hn : xs.length ≤ 100000)
    (hw : ∀ u v : V, wipe (((wipe σ vs).set j (some u)).set k (some v)) vs = wipe σ vs)
    (ht : ∀ i x y, xs[i]? = some x → ys[i]? = some y → Evl.EvT tt (((wipe σ vs).set j (some x)).set k (some y)) H1 (keep i))
    (he : ∀ i x y, xs[i]? = some x → ys[i]? = some y → keep i = true → Evl.Ev te (((wipe σ vs).set j (some x)).set k (some y)) H1 (f i))
    (hd : ∀ H', Evl.Ex H1 H' → H' Dl = some (.lst (kept xs.length keep f)) → Q (.ref Dl) H') : LcG (Itz K a b) (gTup K 2 (gCons (gName j) (gCons (gName k) gNil))) tt te vs σ Dl H1 Q := by
  have gx : ∀ i, i < xs.length → xs[i]? = some (xs.getD i .non) := fun i hi => by rw [List.getD_eq_getElem?_getD, List.getElem?_eq_getElem hi]; rfl
  have gy : ∀ i, i < xs.length → ys[i]? = some (ys.getD i .non) := fun i hi => by rw [List.getD_eq_getElem?_getD, List.getElem?_eq_getElem (by omega)]; rfl
  refine lc_pure xs.length (fun i => ((wipe σ vs).set j (some (xs.getD i .non))).set k (some (ys.getD i .non))) keep f hD hn (fun H' e => ⟨xs, ys, Evl.ex_l e hx, Evl.ex_l e hy, .inl (Nat.le_refl _)⟩)
    (fun i H' hi e => ⟨xs, ys, _, _, Evl.ex_l e hx, Evl.ex_l e hy, gx i hi, gy i hi⟩)
    (fun i H' x H'' QG hi e y q => ?_) (fun i hi => hw _ _) (fun i hi => ht i _ _ (gx i hi) (gy i hi)) (fun i hi => he i _ _ (gx i hi) (gy i hi)) hd
  obtain ⟨T, u, v, rfl, hT, rfl, hf, hf2⟩ := y
  have hu := hf xs (Evl.ex_l e hx)
  have hv := hf2 ys (Evl.ex_l e hy)
  have e1 : xs.getD i .non = u := by rw [List.getD_eq_getElem?_getD, hu]; rfl
  have e2 : ys.getD i .non = v := by rw [List.getD_eq_getElem?_getD, hv]; rfl
  refine g_two upd_same ?_
  have q2 := q (Evl.Ex.new hT)
  rw [e1, e2] at q2
  exact q2
theorem lc_zipT {a b : Addr} {xs ys : List V} {j k : Nat} (keep : Nat → Bool) (f : Nat → V) (hx : SqT K H1 a xs) (hy : SqT K H1 b ys) (he0 : xs.length = ys.length) (hD : H1 Dl = none) (hn : xs.length ≤ 100000)
    (hw : ∀ u v : V, wipe (((wipe σ vs).set j (some u)).set k (some v)) vs = wipe σ vs)
    (ht : ∀ i x y, xs[i]? = some x → ys[i]? = some y → Evl.EvT tt (((wipe σ vs).set j (some x)).set k (some y)) H1 (keep i))
    (he : ∀ i x y, xs[i]? = some x → ys[i]? = some y → keep i = true → Evl.Ev te (((wipe σ vs).set j (some x)).set k (some y)) H1 (f i))
    (hd : ∀ H', Evl.Ex H1 H' → H' Dl = some (.lst (kept xs.length keep f)) → Q (.ref Dl) H') : LcG (ItzT K a b) (gTup K 2 (gCons (gName j) (gCons (gName k) gNil))) tt te vs σ Dl H1 Q := by
  have gx : ∀ i, i < xs.length → xs[i]? = some (xs.getD i .non) := fun i hi => by rw [List.getD_eq_getElem?_getD, List.getElem?_eq_getElem hi]; rfl
  have gy : ∀ i, i < xs.length → ys[i]? = some (ys.getD i .non) := fun i hi => by rw [List.getD_eq_getElem?_getD, List.getElem?_eq_getElem (by omega)]; rfl
  refine lc_pure xs.length (fun i => ((wipe σ vs).set j (some (xs.getD i .non))).set k (some (ys.getD i .non))) keep f hD hn (fun H' e => ⟨xs, ys, Evl.ex_t e hx, Evl.ex_t e hy, .inl (Nat.le_refl _)⟩)
    (fun i H' hi e => ⟨xs, ys, _, _, Evl.ex_t e hx, Evl.ex_t e hy, gx i hi, gy i hi⟩)
    (fun i H' x H'' QG hi e y q => ?_) (fun i hi => hw _ _) (fun i hi => ht i _ _ (gx i hi) (gy i hi)) (fun i hi => he i _ _ (gx i hi) (gy i hi)) hd
  obtain ⟨T, u, v, rfl, hT, rfl, hf, hf2⟩ := y
  have hu := hf xs (Evl.ex_t e hx)
  have hv := hf2 ys (Evl.ex_t e hy)
  have e1 : xs.getD i .non = u := by rw [List.getD_eq_getElem?_getD, hu]; rfl
  have e2 : ys.getD i .non = v := by rw [List.getD_eq_getElem?_getD, hv]; rfl
  refine g_two upd_same ?_
  have q2 := q (Evl.Ex.new hT)
  rw [e1, e2] at q2
  exact q2
theorem all_true (n : Nat) : ((List.replicate n true).all id) = true := by
  induction n with
  | zero => rfl
  | succ n ih => rw [List.replicate_succ, List.all_cons, ih]; rfl
theorem kept_const (n : Nat) (v : V) : kept n (fun _ => true) (fun _ => v) = List.replicate n v := by
  rw [kept_all]
  apply List.ext_getElem?
  intro j
  rw [List.getElem?_map]
  by_cases h : j < n
  · rw [List.getElem?_range h, List.getElem?_replicate, if_pos h]
    rfl
  · rw [List.getElem?_eq_none (by rw [List.length_range]; omega), List.getElem?_eq_none (by rw [List.length_replicate]; omega)]
    rfl
end
end BC

set_option Elab.async false
set_option linter.all false
set_option maxRecDepth 100000
set_option maxHeartbeats 4000000
/-! repr of lists wants to know that no repr is under way around: promises that hold where nothing is guarded -/
namespace BC
open PySem PySem.Spec PyProof.Rows L2 Evl
/-- nothing is guarded around -/
def G0 (A : Around) : Prop := A.guards = some []
theorem G0.deeper {A : Around} (g : G0 A) (env : Env) : G0 (A.deeper env) := g
/-- FnOk where nothing is guarded around -/
structure FnG (P : Program) (w : World) (K : PySem.W.Frag) (mg : Str → Option Value) (base : Heap) (CX : CXT) (k : Nat) (f : Addr) (fd : FuncData) (ps : List Str) (sp : Sp) : Prop where
  size : ∀ vs H Q E, sp vs H Q E → vs.length = ps.length
  go : ∀ (A : Around) (outer : List Env) (s : Shared) (H : Hp) (args : Args) (us : List Value) (vs : List V) (Q : VK) (E : XK), G0 A → Room k A → Env0 P w K mg base A outer s H →
    BindsTo s fd args (ps.zip us) → Vals vs us → sp vs H Q E → codeAny (model P w) A (.call (.ref f) args) (CR CX outer P w H s Q E) s
section
variable {P : Program} {w : World} {K : PySem.W.Frag} {mg : Str → Option Value} {base : Heap} {CX : CXT} {k : Nat} {f : Addr} {fd : FuncData} {ps : List Str} {sp : Sp}
theorem FnG.of (F : FnOk P w K mg base CX k f fd ps sp) : FnG P w K mg base CX k f fd ps sp :=
  ⟨F.len, fun A outer s H args us vs Q E _ => F.run A outer s H args us vs Q E⟩
theorem FnG.up (F : FnG P w K mg base CX k f fd ps sp) {j : Nat} (h : k ≤ j) : FnG P w K mg base CX j f fd ps sp :=
  ⟨F.size, fun A outer s H args us vs Q E g hr => F.go A outer s H args us vs Q E g (hr.mono h)⟩
/-- the rule for a def -/
theorem fun_okG {x qual : Str} {st : Stmt} {N : List Str} (F : Fun K x qual st f fd) (S : FnScope N ps (defScope st)) (size : ∀ vs H Q E, sp vs H Q E → vs.length = ps.length)
    (body : ∀ (cdv : Value) (A : Around) (outer : List Env) (s : Shared) (H : Hp) (vs : List V) (Q : VK) (E : XK), G0 (A.deeper (envOfC qual (defScope st) s.heap.objs.size f cdv)) → Room k (A.deeper (envOfC qual (defScope st) s.heap.objs.size f cdv)) → sp vs H Q E →
      ∃ t, PSs (cxOf CX P w K mg base N qual (defScope st) f cdv A outer s H E) (defBody st) t ∧ t { nx := fun _ H' => Q .non H', rt := Q } (start N vs) H) : FnG P w K mg base CX (k + 1) f fd ps sp := by
  obtain ⟨oc, od, kV, doc, pm, an, cdv, ct, osl, rfl, lk, hcd⟩ := F.ex
  refine ⟨size, fun A outer s H args us vs Q E g room env bind vals prom => ?_⟩
  have inK : K.In s.heap := env.mod.kin.keeps fun b o q => (env.bs b o q).1
  have loose : s.heap.NoLimit := env.mod.nolimit.keeps fun b o q => (env.bs b o q).1
  have kinds : ∀ z ∈ ps.zip us, (defScope st).names.lookup z.1 = some .local ∨ ((defScope st).names.lookup z.1 = some .cell ∧ ((cellsFrom (s.heap.objs.size + 1) (defScope st).names []).lookup z.1).isSome = true) := by
    rintro ⟨n, v⟩ hz
    have hn := (List.of_mem_zip hz).1
    rcases S.par n hn with h | h
    · exact Or.inl h
    · exact Or.inr ⟨h, PySem.W.cellsFrom_some _ _ _ (Or.inl h)⟩
  refine codeAny_call_function room.depth (inK _ _ lk) rfl S.co S.gen rfl (PySem.W.codeRec_of inK hcd) (bind _ _ _ _ ?_)
  refine wpAny_newFunctionEnv_cells S.kind kinds fun env' e1 s1 into => ?_
  subst e1
  refine ⟨loose.keeps into.toInCall.keep, codeAny_func ?_⟩
  obtain ⟨t, deriv, read⟩ := body cdv A outer s H vs Q E (g.deeper _) (room.deeper _) prom
  have I := inv_start (CX := CX) (E := E) S room.hd env (size _ _ _ _ prom) vals into
  refine wpAny_mono (deriv.run [] s1 (start N vs) H _ I read) (fun flow s' ends => ?_) fun _ _ q => q
  have done : ∀ {σ2 : L2.St} {H2 : Hp} {v : V} {u : Value}, Inv (cxOf CX P w K mg base N qual (defScope st) f cdv A outer s H E) [] σ2 H2 s' → RelV v u → Q v H2 → CE outer P w H s Q u s' := by
    intro σ2 H2 v u J rel q
    exact ⟨v, H2, J.os, J.bare, J.base, J.hok, rel, q⟩
  match flow, ends with
  | .ret u, ends =>
    obtain ⟨v, σ2, H2, J, rel, q⟩ := ends
    exact done J rel q
  | .next, ends =>
    obtain ⟨σ2, H2, J, q⟩ := ends
    exact done (v := V.non) (u := Value.none) J rfl q
  | .brk, ends =>
    obtain ⟨_, _, _, q⟩ := ends
    exact q.elim
  | .cont, ends =>
    obtain ⟨_, _, _, q⟩ := ends
    exact q.elim
end
section
variable {X : Cx} {CX : CXT} {k : Nat} {f : Addr} {fd : FuncData} {ps : List Str} {sp : Sp} {dvs : List V} {ds : List Value} {E : XK} {x : Str} {p pos : Pos} {e : Expr} {es : List Expr} {t : TA}
theorem call_G {pins : List (Addr × Obj)} {σ : L2.St} {H : Hp} {s : Shared} {Q : VK} {us : List Value} {vs : List V} (F : FnG X.prog X.w X.K X.mg X.base CX k f fd ps sp) (g : G0 X.A) (hr : Room k X.A) (hb : Binds X.K fd ps ds) (hd : Vals dvs ds)
    (hx : Passes CX X E) (I : Inv X pins σ H s) (r : Vals vs us) (h : sp (vs ++ dvs) H Q E) : wpAny (model X.prog X.w) X.A (call (.ref f) us) (EP X pins σ Q) X.xe s := by
  have both : Vals (vs ++ dvs) (us ++ ds) := r.append hd
  have many : (us ++ ds).length = ps.length := both.length.symm.trans (F.size _ _ _ _ h)
  have run := F.go X.A X.stack s H ⟨us, []⟩ (us ++ ds) (vs ++ dvs) Q E g hr I.env0 (hb s us I.kIn many) both h
  refine wpAny_call (codeAny_mono run fun res s' q => ?_)
  match res, q with
  | .error err, q => exact hx pins σ H s err s' I q
  | .ok (.ret u), q => exact I.after q
theorem pe_callG (F : FnG X.prog X.w X.K X.mg X.base CX k f fd ps sp) (g : G0 X.A) (hr : Room k X.A) (hg : Gl X x) (hm : X.mg x = some (.ref f)) (hk : PySem.W.keepIn X.K (.ref f) = true) (hb : Binds X.K fd ps ds) (hd : Vals dvs ds) (hx : Passes CX X E)
    (ha : PA X (e :: es) t) (hdb : (x == ("__debug__" : Str)) = false := by decide) (he : starEach (e :: es) X.env = (false, eval e X.env) :: starEach es X.env := by rfl) (hpl : (backTo pos (starEach es X.env)).any (·.1) = false := by rfl) :
    PE X (.Call (.Name x p) (e :: es) [] pos) (tCall sp dvs E t) := by
  constructor
  intro pins s σ H Q I h
  have args := ha.run pos pins s σ H _ I h
  refine wpAny_Call_Name_kw (ld_glob I hg hm (PySem.W.callWith_K (h₀ := X.base) I.ok.mod.kin hk (thn args ?_) he hpl) hdb)
  rintro us s1 ⟨vs, H1, I1, r, q⟩
  exact ⟨I1.kIn, call_G F g hr hb hd hx I1 r q⟩
end

/-! ### the law's own call, for a promise of this kind -/
section
variable {P : Program} {w : World} {K : PySem.W.Frag} {mg mb : Str → Option Value} {k : Nat} {fa a : Addr} {fd : FuncData} {x : Str} {sp : Sp} {s : Shared} {vs : List Value} {ns : List Int}
/-- the abstract heap at the entry: the script alone, locked; or nothing, where the script is the module's own -/
def entryH (a : Addr) (vs : List Value) (ns : List Int) (own : Bool) : Hp := fun b => if own = false ∧ b = a then some (.frz { cls := .type "list", data := .seq vs.toArray } (.lst (ns.map V.int))) else none
theorem entry_other {own : Bool} {b : Addr} (h : b ≠ a) : entryH a vs ns own b = none := if_neg fun z => h z.2
theorem entry_own {b : Addr} : entryH a vs ns true b = none := if_neg fun z => nomatch z.1
theorem entry_at : entryH a vs ns false a = some (.frz { cls := .type "list", data := .seq vs.toArray } (.lst (ns.map V.int))) := if_pos ⟨rfl, rfl⟩
theorem entry_case {own : Bool} {b : Addr} {o : HO} (h : entryH a vs ns own b = some o) : own = false ∧ b = a ∧ o = .frz { cls := .type "list", data := .seq vs.toArray } (.lst (ns.map V.int)) := by
  unfold entryH at h
  by_cases q : own = false ∧ b = a
  · rw [if_pos q] at h
    exact ⟨q.1, q.2, (Option.some.inj h).symm⟩
  · rw [if_neg q] at h
    cases h
theorem law_goG (hK : K.In s.heap) (hns : s.heap.Ns mainGlobals mg) (hb : s.heap.Ns builtinsNs mb) (hbb : ∀ x : Str, x ≠ "__name__" → mb x = bootBuiltins x) (hlim : s.heap.NoLimit) (hg : s.gens = #[])
    (ha : s.heap.get? a = some { cls := .type "list", data := .seq vs.toArray }) (hi : IntsAre vs ns) (hl : ns.length ≤ sizeLine) (hr : Room k callerA)
    (F : ∀ base : Heap, K.In base → base.Ns mainGlobals mg → FnG P w K mg base CX0 k fa fd [x] sp) (bind : ∀ (s : Shared) (u : Value), BindsTo s fd ⟨[u], []⟩ [(x, u)])
    (prom : ∀ H : Hp, SqL K H a (ns.map V.int) → sp [.ref a] H (fun v _ => v = .bl true) fun _ _ _ => False) :
    codeAny (model P w) callerA (.call (.ref fa) ⟨[.ref a], []⟩) (fun r s' => r = .ok (.ret (.bool true)) ∧ OldK s.heap s'.heap ∧ s'.os = s.os ∧ AllBare s'.gens) s := by
  have rv := vals_ints hi
  have many := hi.length
  obtain ⟨own, hown⟩ : ∃ own : Bool, own = (K.lookup a).isSome := ⟨_, rfl⟩
  let H : Hp := entryH a vs ns own
  have reads : SqL K H a (ns.map V.int) := by
    cases q : K.lookup a with
    | none =>
      have e : own = false := by rw [hown, q]; rfl
      exact Or.inl (Or.inr ⟨_, by show entryH a vs ns own a = _; rw [e]; exact entry_at⟩)
    | some o =>
      have z := hK a o q
      rw [ha] at z
      cases z
      refine Or.inr ⟨_, vs.toArray, _, q, rfl, rfl, rfl, ?_, ?_⟩
      · rw [List.size_toArray, many]
        exact hl
      · exact rv
  have held : HOk P w H s.heap := fun b o q => by
    obtain ⟨_, rfl, rfl⟩ := entry_case q
    exact ⟨ha, by rw [List.length_map]; exact hl, vs, _, rv, ha⟩
  have spare : ∀ {b : Addr} {o : Obj}, s.heap.get? b = some o → (∀ u n, o.data ≠ .seq u n) → H b = none := fun {b o} e d => by
    cases q : H b with
    | none => rfl
    | some u =>
      obtain ⟨_, rfl, _⟩ := entry_case q
      rw [ha] at e
      cases e
      exact absurd rfl (d _ _)
  have nsT : ∀ {b : Addr} {m : Str → Option Value}, s.heap.Ns b m → (hidT s.heap H).Ns b m := by
    rintro b m ⟨o, es, ep, e, d, r⟩
    exact ⟨o, es, ep, hidT_get e (spare e fun u n z => by rw [d] at z; cases z), d, r⟩
  have kT : K.In (hidT s.heap H) := fun b o e => hidT_get (hK b o e) (by
    cases q : H b with
    | none => rfl
    | some u =>
      obtain ⟨z, rfl, _⟩ := entry_case q
      rw [hown, e] at z
      cases z)
  have module : Mod K mg (hidT s.heap H) := ⟨kT, nsT hns, ⟨mb, nsT hb, hbb⟩, by obtain ⟨mc, h1, h2⟩ := hlim; exact ⟨mc, nsT h1, h2⟩⟩
  have entry : Env0 P w K mg (hidT s.heap H) callerA [] s H :=
    ⟨rfl, module, fun b o e => of_hidT e, Nat.le_of_eq (hidT_size _ _), trivial, fun b z => (List.not_mem_nil z).elim, held, .of_eq hg⟩
  have ran := (F _ kT (nsT hns)).go callerA [] s H ⟨[.ref a], []⟩ [.ref a] [.ref a] _ _ rfl hr entry (bind s (.ref a)) (.cons rfl .nil) (prom H reads)
  refine codeAny_mono ran fun r s' q => ?_
  match r, q with
  | .ok (.ret u), q =>
    obtain ⟨v, H', os, bare, un, held', rel, fin⟩ := q
    obtain rfl : v = .bl true := fin
    obtain rfl : u = Value.bool true := rel
    refine ⟨rfl, OldK.of_keep fun b o e => ?_, os, bare⟩
    cases q : H b with
    | none => exact un.keep b o e q (fun z => (List.not_mem_nil z).elim) List.not_mem_nil
    | some u =>
      obtain ⟨_, rfl, rfl⟩ := entry_case q
      have z := (held' _ _ (un.frzs _ _ _ q)).1
      rw [ha] at e
      cases e
      exact z
theorem walk_G {l : PySem.W.OpenLaw} {n k : Nat} {q : Program} {loose : List Str} {XP : (Str → Option Value) → Heap → Prop} {YP : World → Heap → Prop} {d : DefRec} {K : Params → PySem.W.Frag} {sp : World → Sp} {x : Str}
    (hn : l.most = some n) (hn2 : n ≤ sizeLine) (hdf : d.params.defaults = []) (hr : Room k callerA) (hY : ∀ (w : World) (h : Heap), YP w h → (K w.params).In h)
    (F : ∀ (w : World) (mg : Str → Option Value) (fa : Addr) (h : Heap), (K w.params).In h → h.Ns mainGlobals mg → mg d.name = some (.ref fa) →
      ∃ fd : FuncData, (∀ (s : Shared) (u : Value), BindsTo s fd ⟨[u], []⟩ [(x, u)]) ∧ ∀ base : Heap, (K w.params).In base → base.Ns mainGlobals mg → FnG l.prog w (K w.params) mg base CX0 k fa fd [x] (sp w))
    (prom : ∀ (w : World) (H : Hp) (a : Addr) (ns : List Int), ns.length ≤ n → SqL (K w.params) H a (ns.map V.int) → sp w [.ref a] H (fun v _ => v = .bl true) fun _ _ _ => False) :
    PySem.W.WalkO q loose XP YP l.row.toRowW d [] (fun f vs => PySem.call f vs) := by
  refine Att.attach_call hn hdf ?_
  intro w s0 s1 mg mb fa o pm cd doc a vs ns G Y _ hd hcd hmg hobj hints hlen hg
  have inK := hY w _ Y
  obtain ⟨fd, bind, keep⟩ := F w mg fa _ inK G.T.g hmg
  exact law_goG inK G.T.g G.T.b G.T.builtins G.T.nolimit hg hobj hints (Nat.le_trans hlen hn2) hr keep bind fun H hS => prom w H a ns hlen hS
end
end BC

set_option Elab.async false
set_option linter.all false
set_option maxRecDepth 100000
set_option maxHeartbeats 4000000
/-! repr, keywords, more readings -/
namespace BC
open PySem PySem.Spec PyProof.Rows L2 Evl
section
variable {X : Cx} {K : PySem.W.Frag} {σ : L2.St} {H : Hp} {Q : VK}
/-- repr of lists, tuples and what lies in them -/
def rRepr (K : PySem.W.Frag) : List V → Hp → VK → Prop := fun xs H Q => ∃ a d, xs = [.ref a] ∧ Dp K H (.ref a) d ∧ d.showable = true ∧ d.depth ≤ 60 ∧ d.hasDict = false ∧ d.shown.length ≤ sizeLine ∧ Q (.str d.shown) H
theorem k_repr (hK : X.K = K) (g : G0 X.A) (hu : X.A.units + 64 < cLine) : CallR X (.builtin "repr") (rRepr K) := by
  subst hK
  intro pins s σ H xs us Q I r h
  obtain ⟨a, d, rfl, hd, h1, h2, h3, h4, q⟩ := h
  obtain ⟨u, rfl, rfl⟩ := vals1 r
  obtain ⟨as, rd⟩ := Dp.reads I d (.ref a) (.ref a) hd rfl
  exact repr_of_reads' rd h1 (PyData.noDict_hsm h3) g (by omega) (fun _ _ e => e) (fun h' u tk hk => ⟨.str _, H, I.kept hk, ⟨_, rfl⟩, q⟩) h4
def rIsB : R2 := fun x y H Q => ∃ a b, x = .bl a ∧ y = .bl b ∧ Q (.bl (decide (a = b))) H
def rIsNB : R2 := fun x y H Q => ∃ a b, x = .bl a ∧ y = .bl b ∧ Q (.bl (!decide (a = b))) H
theorem op_isB : OpR X (compareOp .Is) rIsB := op_is_bl
theorem op_isNB : OpR X (compareOp .IsNot) rIsNB := op_isnot_bl
theorem x_isB {a b : Bool} : rIsB (.bl a) (.bl b) H Q ↔ Q (.bl (decide (a = b))) H := ⟨fun ⟨i, j, e1, e2, q⟩ => by cases e1; cases e2; exact q, fun q => ⟨a, b, rfl, rfl, q⟩⟩
theorem x_isNB {a b : Bool} : rIsNB (.bl a) (.bl b) H Q ↔ Q (.bl (!decide (a = b))) H := ⟨fun ⟨i, j, e1, e2, q⟩ => by cases e1; cases e2; exact q, fun q => ⟨a, b, rfl, rfl, q⟩⟩
theorem x_lrg {te : L2.St → Hp → (Int → Int → Hp → Prop) → Prop} : tLstRg te σ H Q = te σ H fun a b H1 => RgOk a b ∧ ∀ q, H1 q = none → Q (.ref q) (upd H1 q (.lst (rgV a b))) := rfl
theorem x_rg1 {ta : TE} {R : Int → Int → Hp → Prop} : tRg1 ta σ H R = ta σ H fun x H1 => ∃ n, x = .int n ∧ R 0 n H1 := rfl
theorem x_rg2 {ta tb : TE} {R : Int → Int → Hp → Prop} : tRg2 ta tb σ H R = ta σ H fun x H1 => tb σ H1 fun y H2 => ∃ i j, x = .int i ∧ y = .int j ∧ R i j H2 := rfl
end
theorem Fx.mut {b r : Addr} {H H' : Hp} {o : HO} (f : Fx b H H') (n : H r = none) : Fx b H (upd H' r o) := fun a u na h => by rw [upd_ne (ne_of_none h n)]; exact f a u na h
theorem fx_none {b x : Addr} {H H' : Hp} (h : Fx b H H') (n : H' x = none) (nb : x ≠ b) : H x = none := by
  cases e : H x with
  | none => rfl
  | some o => rw [h _ _ nb e] at n; cases n
/-- a promise that asks for more -/
theorem weak {P : Program} {w : World} {K : PySem.W.Frag} {mg : Str → Option Value} {base : Heap} {CX : CXT} {k : Nat} {f : Addr} {fd : FuncData} {ps : List Str} {sp sp' : Sp} (F : FnOk P w K mg base CX k f fd ps sp) (h : ∀ vs H Q E, sp' vs H Q E → sp vs H Q E) : FnOk P w K mg base CX k f fd ps sp' :=
  ⟨fun vs H Q E q => F.len vs H Q E (h _ _ _ _ q), fun A outer s H args us vs Q E hr env bind vals q => F.run A outer s H args us vs Q E hr env bind vals (h _ _ _ _ q)⟩
/-! ### a cut: what stands after one statement -/
section
variable {σ : L2.St} {H : Hp} {D : Ends} {ta : TE} {s1 s2 : TS} {i : Nat}
theorem seq_asg (C : V → Hp → Prop) (h1 : ∀ R : VK, (∀ v H', C v H' → R v H') → ta σ H R) (h2 : ∀ v H', C v H' → s2 D (σ.set i (some v)) H') : tSeq (tAsg ta (gName i)) s2 D σ H := h1 _ h2
theorem seq_cut (C : L2.St → Hp → Prop) (h1 : ∀ N : L2.St → Hp → Prop, (∀ σ' H', C σ' H' → N σ' H') → s1 { D with nx := N } σ H) (h2 : ∀ σ' H', C σ' H' → s2 D σ' H') : tSeq s1 s2 D σ H := h1 _ h2
end
/-! ### keywords -/
def kg {α : Type} (d : α) (a b : Nat) (perm : List Nat) (us ws : List α) : List α := if us.length = a ∧ ws.length = b then perm.map fun i => (us ++ ws).getD i d else []
theorem vals_getD : ∀ {vs : List V} {us : List Value}, Vals vs us → ∀ i, RelV (vs.getD i .non) (us.getD i .none)
  | [], [], .nil, _ => rfl
  | _ :: _, _ :: _, .cons h _, 0 => h
  | _ :: _, _ :: _, .cons _ r, i + 1 => vals_getD r i
theorem vals_perm {vs : List V} {us : List Value} (r : Vals vs us) : ∀ p : List Nat, Vals (p.map fun i => vs.getD i .non) (p.map fun i => us.getD i .none)
  | [] => .nil
  | i :: p => .cons (vals_getD r i) (vals_perm r p)
theorem kg_rel {a b : Nat} {p : List Nat} {vs : List V} {us : List Value} {zs : List V} {ws : List Value} (r : Vals vs us) (z : Vals zs ws) : Vals (kg .non a b p vs zs) (kg .none a b p us ws) := by
  unfold kg
  rw [r.length, z.length]
  split
  · exact vals_perm (r.append z) p
  · exact .nil
theorem kg_mk {K : PySem.W.Frag} {fd : FuncData} {q : Str} {ps ks : List Str} {a b : Nat} {p : List Nat} (h : ∀ us ws : List Value, us.length = a → ws.length = b → bindArgs fd ⟨us, ks.zip ws⟩ = pure ((q :: ps).zip (p.map fun i => (us ++ ws).getD i .none))) :
    KBinds K fd (q :: ps) ks (kg .none a b p) (kg .non a b p) := by
  refine ⟨fun s us ws _ hl => ?_, kg_rel⟩
  unfold kg at hl ⊢
  split at hl
  · next c =>
    rw [if_pos c]
    exact .of_eq (h us ws c.1 c.2)
  · cases hl
theorem fun_okN {P : Program} {w : World} {K : PySem.W.Frag} {mg : Str → Option Value} {base : Heap} {CX : CXT} {k : Nat} {f : Addr} {fd : FuncData} {ps : List Str} {sp : Sp} {x qual : Str} {st : Stmt} {N : List Str} (F : Fun K x qual st f fd) (S : FnScope N ps (defScope st)) (size : ∀ vs H Q E, sp vs H Q E → vs.length = ps.length)
    (body : ∀ (cdv : Value) (A : Around) (outer : List Env) (s : Shared) (H : Hp) (vs : List V) (Q : VK) (E : XK), G0 (A.deeper (envOfC qual (defScope st) s.heap.objs.size f cdv)) → Room k (A.deeper (envOfC qual (defScope st) s.heap.objs.size f cdv)) → sp vs H Q E →
      ∃ t, PSs (cxOf CX P w K mg base N qual (defScope st) f cdv A outer s H E).nox (defBody st) t ∧ t { nx := fun _ H' => Q .non H', rt := Q } (start N vs) H) : FnG P w K mg base CX (k + 1) f fd ps sp :=
  fun_okG F S size fun cdv A outer s H vs Q E hG hr h => let ⟨t, d, q⟩ := body cdv A outer s H vs Q E hG hr h; ⟨t, d.nox, q⟩
theorem Fun.kb {K : PySem.W.Frag} {x qual q : Str} {st : Stmt} {f : Addr} {fd : FuncData} {ps ks : List Str} {a b : Nat} {p : List Nat} (F : Fun K x qual st f fd)
    (h : ∀ (kV doc pm : Value) (an : Option Addr) (cdv ct : Value) (us ws : List Value), us.length = a → ws.length = b → bindArgs (PySem.W.fnOf x qual (defArgs st) (defBody st) (defScope st) .none kV doc pm an cdv ct) ⟨us, ks.zip ws⟩ = pure ((q :: ps).zip (p.map fun i => (us ++ ws).getD i .none))) :
    KBinds K fd (q :: ps) ks (kg .none a b p) (kg .non a b p) := by
  obtain ⟨oc, od, kV, doc, pm, an, cdv, ct, osl, rfl, lk, hcd⟩ := F.ex
  exact kg_mk (h kV doc pm an cdv ct)
section
variable {X : Cx} {CX : CXT} {k : Nat} {f : Addr} {fd : FuncData} {ps ks : List Str} {sp : Sp} {E : XK} {x : Str} {p pos : Pos} {e : Expr} {es : List Expr} {kws : List Keyword} {t tk : TA} {g : List Value → List Value → List Value} {gV : List V → List V → List V}
theorem pe_callK0 (F : FnOk X.prog X.w X.K X.mg X.base CX k f fd ps sp) (hr : Room k X.A) (hg : Gl X x) (hm : X.mg x = some (.ref f)) (hk : PySem.W.keepIn X.K (.ref f) = true) (hb : KBinds X.K fd ps ks g gV) (hx : Passes CX X E)
    (hkw : PK X kws tk) (hall : (backToKw pos (keywordEach kws X.env)).all (·.1.isSome) = true := by rfl) (hks : (backToKw pos (keywordEach kws X.env)).filterMap (·.1) = ks := by rfl)
    (hdb : (x == ("__debug__" : Str)) = false := by decide)
    (hpl : ((backTo pos (starEach [] X.env)).any (·.1) || (backToKw pos (keywordEach kws X.env)).any (·.1.isNone)) = false := by rfl) :
    PE X (.Call (.Name x p) [] kws pos) (tCallK sp gV E tNil tk) := by
  refine ⟨fun pins s σ H Q I h => ?_⟩
  refine wpAny_Call_Name_kw (ld_glob I hg hm ?_ hdb)
  refine PySem.W.callWith_KW0 (h₀ := X.base) I.ok.mod.kin hk hall (thn (hkw.run pos pins s σ H _ I h) fun ws s2 ⟨zs, H2, I2, rz, q2⟩ => ⟨I2.kIn, ?_⟩) hpl
  rw [hks]
  exact run_fnk F hr hb hx I2 .nil rz q2
theorem run_fnkG {pins : List (Addr × Obj)} {σ : L2.St} {H : Hp} {s : Shared} {Q : VK} {us ws : List Value} {vs zs : List V} (F : FnG X.prog X.w X.K X.mg X.base CX k f fd ps sp) (g0 : G0 X.A) (hr : Room k X.A) (hb : KBinds X.K fd ps ks g gV) (hx : Passes CX X E)
    (I : Inv X pins σ H s) (r : Vals vs us) (rz : Vals zs ws) (h : sp (gV vs zs) H Q E) : wpAny (model X.prog X.w) X.A (call (.ref f) us (ks.zip ws)) (EP X pins σ Q) X.xe s := by
  have r2 := hb.rel r rz
  have hl : (g us ws).length = ps.length := by rw [← r2.length]; exact F.size _ _ _ _ h
  refine wpAny_call (codeAny_mono (F.go X.A X.stack s H ⟨us, ks.zip ws⟩ (g us ws) (gV vs zs) Q E g0 hr I.env0 (hb.to s us ws I.kIn hl) r2 h) fun r s' hq => ?_)
  cases r with
  | error e => exact hx pins σ H s e s' I hq
  | ok fl =>
    cases fl with
    | ret u => exact I.after hq
    | next => exact False.elim hq
    | brk => exact False.elim hq
    | cont => exact False.elim hq
theorem pe_callKG (F : FnG X.prog X.w X.K X.mg X.base CX k f fd ps sp) (g0 : G0 X.A) (hr : Room k X.A) (hg : Gl X x) (hm : X.mg x = some (.ref f)) (hk : PySem.W.keepIn X.K (.ref f) = true) (hb : KBinds X.K fd ps ks g gV) (hx : Passes CX X E)
    (ha : PA X (e :: es) t) (hkw : PK X kws tk) (hall : (backToKw pos (keywordEach kws X.env)).all (·.1.isSome) = true := by rfl) (hks : (backToKw pos (keywordEach kws X.env)).filterMap (·.1) = ks := by rfl)
    (hdb : (x == ("__debug__" : Str)) = false := by decide) (he : starEach (e :: es) X.env = (false, eval e X.env) :: starEach es X.env := by rfl)
    (hpl : ((backTo pos (starEach (e :: es) X.env)).any (·.1) || (backToKw pos (keywordEach kws X.env)).any (·.1.isNone)) = false := by rfl) :
    PE X (.Call (.Name x p) (e :: es) kws pos) (tCallK sp gV E t tk) := by
  refine ⟨fun pins s σ H Q I h => ?_⟩
  refine wpAny_Call_Name_kw (ld_glob I hg hm ?_ hdb)
  refine PySem.W.callWith_KW (h₀ := X.base) I.ok.mod.kin hk hall (thn (ha.run pos pins s σ H _ I h) fun us s1 ⟨vs, H1, I1, r, q⟩ => ?_) hpl he
  refine thn (hkw.run pos pins s1 σ H1 _ I1 q) fun ws s2 ⟨zs, H2, I2, rz, q2⟩ => ⟨I2.kIn, ?_⟩
  rw [hks]
  exact run_fnkG F g0 hr hb hx I2 r rz q2
end
end BC

set_option Elab.async false
set_option linter.all false
set_option maxRecDepth 100000
set_option maxHeartbeats 4000000
/-! xs[:] = ys -/
namespace BC
open PySem PySem.Spec PyProof.Rows L2 Evl
theorem bounds_all (n : Nat) : sliceBounds none none none n = (((0 : Nat) : Int), ((n : Nat) : Int), 1) := by
  simp [sliceBounds]
section
variable {prog : Program} {w : World} {A : Around} {s : Shared} {E : Value → Shared → Prop}
theorem setItem_all {l b sl : Addr} {items new : Array Value} {n n2 : Nat} {vl vu : Value} {Q : Unit → Shared → Prop}
    (e : s.heap.get? l = some { cls := .type "list", data := .seq items n }) (e2 : s.heap.get? b = some { cls := .type "list", data := .seq new n2 }) (hne : l ≠ b)
    (hs : s.heap.IsSliceOf sl vl vu .none) (pl : IsPart vl none) (pu : IsPart vu none)
    (hsz : items.size + new.size ≤ sizeLine) (h : Q () { s with heap := s.heap.update l (Obj.mapSeq fun xs => xs.extract 0 0 ++ new ++ xs.extract items.size xs.size) }) :
    wpAny (model prog w) A (setItem (.ref l) (.ref sl) (.ref b)) Q E s := by
  have hl : s.heap.IsList l items := PySem.IsL.isList e
  have hb : s.heap.IsList b new := PySem.IsL.isList e2
  obtain ⟨os, hos, hcs, hds⟩ := id hs
  have hTs : s.TypeIs (.ref sl) "slice" := ⟨os, hos, hcs⟩
  have hstep : ¬ ((rawPart none == rawInt 0) = true) := Bool.false_ne_true
  have hsame : Builtin.List.listSameRef (.ref l) (.ref b) = false := by
    unfold Builtin.List.listSameRef
    exact beq_eq_false_iff_ne.mpr hne
  have hmax : (max ((0 : Nat) : Int) ((items.size : Nat) : Int)).toNat = items.size := by omega
  have hz' : ((fun xs : Array Value => xs.extract 0 0 ++ new ++ xs.extract items.size xs.size) items).size ≤ sizeLine + 1 := by
    simp only [Array.size_append, Array.size_extract]
    omega
  unfold setItem
  try with_reducible refine wpAny_holding ?_
  first | refine wpAny_bind (wpAny_pure ?_) | skip
  refine wpAny_bind (wpAny_sequenceKey hl.typeIs (by decide) ?_)
  refine wpAny_bind (wpAny_callSpecial?_slot (name := Str.ofString "__setitem__") hl.typeIs slot_list_setitem
    (wpAny_call_entry slot_list_setitem hl.typeIs entry_list_setitem ?_ (args_list_setitem _ _ _)))
  show wpAny _ _ (Builtin.List.listSubscript? (.ref sl) >>= _) _ _ s
  refine wpAny_bind ?_
  unfold Builtin.List.listSubscript?
  refine wpAny_bind (wpAny_specialOf hTs slice_no_index ?_)
  simp only [Option.isNone_none, if_true]
  refine wpAny_pure ?_
  show wpAny _ _ (typeOf (.ref sl) >>= _) _ _ s
  refine wpAny_bind (wpAny_typeOf hTs ?_)
  first
    | rw [if_neg (by decide)]
    | refine PySem.W.KFB.if_not (by decide) ?_
  rw [listSliceParts_eq]
  refine wpAny_bind (wpAny_bind (wpAny_field hos hds (x := .none) rfl (wpAny_bind (wpAny_listPart .none ?_))))
  rw [if_neg hstep]
  refine wpAny_bind (wpAny_field hos hds (x := vl) rfl (wpAny_bind (wpAny_listPart pl ?_)))
  refine wpAny_bind (wpAny_field hos hds (x := vu) rfl (wpAny_bind (wpAny_listPart pu (wpAny_pure ?_))))
  first
    | simp only [hsame, Bool.false_eq_true, if_false]
    | refine PySem.W.KFB.if_not hsame ?_
    | (dsimp only
       rw [if_neg (by rw [hsame]; exact Bool.false_ne_true)])
  refine wpAny_bind (m := Builtin.List.listAllItems (.ref b) "must assign iterable to extended slice") ?_
  unfold Builtin.List.listAllItems
  refine wpAny_bind (wpAny_typeOf hb.typeIs ?_)
  first
    | refine PySem.W.KFB.if_so (by decide) ?_
    | rw [if_pos (by decide)]
    | simp only [beq_self_eq_true, Bool.true_or, if_true]
  unfold Builtin.List.listItems
  refine wpAny_bind (wpAny_seqItems e2 rfl (wpAny_pure ?_))
  refine wpAny_bind (wpAny_bind (wpAny_seqItems e rfl (wpAny_pure ?_)))
  refine wpAny_bind (wpAny_of_eq ((sliceIndices_raw none none none items.size (by simp)).trans (congrArg (pure : Int × Int × Int → Sem (Int × Int × Int)) (bounds_all items.size))) ?_)
  show wpAny _ _ (if ((1 : Int) == 1) = true then _ else _) _ _ s
  rw [if_pos (by decide)]
  refine wpAny_bind (wpAny_rule ?_)
  first
    | simp only [notLongL hsz, Bool.false_eq_true, if_false]
    | refine PySem.W.KFB.if_not (notLongL hsz) ?_
  first | refine wpAny_bind (wpAny_pure ?_) | skip
  show wpAny _ _ (updateSeq l (fun xs => xs.extract 0 ((0 : Nat) : Int).toNat ++ new ++ xs.extract (max ((0 : Nat) : Int) ((items.size : Nat) : Int)).toNat xs.size) >>= _) _ _ s
  rw [hmax, Int.toNat_natCast]
  refine wpAny_bind (wpAny_updateSeq (hz := Nat.le_trans (Nat.le_add_right _ _) hsz) (_hz' := hz') e rfl ?_)
  refine wpAny_bind (wpAny_letGo ?_)
  first
    | exact wpAny_bind (wpAny_pure (wpAny_pure ⟨.none, rfl, wpAny_pure h⟩))
    | exact wpAny_pure ⟨.none, rfl, wpAny_pure h⟩
end
section
variable {X : Cx} {o e : Expr} {to : TE} {p2 pos : Pos}
/-- o[:] = v, both lists -/
def gAll (to : TE) : TG := fun v σ H QG => to σ H fun x H1 => ∃ a b xs ys, x = .ref a ∧ v = .ref b ∧ a ≠ b ∧ H1 a = some (.lst xs) ∧ H1 b = some (.lst ys) ∧ xs.length + ys.length ≤ sizeLine ∧ QG σ (upd H1 a (.lst ys))
theorem set_all {pins : List (Addr × Obj)} {s : Shared} {σ : L2.St} {H : Hp} {l b sl : Addr} {xs ys : List V} {vl vu : Value} {Q : Unit → Shared → Prop} (I : Inv X pins σ H s)
    (hH : H l = some (.lst xs)) (hB : H b = some (.lst ys)) (hne : l ≠ b) (hs : s.heap.IsSliceOf sl vl vu .none) (pl : IsPart vl none) (pu : IsPart vu none)
    (hz : xs.length + ys.length ≤ sizeLine) (h : ∀ s', Inv X pins σ (upd H l (.lst ys)) s' → Q () s') :
    wpAny (model X.prog X.w) X.A (setItem (.ref l) (.ref sl) (.ref b)) Q X.xe s := by
  obtain ⟨z, its, n, r, hl, e⟩ := I.lstM hH
  obtain ⟨z2, its2, n2, r2, hl2, e2⟩ := I.lstM hB
  refine setItem_all e e2 hne hs pl pu (by rw [List.size_toArray, List.size_toArray]; omega) (h _ ?_)
  refine I.lset (its' := its2) (t' := s.toks) hH e ?_ r2 (by omega)
  simp
theorem pg_all (ho : PE X o to)
    (ha0 : ∀ v, assign (.Subscript o (.Slice none none none p2) pos) X.env v = (do
      let ov ← holding [v] (eval o X.env)
      let iv ← holding [v, ov] (eval (.Slice none none none p2) X.env)
      standAt pos
      holding [v, ov, iv] (setItem ov iv v)
      release [iv, v, ov] []) := by intro _; rfl) : PG X (.Subscript o (.Slice none none none p2) pos) (gAll to) := by
  refine ⟨fun pins s σ H v u Q I r h => ?_⟩
  rw [ha0]
  refine wpAny_bind (wpAny_holding (thn (ho.run pins s σ H _ I h) fun ov s1 ⟨x, H1, I1, r1, q1⟩ => ?_))
  obtain ⟨a, b, xs, ys, rfl, rfl, hne, ha, hb, hz, q⟩ := q1
  cases r1
  cases r
  refine wpAny_bind (wpAny_holding ?_)
  refine wpAny_Slice ?_
  rw [evalPart_none]
  refine wpAny_pure ?_
  refine wpAny_pure ?_
  refine wpAny_pure ?_
  have I4 : Inv X pins σ H1 { s1 with heap := s1.heap.push { cls := .type "slice", data := .fields #[.none, .none, .none] } } := I1.kept (t' := s1.toks) fun b ob q => Heap.get?_push_of_some _ q
  refine wpAny_bind (wpAny_standAt (wpAny_bind (wpAny_holding ?_)))
  refine set_all I4 ha hb hne (Heap.IsSliceOf.new ..) .none .none hz fun s' I5 => ?_
  exact wpAny_release ⟨σ, _, I5, q⟩
def rDivmod : List V → Hp → VK → Prop := fun xs H Q => ∃ i j, xs = [.int i, .int j] ∧ CDivW i j ∧ ∀ p, H p = none → Q (.ref p) (upd H p (.tup [.int (i / j), .int (i % j)]))
theorem call_dmX : CallR X (.builtin "divmod") rDivmod := by
  intro pins s σ H xs us Q I r h
  obtain ⟨i, j, rfl, hc, q⟩ := h
  obtain ⟨u, u2, rfl, ⟨t, rfl⟩, ⟨t2, rfl⟩⟩ := vals2 r
  have pos : 0 < j := hc.1
  have new := I.hok.fresh (Nat.le_refl s.heap.objs.size)
  refine divmod_int (by omega) ?_ (.inl (PyProof.noPylong_of_log2 hc.2))
  rw [Int.fdiv_eq_ediv_of_nonneg i (by omega), Int.fmod_eq_emod_of_nonneg i (by omega)]
  refine ⟨.ref s.heap.objs.size, _, ?_, rfl, q _ new⟩
  refine I.laid (fun b o e => Heap.get?_push_of_some _ e) (Nat.le_refl _) ⟨?_, [.int (i / j) s.toks, .int (i % j) (s.toks + 1)], .cons ⟨_, rfl⟩ (.cons ⟨_, rfl⟩ .nil), ?_⟩
  · exact Evl.sz_of (by simp)
  · exact ⟨_, Heap.get?_push_size s.heap rfl, rfl, 0, rfl⟩
theorem x_gall {σ : L2.St} {H : Hp} {v : V} {QG : L2.St → Hp → Prop} : gAll to v σ H QG = to σ H fun x H1 => ∃ a b xs ys, x = .ref a ∧ v = .ref b ∧ a ≠ b ∧ H1 a = some (.lst xs) ∧ H1 b = some (.lst ys) ∧ xs.length + ys.length ≤ sizeLine ∧ QG σ (upd H1 a (.lst ys)) := rfl
end
end BC

set_option Elab.async false
set_option linter.all false
set_option maxRecDepth 100000
set_option maxHeartbeats 4000000
/-! comprehensions that change what stands, or whose values are chosen as they come -/
namespace BC
open PySem PySem.Spec PyProof.Rows L2 Evl
section
variable {K : PySem.W.Frag} {σ : L2.St} {H1 : Hp} {g : TG} {te : TE} {vs : List Nat} {Dl : Addr} {Q : VK}
theorem lc_rngE {lo : Int} {n : Nat} (Pv : Nat → Hp → Prop) (h0 : Pv 0 (upd H1 Dl (.lst [])))
    (hs : ∀ i H, i < n → Pv i H → g (.int (lo + i)) (wipe σ vs) H fun σ2 H2 => wipe σ2 vs = wipe σ vs ∧ te σ2 H2 fun y H4 => ∃ acc, H4 Dl = some (.lst acc) ∧ acc.length < sizeLine ∧ Pv (i + 1) (upd H4 Dl (.lst (acc ++ [y]))))
    (hd : ∀ H, Pv n H → Q (.ref Dl) H) : LcG (Itr lo n) g tYes te vs σ Dl H1 Q := by
  refine lc_g n Pv h0 (fun H h => Nat.le_refl _) (fun i H hi h => hi) (fun i H x H' hi h y => ?_) hd
  obtain ⟨rfl, rfl⟩ := y
  have q := hs i _ hi h
  exact q
theorem lc_listE {a : Addr} {xs : List V} (Pv : Nat → Hp → Prop) (h0 : Pv 0 (upd H1 Dl (.lst []))) (hl : ∀ i H, i ≤ xs.length → Pv i H → SqL K H a xs)
    (hs : ∀ i x H, xs[i]? = some x → Pv i H → g x (wipe σ vs) H fun σ2 H2 => wipe σ2 vs = wipe σ vs ∧ te σ2 H2 fun y H4 => ∃ acc, H4 Dl = some (.lst acc) ∧ acc.length < sizeLine ∧ Pv (i + 1) (upd H4 Dl (.lst (acc ++ [y]))))
    (hd : ∀ H, Pv xs.length H → Q (.ref Dl) H) : LcG (Itl K a) g tYes te vs σ Dl H1 Q := by
  refine lc_g xs.length Pv h0 (fun H h => ⟨xs, hl _ H (Nat.le_refl _) h, Nat.le_refl _⟩) (fun i H hi h => ⟨xs, xs[i], hl i H (by omega) h, List.getElem?_eq_getElem hi⟩) (fun i H x H' hi h y => ?_) hd
  obtain ⟨rfl, hf⟩ := y
  exact hs i x _ (hf xs (hl i _ (by omega) h)) h
end
/-- a fourfold tuple unpacked -/
theorem g_four {K : PySem.W.Frag} {σ : L2.St} {H : Hp} {i j l m : Nat} {T : Addr} {x y z u : V} {QG : L2.St → Hp → Prop} (h : H T = some (.tup [x, y, z, u])) (q : QG ((((σ.set i (some x)).set j (some y)).set l (some z)).set m (some u)) H) : gTup K 4 (gCons (gName i) (gCons (gName j) (gCons (gName l) (gCons (gName m) gNil)))) (.ref T) σ H QG :=
  ⟨T, [x, y, z, u], rfl, .inl (.inl h), rfl, x, [y, z, u], rfl, y, [z, u], rfl, z, [u], rfl, u, [], rfl, rfl, q⟩
theorem revL {H : Hp} {Q : VK} {p : Addr} {xs : List V} (h : H p = some (.lst xs)) (q : Q .non (upd H p (.lst xs.reverse))) : rReverse (.ref p) [] H Q := ⟨p, xs, rfl, rfl, h, q⟩
theorem Sh.mono {n m : Nat} {d : PyData} (h : Sh n d) (e : n ≤ m) : Sh m d := by
  induction h generalizing m with
  | non n => exact .non m
  | bl n b => exact .bl m b
  | int n i => exact .int m i
  | str n x => exact .str m x
  | @lst n ds hl h ih =>
    cases m with
    | zero => omega
    | succ m => exact .lst hl fun d hd => ih d hd (by omega)
  | @tup n ds hl h ih =>
    cases m with
    | zero => omega
    | succ m => exact .tup hl fun d hd => ih d hd (by omega)
end BC

set_option Elab.async false
set_option linter.all false
set_option maxRecDepth 100000
set_option maxHeartbeats 4000000
/-! visits and their trails, lists of numbers, their repr -/
namespace BC
open PySem PySem.Spec PyProof.Rows L2 Evl
/-! ### data whose repr is short -/
structure Tm (d : PyData) : Prop where
  s : d.showable = true
  n : d.hasDict = false
  l : d.leavesShort 13 = true
theorem Tm.int {i : Int} (h : i.natAbs < 10 ^ 12) : Tm (.int i) := ⟨by
  show decide (i.natAbs.log2 < 1920) = true
  refine decide_eq_true ?_
  by_cases z : i.natAbs = 0
  · rw [z]; decide
  · exact (Nat.log2_lt z).mpr (Nat.lt_of_lt_of_le h (by decide +kernel)), rfl, by
  show decide (_ ≤ 13) = true
  exact decide_eq_true (PyData.shown_int_le h)⟩
theorem Tm.all {ds : List PyData} (h : ∀ d ∈ ds, Tm d) : PyData.showableAll ds = true ∧ PyData.hasDictAll ds = false ∧ PyData.leavesShortAll 13 ds = true := by
  induction ds with
  | nil => exact ⟨rfl, rfl, rfl⟩
  | cons d ds ih =>
    have a := h d List.mem_cons_self
    obtain ⟨b1, b2, b3⟩ := ih fun e m => h e (List.mem_cons_of_mem _ m)
    refine ⟨?_, ?_, ?_⟩
    · show (d.showable && _) = true
      rw [a.s, b1]; rfl
    · show (d.hasDict || _) = false
      rw [a.n, b2]; rfl
    · show (d.leavesShort 13 && _) = true
      rw [a.l, b3]; rfl
theorem Tm.list {ds : List PyData} (h : ∀ d ∈ ds, Tm d) : Tm (.list ds) := ⟨by simp only [PyData.showable]; exact (Tm.all h).1, by simp only [PyData.hasDict]; exact (Tm.all h).2.1, by simp only [PyData.leavesShort]; exact (Tm.all h).2.2⟩
theorem Tm.tuple {ds : List PyData} (h : ∀ d ∈ ds, Tm d) : Tm (.tuple ds) := ⟨by simp only [PyData.showable]; exact (Tm.all h).1, by simp only [PyData.hasDict]; exact (Tm.all h).2.1, by simp only [PyData.leavesShort]; exact (Tm.all h).2.2⟩
theorem wt_int {i : Int} (h : i.natAbs < 2 ^ 40) : (PyData.int i).weight ≤ 40 := by
  simp only [PyData.weight]
  split
  · omega
  · next z =>
    have z0 : i.natAbs ≠ 0 := fun e => z (by rw [Int.natAbs_eq_zero.mp e]; rfl)
    have := (Nat.log2_lt z0).mpr h
    omega
theorem wt_all {ds : List PyData} {n : Nat} (h : ∀ d ∈ ds, d.weight ≤ n) : PyData.weightAll ds ≤ (n + 1) * ds.length := by
  induction ds with
  | nil => simp [PyData.weightAll]
  | cons d ds ih =>
    have a := h d List.mem_cons_self
    have b := ih fun e m => h e (List.mem_cons_of_mem _ m)
    simp only [PyData.weightAll, List.length_cons, Nat.mul_add]
    omega
theorem dep_all {ds : List PyData} {n : Nat} (h : ∀ d ∈ ds, d.depth ≤ n) : PyData.depthAll ds ≤ n := by
  induction ds with
  | nil => simp [PyData.depthAll]
  | cons d ds ih =>
    have a := h d List.mem_cons_self
    have b := ih fun e m => h e (List.mem_cons_of_mem _ m)
    simp only [PyData.depthAll]
    omega
section
variable {K : PySem.W.Frag} {H : Hp} {Q : VK} {a : Addr}
theorem reprX {d : PyData} (h : Dp K H (.ref a) d) (t : Tm d) (dp : d.depth ≤ 60) (wt : d.weight ≤ 2 ^ 20) (q : Q (.str d.shown) H) : rRepr K [.ref a] H Q :=
  ⟨a, d, rfl, h, t.s, dp, t.n, PyData.shown_fits (B := 13) (by decide) (by decide) t.l wt, q⟩
/-- what repr of a list of numbers says -/
def shInts (ns : List Int) : Str := (PyData.list (ns.map PyData.int)).shown
theorem reprInts {ns : List Int} (h : SqL K H a (ns.map V.int)) (hs : ∀ n ∈ ns, n.natAbs < 10 ^ 12) (hl : ns.length ≤ 20000) (q : Q (.str (shInts ns)) H) : rRepr K [.ref a] H Q := by
  refine reprX (.lst h (dp_ints ns)) (.list fun d m => ?_) ?_ ?_ q
  · obtain ⟨n, hn, rfl⟩ := List.mem_map.mp m
    exact .int (hs n hn)
  · simp only [PyData.depth]
    have := dep_all (ds := ns.map PyData.int) (n := 0) fun d m => by
      obtain ⟨n, hn, rfl⟩ := List.mem_map.mp m
      simp [PyData.depth]
    omega
  · simp only [PyData.weight]
    have := wt_all (ds := ns.map PyData.int) (n := 40) fun d m => by
      obtain ⟨n, hn, rfl⟩ := List.mem_map.mp m
      exact wt_int (Nat.lt_of_lt_of_le (hs n hn) (by decide +kernel))
    rw [List.length_map] at this
    omega
/-! ### in, index, a part of a list of numbers -/
theorem flat_ints (ns : List Int) : (ns.map V.int).all flatV = true := by
  rw [List.all_eq_true]
  intro x hx
  obtain ⟨n, _, rfl⟩ := List.mem_map.mp hx
  rfl
theorem inV_ints (p : Int) (ns : List Int) : inV (.int p) (ns.map V.int) = decide (p ∈ ns) := by
  unfold inV
  rw [List.any_map]
  by_cases h : p ∈ ns
  · rw [decide_eq_true h, List.any_eq_true]
    exact ⟨p, h, by simp [eqV]⟩
  · rw [decide_eq_false h, List.any_eq_false]
    intro x hx
    have : x ≠ p := fun e => h (e ▸ hx)
    simp [eqV, this]
theorem inL {p : Int} {ns : List Int} (h : SqL K H a (ns.map V.int)) (q : Q (.bl (decide (p ∈ ns))) H) : rIn K false (.int p) (.ref a) H Q :=
  ⟨a, _, rfl, .inl h, rfl, flat_ints ns, by rw [inV_ints]; exact q⟩
theorem ninL {p : Int} {ns : List Int} (h : SqL K H a (ns.map V.int)) (q : Q (.bl (!decide (p ∈ ns))) H) : rIn K true (.int p) (.ref a) H Q :=
  ⟨a, _, rfl, .inl h, rfl, flat_ints ns, by rw [inV_ints]; exact q⟩
theorem idxL {p : Int} {ns : List Int} (h : SqL K H a (ns.map V.int)) (hp : p ∈ ns) (q : Q (.int (ns.idxOf p : Nat)) H) : rIndex K (.ref a) [.int p] H Q := by
  have hl := List.idxOf_lt_length_of_mem hp
  refine ⟨a, _, _, ns.idxOf p, .int p, rfl, rfl, h, rfl, flat_ints ns, ?_, by simp [eqV], fun m z hm hz => ?_, q⟩
  · rw [List.getElem?_map, List.getElem?_eq_getElem hl, List.getElem_idxOf hl]
    rfl
  · rw [List.getElem?_map] at hz
    have hml : m < ns.length := by omega
    rw [List.getElem?_eq_getElem hml] at hz
    cases hz
    have ne : ns[m] ≠ p := fun e => by
      have := List.not_of_lt_findIdx (p := fun x => x == p) (xs := ns) hm
      simp [e] at this
    simp [eqV, ne]
/-- numbers that are kept -/
theorem kept_ints (n : Nat) (k : Nat → Bool) (f : Nat → Int) : ∃ fr : List Int, kept n k (fun i => V.int (f i)) = fr.map V.int ∧ (∀ x ∈ fr, ∃ i, i < n ∧ k i = true ∧ x = f i) ∧ (fr = [] → ∀ i, i < n → k i = false) := by
  induction n with
  | zero => exact ⟨[], rfl, fun x h => (List.not_mem_nil h).elim, fun _ i h => by omega⟩
  | succ n ih =>
    obtain ⟨fr, h1, h2, h3⟩ := ih
    cases c : k n with
    | true =>
      refine ⟨fr ++ [f n], by rw [kept_yes c, h1, List.map_append]; rfl, fun x h => ?_, fun e => by simp at e⟩
      rcases List.mem_append.mp h with h | h
      · obtain ⟨i, a, b⟩ := h2 x h
        exact ⟨i, by omega, b⟩
      · exact ⟨n, by omega, c, List.mem_singleton.mp h⟩
    | false =>
      refine ⟨fr, by rw [kept_no c, h1], fun x h => ?_, fun e i hi => ?_⟩
      · obtain ⟨i, a, b⟩ := h2 x h
        exact ⟨i, by omega, b⟩
      · by_cases q : i = n
        · rw [q]; exact c
        · exact h3 e i (by omega)
theorem rgV_ints (a b : Int) : rgV a b = ((List.range (b - a).toNat).map fun i => a + ((i : Nat) : Int)).map V.int := by
  unfold rgV
  rw [List.map_map]
  rfl
theorem shp_ints (ns : List Int) : SeqAt.shaped (.list (ns.map PyData.int)) = true := by
  have h1 : ∀ ns : List Int, PyData.canLayAll0 (ns.map PyData.int) = true := fun ns => by
    induction ns with
    | nil => simp [PyData.canLayAll0]
    | cons n ns ih => simp [PyData.canLayAll0, PyData.canLay0, ih]
  have h2 := dep_all (ds := ns.map PyData.int) (n := 0) fun d m => by
      obtain ⟨n, hn, rfl⟩ := List.mem_map.mp m
      simp [PyData.depth]
  show (PyData.canLay0 _ && decide (PyData.depth _ ≤ 64)) = true
  rw [Bool.and_eq_true]
  refine ⟨?_, decide_eq_true ?_⟩
  · simp only [PyData.canLay0]; exact h1 ns
  · simp only [PyData.depth]; omega
theorem eqv_ints : ∀ ns ms : List Int, PyData.eqv (.list (ns.map PyData.int)) (.list (ms.map PyData.int)) = decide (ns = ms) := fun ns ms => by
  simp only [PyData.eqv]
  induction ns generalizing ms with
  | nil => cases ms <;> simp [PyData.eqvAll]
  | cons n ns ih =>
    cases ms with
    | nil => simp [PyData.eqvAll]
    | cons m ms =>
      simp only [List.map_cons, PyData.eqvAll, PyData.eqv, ih]
      by_cases h : n = m
      · subst h; simp
      · simp [h]
theorem eqInts {b : Addr} {ns ms : List Int} (h : SqL K H a (ns.map V.int)) (g : SqL K H b (ms.map V.int)) (q : Q (.bl (decide (ns = ms))) H) : rEqD K (.ref a) (.ref b) H Q :=
  ⟨_, _, .lst h (dp_ints ns), .lst g (dp_ints ms), shp_ints ns, shp_ints ms, by rw [eqv_ints]; exact q⟩
theorem neInts {b : Addr} {ns ms : List Int} (h : SqL K H a (ns.map V.int)) (g : SqL K H b (ms.map V.int)) (q : Q (.bl (!decide (ns = ms))) H) : rNeD K (.ref a) (.ref b) H Q :=
  ⟨_, _, .lst h (dp_ints ns), .lst g (dp_ints ms), shp_ints ns, shp_ints ms, by rw [eqv_ints]; exact q⟩
theorem pickI {ns : List Int} {r : Int} (h0 : 0 ≤ r) (h1 : r < ns.length) : ∃ n, n ∈ ns ∧ atI (ns.map V.int) r = some (.int n) := by
  obtain ⟨v, hv, e⟩ := pick (xs := ns.map V.int) h0 (by rw [List.length_map]; exact h1)
  obtain ⟨n, hn, rfl⟩ := List.mem_map.mp hv
  exact ⟨n, hn, e⟩
theorem cut_to (xs : List V) {i : Int} {j : Nat} (e : i = (j : Int)) (h : j ≤ xs.length) : cutV xs none (some i) = xs.take j := by
  subst e
  unfold cutV
  have e1 : HT.sIx xs.length 0 none = 0 := rfl
  rw [HT.sIx_nat, e1, List.drop_zero, Nat.sub_zero, Nat.min_eq_left h]
theorem slL {lo hi : Option Int} {xs : List V} (h : SqL K H a xs) (q : ∀ p, H p = none → Q (.ref p) (upd H p (.lst (cutV xs lo hi)))) : rSlL K (.ref a) lo hi H Q := ⟨a, xs, rfl, h, q⟩
theorem tyLL {xs : List V} (h : SqL K H a xs) : tyV K "list" (.ref a) H := Or.inl ⟨rfl, _, h⟩
end
end BC
namespace TR
/-! ### trails -/
def Pg (w : Int) (l : List Int) : Prop := ∀ x ∈ l, 0 ≤ x ∧ x < w
def vis (t : List Int) (p : Int) : List Int := if p ∈ t then t.take (t.idxOf p + 1) else t ++ [p]
def trl (row : List Int) : List Int := row.foldl vis []
/-- the lengths of the trails -/
def lens (row : List Int) : List Int := (List.range row.length).map fun i => ((trl (row.take (i + 1))).length : Int)
theorem vis_mem {t : List Int} {p x : Int} (h : x ∈ vis t p) : x ∈ t ∨ x = p := by
  unfold vis at h
  split at h
  · exact .inl (List.mem_of_mem_take h)
  · simpa using h
theorem vis_nodup {t : List Int} {p : Int} (h : t.Nodup) : (vis t p).Nodup := by
  unfold vis
  split
  · exact h.sublist (List.take_sublist _ _)
  · next n =>
    rw [List.nodup_append]
    exact ⟨h, List.nodup_cons.mpr ⟨List.not_mem_nil, List.nodup_nil⟩, fun a ha b hb e => n (by simp at hb; rw [← hb, ← e]; exact ha)⟩
theorem vis_pos (t : List Int) (p : Int) : 1 ≤ (vis t p).length := by
  unfold vis
  split
  · next h =>
    have := List.idxOf_lt_length_of_mem h
    rw [List.length_take]; omega
  · rw [List.length_append, List.length_singleton]; omega
theorem vis_le (t : List Int) (p : Int) : (vis t p).length ≤ t.length + 1 := by
  unfold vis
  split
  · rw [List.length_take]; omega
  · rw [List.length_append, List.length_singleton]; omega
theorem vis_pg {w : Int} {t : List Int} {p : Int} (h : Pg w t) (h0 : 0 ≤ p) (h1 : p < w) : Pg w (vis t p) := fun x hx => by
  rcases vis_mem hx with h2 | rfl
  · exact h x h2
  · exact ⟨h0, h1⟩
theorem trl_snoc {row : List Int} {i : Nat} {p : Int} (h : row[i]? = some p) : trl (row.take (i + 1)) = vis (trl (row.take i)) p := by
  unfold trl
  rw [List.take_add_one, h, List.foldl_append]
  rfl
theorem fold_ok {w : Int} : ∀ {row t : List Int}, Pg w row → Pg w t → t.Nodup → Pg w (row.foldl vis t) ∧ (row.foldl vis t).Nodup
  | [], _, _, h2, h3 => ⟨h2, h3⟩
  | p :: row, t, h1, h2, h3 => fold_ok (row := row) (t := vis t p) (fun x hx => h1 x (List.mem_cons_of_mem _ hx)) (vis_pg h2 (h1 p List.mem_cons_self).1 (h1 p List.mem_cons_self).2) (vis_nodup h3)
theorem Pg.take {w : Int} {l : List Int} (h : Pg w l) (n : Nat) : Pg w (l.take n) := fun x hx => h x (List.mem_of_mem_take hx)
theorem Pg.mono {w v : Int} {l : List Int} (h : Pg w l) (e : w ≤ v) : Pg v l := fun x hx => ⟨(h x hx).1, by have := (h x hx).2; omega⟩
theorem Pg.at {w : Int} {l : List Int} (h : Pg w l) {i : Nat} {p : Int} (e : l[i]? = some p) : 0 ≤ p ∧ p < w := h p (List.mem_of_getElem? e)
theorem pg_nil (w : Int) : Pg w [] := fun _ m => (List.not_mem_nil m).elim
theorem trl_pg {w : Int} {row : List Int} (h : Pg w row) : Pg w (trl row) := (fold_ok h (pg_nil w) List.nodup_nil).1
theorem trl_nodup {w : Int} {row : List Int} (h : Pg w row) : (trl row).Nodup := (fold_ok h (pg_nil w) List.nodup_nil).2
/-- so many different pages at most -/
theorem nodup_len : ∀ (n : Nat) {l : List Int}, l.Nodup → Pg n l → l.length ≤ n
  | 0, [], _, _ => Nat.le_refl _
  | 0, x :: l, _, h => by have := h x List.mem_cons_self; omega
  | n + 1, l, h1, h2 => by
    by_cases m : ((n : Nat) : Int) ∈ l
    · have h3 := nodup_len n (l := l.erase (n : Int)) (h1.erase _) (fun x hx => by
        have a := h2 x (List.mem_of_mem_erase hx)
        have b : x ≠ (n : Int) := fun e => by
          rw [h1.mem_erase_iff] at hx
          exact hx.1 e
        omega)
      have := List.length_erase_of_mem m
      omega
    · have h3 := nodup_len n h1 (fun x hx => by
        have a := h2 x hx
        have b : x ≠ (n : Int) := fun e => m (e ▸ hx)
        omega)
      omega
theorem trl_len {n : Nat} {row : List Int} (h : Pg n row) : (trl row).length ≤ n := nodup_len n (trl_nodup h) (trl_pg h)
theorem lens_len (row : List Int) : (lens row).length = row.length := by unfold lens; rw [List.length_map, List.length_range]
theorem lens_at {row : List Int} {i : Nat} (h : i < row.length) : (lens row)[i]? = some ((trl (row.take (i + 1))).length : Int) := by
  unfold lens
  rw [List.getElem?_map, List.getElem?_range h]
  rfl
end TR

set_option Elab.async false
set_option linter.all false
set_option maxRecDepth 100000
set_option maxHeartbeats 4000000
/-! defs with one keyword-only parameter that has a default -/
namespace BC
open PySem PySem.Spec PyProof.Rows L2 Evl
theorem kwd1 {K : PySem.W.Frag} {x qual : Str} {st : Stmt} {f D : Addr} {ps : List Str} {nm : Str} {v : V} {u : Value} {n : Nat} {oc : Value} {od : Option Addr} {doc pm : Value} {an : Option Addr} {cdv ct : Value} {osl : Array (Option Value)}
    (lk : K.lookup f = some ⟨oc, od, .func (PySem.W.fnOf x qual (defArgs st) (defBody st) (defScope st) .none (.ref D) doc pm an cdv ct), osl⟩) (hcd : PySem.W.codeIn K cdv qual = true) (kp : PySem.W.keepIn K (.ref f) = true)
    (hq : PySem.W.nsIn K D nm = some (some u)) (hr : RelV v u) (hn : n + 1 = ps.length)
    (h : ∀ (D : Addr) (doc pm : Value) (an : Option Addr) (cdv ct : Value) (us ks : List Value), us.length = n → ks.length = 1 →
      KwChain D ([nm].zip ks) (bindArgs (PySem.W.fnOf x qual (defArgs st) (defBody st) (defScope st) .none (.ref D) doc pm an cdv ct) ⟨us, []⟩) (ps.zip (us ++ ks))) :
    ∃ ds, Vals [v] ds ∧ Binds K (PySem.W.fnOf x qual (defArgs st) (defBody st) (defScope st) .none (.ref D) doc pm an cdv ct) ps ds := by
  have F : FunD K x qual (defArgs st) (defBody st) (defScope st) [] [(nm, v)] f (PySem.W.fnOf x qual (defArgs st) (defBody st) (defScope st) .none (.ref D) doc pm an cdv ct) :=
    ⟨⟨oc, od, _, _, doc, pm, an, cdv, ct, osl, rfl, lk, hcd, .inl ⟨rfl, rfl⟩, .inr ⟨D, rfl, fun q hm => by
      obtain rfl : q = (nm, v) := by simpa using hm
      exact ⟨u, hq, hr⟩⟩⟩, kp⟩
  have z := F.binds0 n (by simp) (by simpa using hn) h
  exact z
/-! ### the bag of draws: a list of three numbers -/
def BagAt (H : Hp) (b : Addr) (c : Nat) : Prop := ∃ x0 x1 x2 : Int, H b = some (.lst [.int x0, .int x1, .int x2]) ∧ 0 ≤ x1 ∧ x1 < 10 ^ 65 ∧ 0 ≤ x2 ∧ x2 ≤ c
theorem BagAt.ex {H H' : Hp} {b : Addr} {c : Nat} (h : BagAt H b c) (e : Ex H H') : BagAt H' b c := by
  obtain ⟨x0, x1, x2, hb, r⟩ := h
  exact ⟨x0, x1, x2, e _ _ hb, r⟩
theorem BagAt.mono {H : Hp} {b : Addr} {c d : Nat} (h : BagAt H b c) (e : c ≤ d) : BagAt H b d := by
  obtain ⟨x0, x1, x2, hb, h1, h2, h3, h4⟩ := h
  exact ⟨x0, x1, x2, hb, h1, h2, h3, by omega⟩
theorem BagAt.some {H : Hp} {b : Addr} {c : Nat} (h : BagAt H b c) : ∃ o, H b = Option.some o := by
  obtain ⟨x0, x1, x2, hb, _⟩ := h
  exact ⟨_, hb⟩
theorem BagAt.apart {H : Hp} {b z : Addr} {c : Nat} (h : BagAt H b c) (nz : H z = none) : z ≠ b := fun e => by
  obtain ⟨o, ho⟩ := h.some
  subst e
  rw [ho] at nz
  cases nz
theorem BagAt.off {H : Hp} {b z : Addr} {c : Nat} {o : HO} (h : BagAt H b c) (nz : z ≠ b) : BagAt (upd H z o) b c := by
  obtain ⟨x0, x1, x2, hb, r⟩ := h
  exact ⟨x0, x1, x2, by rw [upd_ne (Ne.symm nz)]; exact hb, r⟩
theorem BagAt.ne {H : Hp} {b z : Addr} {c : Nat} (h : BagAt H b c) (nb : H z = none) : b ≠ z := fun e => h.apart nb e.symm
/-- the greatest number of ways that is drawn from -/
def BIG : Int := 2 ^ 2000
theorem big_of {m : Int} (h : m ≤ 100000) : m ≤ BIG := Int.le_trans h (by decide +kernel)
theorem big_lt {m : Int} (h : 0 < m) (h2 : m ≤ BIG) : m.natAbs < 2 ^ 2001 := by
  have a : m.natAbs ≤ BIG.natAbs := by omega
  exact Nat.lt_of_le_of_lt a (by decide +kernel)
def spDraw : Sp := fun vs H Q _ => ∃ (b : Addr) (m : Int) (c : Nat), vs = [.ref b, .int m] ∧ 0 < m ∧ m ≤ BIG ∧ BagAt H b c ∧ c ≤ 1000000 ∧ ∀ r H', 0 ≤ r → r < m → Fx b H H' → BagAt H' b (c + 1) → Q (.int r) H'
/-! ### lists of lists of numbers, shown -/
def dLL (ls : List (List Int)) : PyData := .list (ls.map fun l => .list (l.map PyData.int))
theorem tm_ints {l : List Int} (h : ∀ x ∈ l, x.natAbs < 10 ^ 12) : Tm (.list (l.map PyData.int)) := .list fun d m => by
  obtain ⟨x, hx, rfl⟩ := List.mem_map.mp m
  exact .int (h x hx)
theorem wt_ints {l : List Int} (h : ∀ x ∈ l, x.natAbs < 10 ^ 12) : (PyData.list (l.map PyData.int)).weight ≤ 41 * l.length := by
  simp only [PyData.weight]
  have := wt_all (ds := l.map PyData.int) (n := 40) fun d m => by
      obtain ⟨n, hn, rfl⟩ := List.mem_map.mp m
      exact wt_int (Nat.lt_of_lt_of_le (h n hn) (by decide +kernel))
  rw [List.length_map] at this
  exact this
theorem dp_ll {K : PySem.W.Frag} {H : Hp} {ps : List Addr} : ∀ {ls : List (List Int)}, ps.length = ls.length → (∀ (i : Nat) (p : Addr) (l : List Int), ps[i]? = some p → ls[i]? = some l → SqL K H p (l.map V.int)) → DpAll K H (ps.map V.ref) (ls.map fun l => PyData.list (l.map PyData.int)) := fun {ls} => by
  induction ps generalizing ls with
  | nil =>
    intro h _
    cases ls with
    | nil => exact .nil
    | cons l ls => simp at h
  | cons p ps ih =>
    intro h g
    cases ls with
    | nil => simp at h
    | cons l ls => exact .cons (.lst (g 0 p l rfl rfl) (dp_ints l)) (ih (by simpa using h) fun i q m a b => g (i + 1) q m (by rw [List.getElem?_cons_succ]; exact a) (by rw [List.getElem?_cons_succ]; exact b))
theorem reprLL {K : PySem.W.Frag} {H : Hp} {Q : VK} {a : Addr} {ls : List (List Int)} {n : Nat} (h : Dp K H (.ref a) (dLL ls)) (hv : ∀ l ∈ ls, ∀ x ∈ l, x.natAbs < 10 ^ 12) (hl : ∀ l ∈ ls, l.length ≤ n) (hz : (41 * n + 1) * ls.length ≤ 2 ^ 20) (q : Q (.str (dLL ls).shown) H) : rRepr K [.ref a] H Q := by
  refine reprX h (.list fun d m => ?_) ?_ ?_ q
  · obtain ⟨l, hm, rfl⟩ := List.mem_map.mp m
    exact tm_ints (hv l hm)
  · unfold dLL
    simp only [PyData.depth]
    have := dep_all (ds := ls.map fun l => PyData.list (l.map PyData.int)) (n := 1) fun d m => by
      obtain ⟨l, hm, rfl⟩ := List.mem_map.mp m
      simp only [PyData.depth]
      have := dep_all (ds := l.map PyData.int) (n := 0) fun d m => by
        obtain ⟨x, hx, rfl⟩ := List.mem_map.mp m
        simp [PyData.depth]
      omega
    omega
  · unfold dLL
    simp only [PyData.weight]
    have := wt_all (ds := ls.map fun l => PyData.list (l.map PyData.int)) (n := 41 * n) fun d m => by
      obtain ⟨l, hm, rfl⟩ := List.mem_map.mp m
      exact Nat.le_trans (wt_ints (hv l hm)) (Nat.mul_le_mul_left _ (hl l hm))
    rw [List.length_map] at this
    omega
theorem k_lenSet {X : Cx} {K : PySem.W.Frag} {a : Expr} {ta : TE} {p p2 q pos : Pos} (hK : X.K = K) (hg : Gl X "len") (hm : X.mg "len" = none) (hg2 : Gl X "set") (hm2 : X.mg "set" = none) (ha : PE X a ta) (hc : X.calm = true := by rfl)
    (na : starEach [a] X.env = (false, eval a X.env) :: starEach [] X.env := by rfl) : PE X (.Call (.Name "len" p) [.Call (.Name "set" p2) [a] [] q] [] pos) (RZ.tLenSetI K ta) := by subst hK; exact RZ.pe_lenSetI hg hm hg2 hm2 ha hc na
theorem x_lenSet {K : PySem.W.Frag} {ta : TE} {σ : L2.St} {H : Hp} {Q : VK} : RZ.tLenSetI K ta σ H Q = ta σ H fun x H1 => ∃ (l : Addr) (ns : List Int), x = .ref l ∧ SqL K H1 l (ns.map V.int) ∧ ns.Nodup ∧ ns.length ≤ 4000 ∧ Q (.int (ns.length : Nat)) H1 := rfl
end BC

set_option Elab.async false
set_option linter.all false
set_option maxRecDepth 100000
set_option maxHeartbeats 4000000
/-! sets of tuples made of a long list that has few different ones -/
namespace BC
open PySem PySem.Spec PyProof.Rows L2
/-- among these tuples there are few different ones -/
def FewT (ks : List (Addr × List Int)) : Prop := ∀ L : List (Addr × List Int), (∀ p ∈ L, p ∈ ks) → (L.map (·.2)).Nodup → L.length < 63
section
variable {P : Program} {w : World} {A : Around} {E : Value → Shared → Prop} {s : Shared}
theorem upd_few {I : Addr} {fp wr : List Addr} {G : Array GenState → Array GenState → Prop} {n : Nat} {Pv : Nat → Value → Prop} {St : Nat → Shared → Prop} {R : Result → Shared → Prop}
    (W : WalksS P w A.in1 I fp wr G n Pv St) (S : Addr) (nS : S ∉ fp) (ks : List (Addr × List Int)) (hn : n = ks.length) (few : FewT ks) (hv : ∀ i v, Pv i v → ∃ p, ks[i]? = some p ∧ v = .ref p.1)
    (g0 : Heap) (hk : ∀ p ∈ ks, IsT P w g0 p.2 p.1) (hS0 : g0.get? S = none) (hw0 : ∀ b ∈ wr, g0.get? b = none) (hu : A.in1.units < cLine) :
    ∀ (k i : Nat) (s : Shared), n - i = k → i ≤ n → St i s → (∀ b o, g0.get? b = some o → s.heap.get? b = some o) → (∃ L es ep t, SetTR P w s.heap S L es ep t ∧ Got ks i L) →
      (∀ s' L es ep t, Moved (S :: wr) G s s' → SetTR P w s'.heap S L es ep t → Got ks n L → (∀ b o, g0.get? b = some o → s'.heap.get? b = some o) → R (.ok (.ret .none)) s') →
      codeAny (model P w) A (.builtin "set.update.loop" ⟨[.ref S, .ref I], []⟩) R s := by
  have nw : S ∉ wr := fun h => nS (W.sub _ h)
  have old : ∀ {s s' : Shared}, Moved wr G s s' → (∀ b o, g0.get? b = some o → s.heap.get? b = some o) → ∀ b o, g0.get? b = some o → s'.heap.get? b = some o := by
    intro s s' m k b o e
    refine m.heap b o (fun hb => ?_) (k b o e)
    rw [hw0 b hb] at e
    cases e
  intro k
  induction k with
  | zero =>
    rintro i s hk' hi hst kp ⟨L, es, ep, t, hS, g⟩ hR
    obtain rfl : i = n := by omega
    refine codeAny_builtin F.entry_set_update_loop ?_
    rw [Around.under_plainId F.plain_set_update_loop _]
    refine wpAny_bind (m := pyNext (.ref I)) (W.done s _ _ hst fun s' m => wpAny_pure ?_)
    have kp' := old m kp
    exact hR s' L es ep t (m.mono fun b hb => List.mem_cons_of_mem _ hb) (hS.keep (fun o e => m.heap S o nw e) fun p hp => isT_keep (hk p (List.mem_of_mem_take (g.sub p hp))) kp') g kp'
  | succ k ih =>
    rintro i s hk' hi hst kp ⟨L, es, ep, t, hS, g⟩ hR
    have lt : i < n := by omega
    refine codeAny_builtin F.entry_set_update_loop ?_
    rw [Around.under_plainId F.plain_set_update_loop _]
    refine wpAny_bind (m := pyNext (.ref I)) (W.item i s _ _ lt hst fun v s' hP hst' m => ?_)
    obtain ⟨p, hp, rfl⟩ := hv i v hP
    have kp' := old m kp
    have inK : ∀ q ∈ L, q ∈ ks := fun q hq => List.mem_of_mem_take (g.sub q hq)
    have hS' : SetTR P w s'.heap S L es ep t := hS.keep (fun o e => m.heap S o nw e) fun q hq => isT_keep (hk q (inK q hq)) kp'
    have hx : IsT P w s'.heap p.2 p.1 := isT_keep (hk p (List.mem_of_getElem? hp)) kp'
    have room : L.length + 1 < 64 := by have := few L inK hS.nd; omega
    refine wpAny_bind (m := holding [Value.ref p.1] (setAdd S (.ref p.1))) (wpAny_holding ?_)
    unfold setAdd
    refine wpAny_holding (wpAny_bind (wpAny_pyHash_tuple hu hx ?_))
    refine add_at (s := { s' with toks := s'.toks + (p.2.length + 1) }) hS' hx hu room fun b h' L' es' ep' t' same hS2 c1 c2 => ?_
    have g' : Got ks (i + 1) L' := by
      by_cases c : p.2 ∈ L.map (·.2)
      · rw [c1 c]
        exact g.same hp c
      · exact g.more hp (c2 c)
    have kp2 : ∀ b o, g0.get? b = some o → h'.get? b = some o := by
      intro b o e
      refine (same.2 b fun z => ?_).trans (kp' b o e)
      rw [z, hS0] at e
      cases e
    have m1 : Moved (S :: wr) G s s' := m.mono fun b hb => List.mem_cons_of_mem _ hb
    refine wpAny_pure ⟨plainId_quiet F.plain_set_update_loop _, ?_⟩
    refine ih (i + 1) _ (by omega) lt (W.frame _ s' _ _ hst' (Nat.le_add_right _ _) fun b hb o e => ?_) kp2 ⟨L', es', ep', t', hS2, g'⟩ fun s2 L2 es2 ep2 t2 m2 hS3 g2 kp3 => ?_
    · exact (same.2 b fun z => nS (by rw [← z]; exact hb)).trans e
    · refine hR s2 L2 es2 ep2 t2 (Moved.trans W.gtrans (m1.then_heap (Nat.le_add_right _ _) fun b o hb e => ?_) m2) hS3 g2 kp3
      exact (same.2 b fun z => hb (by rw [z]; exact List.mem_cons_self)).trans e
abbrev noneSet (w : World) : Obj := { cls := .type "set", dict := none, data := .set #[] 0 (.fresh 0 0 (!w.params.followText "set-order")) }
theorem call_set_few {l : Addr} {items : Array Value} (ks : List (Addr × List Int)) {Q : Value → Shared → Prop} (hh : A.handled = none) (hl : s.heap.IsList l items) (hit : items.toList = ks.map fun p => Value.ref p.1)
    (hk : ∀ p ∈ ks, IsT P w s.heap p.2 p.1) (few : FewT ks) (hu : A.units + 3 < cLine)
    (h : ∀ (h' : Heap) (tk : Nat) L es ep t, SetTR P w h' s.heap.objs.size L es ep t → Got ks ks.length L → (∀ b o, s.heap.get? b = some o → h'.get? b = some o) → Q (.ref s.heap.objs.size) { s with heap := h', toks := tk }) :
    wpAny (model P w) A (call (.type "set") [.ref l]) Q E s := by
  have size : items.size = ks.length := by
    have q := congrArg List.length hit
    rwa [Array.length_toList, List.length_map] at q
  obtain ⟨c, tl, hmro⟩ := F.called_set.mro
  have made := F.called_set.made
  have sub := F.called_set.sub
  have notT := F.called_set.notType
  have able := F.called_set.canCreate
  have tcall := F.typeCall_set_1 (.ref l)
  refine wpAny_call (codeAny_of_tree (show wpAny _ _ (callAny (.type "set") _) _ _ _ from ?_))
  refine wpAny_pure ⟨Code.quiet_builtin _ (by decide +kernel), codeAny_builtin F.entry_type_call ?_⟩
  rw [Around.under_plain (weight_type_call_type "set" [.ref l] []) rfl]
  repeat (any_goals (first | assumption | wp_step))
  refine codeAny_mono (code_set_led1 (.ref l) (E := E) (Q₁ := fun ob s1 => ob = .ref s.heap.objs.size ∧ s1 = { s with heap := s.heap.push (noneSet w) }) ⟨rfl, rfl⟩) fun r s1 hr => ?_
  match r, hr with
  | .error e, hr => exact hr
  | .ok .next, hr => exact hr.elim
  | .ok .brk, hr => exact hr.elim
  | .ok .cont, hr => exact hr.elim
  | .ok (.ret ob), hr =>
    obtain ⟨rfl, rfl⟩ := hr
    have hS : (s.heap.push (noneSet w)).get? s.heap.objs.size = some (noneSet w) := Heap.get?_push_size _ rfl
    have ty : Shared.TypeIs { s with heap := s.heap.push (noneSet w) } (.ref s.heap.objs.size) "set" := ⟨_, hS, rfl⟩
    have look := F.called_set.init.lookup
    have bound := F.called_set.init.bind (.ref s.heap.objs.size)
    repeat (any_goals (first | assumption | wp_step))
    refine codeAny_mono (codeAny_call_builtin (R := wants (fun v s2 => v = .none ∧ ∃ h' tk L es ep t, s2 = { s with heap := h', toks := tk } ∧ SetTR P w h' s.heap.objs.size L es ep t ∧ Got ks ks.length L ∧ ∀ b o, s.heap.get? b = some o → h'.get? b = some o) E) F.called_set.init.plain F.entry_set_init (check_set_init_1 ty ?_)) fun r2 s2 hr2 => ?_
    · obtain ⟨ol, hol, hcl, nl, hdl⟩ := hl
      obtain ⟨oc, od, odt, osl⟩ := ol
      simp only at hcl hdl
      subst hcl hdl
      have hol' : (s.heap.push (noneSet w)).get? l = some { cls := .type "list", dict := od, data := .seq items nl, slots := osl } := Heap.get?_push_of_some _ hol
      have hsls := F.sub_list_set
      have hslf := F.sub_list_frozenset
      have hne : (Value.type "list" == Value.type "dict") = false := by decide
      have hl1 : (s.heap.push (noneSet w)).IsList l items := ⟨_, hol', rfl, nl, rfl⟩
      unfold Builtin.«set.__init__» noKeywords Builtin.Frozenset.updateFrom
      generalize hPI : pyIter = PI
      wp_walk
      subst hPI
      refine wpAny_pyIter_list hl1 (wpAny_bind (wpAny_runValue ?_))
      have lS : l < s.heap.objs.size := Heap.lt_size hol
      have calm : A.in1.in1.in1.handled = none := by simp [hh]
      have zS : (s.heap.push (noneSet w)).objs.size = s.heap.objs.size + 1 := Heap.size_push ..
      have gone : ∀ b, s.heap.objs.size ≤ b → s.heap.get? b = none := by
        intro b hb
        cases q : s.heap.get? b with
        | none => rfl
        | some o => exact absurd (Nat.lt_of_lt_of_le (Heap.lt_size q) hb) (Nat.lt_irrefl _)
      have nI : l ≠ (s.heap.push (noneSet w)).objs.size := by rw [zS]; exact Nat.ne_of_lt (Nat.lt_succ_of_lt lS)
      refine upd_few ((Walks.list calm _ l nI items).toS) s.heap.objs.size (fun z => ?_) ks size few (fun i v hv => ?_) s.heap hk (gone _ (Nat.le_refl _)) (fun b hb => gone b ?_) hu (items.size - 0) 0 _ (by omega) (Nat.zero_le _)
        ⟨⟨_, Heap.get?_push_size _ rfl, rfl, rfl⟩, (hl1.push _)⟩ (fun b o e => Heap.get?_push_of_some _ (Heap.get?_push_of_some _ e)) ⟨[], #[], 0, _, setTR_fresh (Heap.get?_push_of_some _ hS), Got.zero ks⟩ ?_
      · rcases List.mem_cons.mp z with z | z
        · rw [zS] at z; exact absurd z (Nat.ne_of_lt (Nat.lt_succ_self _))
        · exact absurd (List.mem_singleton.mp z) (Nat.ne_of_gt lS)
      · have q : items.toList[i]? = some v := by rw [Array.getElem?_toList]; exact hv
        rw [hit, List.getElem?_map] at q
        obtain ⟨p, hp, e⟩ := Option.map_eq_some_iff.mp q
        exact ⟨p, hp, e.symm⟩
      · rw [List.mem_singleton.mp hb, zS]
        exact Nat.le_succ _
      · intro s' L es ep t m hS' g' kp
        obtain ⟨h', g2, d', tk', os'⟩ := s'
        obtain rfl : g2 = s.gens := m.gens
        obtain rfl : d' = s.drawn := m.drawn
        obtain rfl : os' = s.os := m.os
        show wpAny _ _ _ _ _ _
        refine wpAny_pure (show wpAny _ _ (ret Value.none) _ _ _ from ?_)
        rw [size] at g'
        exact wpAny_pure ⟨rfl, h', tk', L, es, ep, t, rfl, hS', g', kp⟩
    · match r2, hr2 with
      | .error e, hr2 => exact hr2
      | .ok .next, hr2 => exact hr2.elim
      | .ok .brk, hr2 => exact hr2.elim
      | .ok .cont, hr2 => exact hr2.elim
      | .ok (.ret v), hr2 =>
        obtain ⟨rfl, h', tk, L, es, ep, t, rfl, hS', g', hk'⟩ := hr2
        repeat (any_goals (first | assumption | wp_step))
        exact h _ _ _ _ _ _ hS' g' hk'
end
section
variable {X : Cx}
/-- set(xs) of tuples of numbers, few of them different -/
def rSetOfU (K : PySem.W.Frag) (P : Program) (w : World) : List V → Hp → VK → Prop := fun xs H Q => ∃ (l : Addr) (ks : List (Addr × List Int)), xs = [V.ref l] ∧ SqL K H l (ks.map fun p => V.ref p.1) ∧ (∀ p ∈ ks, SqT K H p.1 (p.2.map V.int)) ∧ FewT ks ∧
  ∀ a L, H a = none → (∀ p ∈ L, p ∈ ks) → (∀ p ∈ ks, p.2 ∈ L.map (·.2)) → (L.map (·.2)).Nodup → Q (.ref a) (upd H a (SetTO P w a L))
theorem cr_setOfU (hc : X.calm = true) (hu : X.A.units + 64 < cLine) : CallR X (.type "set") (rSetOfU X.K X.prog X.w) := by
  intro pins s σ H xs us Q I r h
  obtain ⟨l, ks, rfl, hl, hk, few, q⟩ := h
  obtain ⟨its, rv, pl, _⟩ := I.list hl
  rw [Vals.ref1 r]
  refine call_set_few (P := X.prog) (w := X.w) ks (I.ok.hd hc) pl.isList (by simpa using refs_of_vals rv) (fun p hp => I.isT (hk p hp)) few (by omega) fun h' tk L es ep t R g kp => ?_
  have inK : ∀ p ∈ L, p ∈ ks := fun p hp => List.mem_of_mem_take (g.sub p hp)
  have all : ∀ p ∈ ks, p.2 ∈ L.map (·.2) := fun p hp => g.all p (by rw [List.take_length]; exact hp)
  exact ⟨.ref s.heap.objs.size, _, I.laid (t' := tk) kp (Nat.le_refl _) (setTO_new R.t0), rfl, q _ L (I.hok.fresh (Nat.le_refl _)) inK all R.nd⟩
end
section
variable {prog : Program} {w : World} {A : Around} {E : Value → Shared → Prop} {s : Shared}
/-- list.sort of at most one item -/
theorem sort_one {a : Addr} {vs : List Value} {n : Nat} {P : PySem.Fin → Shared → Prop} (ho : s.heap.get? a = some (seqObj "list" vs.toArray n)) (h1 : vs.length ≤ 1) (h : ∀ out : Array Value, out.toList = vs → P (.done (.ret .none)) { s with heap := sortedHeap s.heap a vs out }) :
    wpAny (model prog w) A (Builtin.«list.sort» ⟨[.ref a], []⟩) P E s := by
  refine SK.plain_sort (r := fun _ => 0) ho (by omega) (fun h2 => absurd h2 (by omega)) fun ps out e pm _ => h out ?_
  match vs, h1, pm with
  | [], _, pm => rw [e, pm.eq_nil]; rfl
  | [v], _, pm =>
    have : ps = [(v, v)] := List.perm_singleton.mp pm
    rw [e, this]
    rfl
/-- sorted(x), x a set of at most one tuple -/
theorem sorted_set1 {P : Program} {a : Addr} {L : List (Addr × List Int)} {es : Array (Int × Value)} {ep : Nat} {t : SetTable} {Q : Value → Shared → Prop} (R : SetTR P w s.heap a L es ep t) (hh : A.handled = none) (h1 : L.length ≤ 1)
    (hQ : ∀ s' p (out : Array Value) (c : Nat), (∀ b o, s.heap.get? b = some o → s'.heap.get? b = some o) → s'.gens = s.gens → s'.os = s.os → s.heap.objs.size ≤ p →
      s'.heap.get? p = some (seqObj "list" out c) → out.toList = L.map (fun q => Value.ref q.1) → Q (.ref p) s') :
    wpAny (model P w) A (call (.builtin "sorted") [.ref a]) Q E s := by
  obtain ⟨o, ho, hex, hd⟩ := R.ob
  have size := R.size
  refine Calls.call_function_entry kind_sorted plain_sorted entry_sorted (args_sorted1 _) ?_
  unfold Builtin.«sorted»
  refine wpAny_bind (m := checkCount "sorted" 1 1 _) (wpAny_pure ?_)
  refine wpAny_bind (collect_set (A := A.in1) hh ⟨o, ho, hex.1, hd⟩ R.fits (by unfold scanBound; omega) R.tab.ris R.led fun s1 vs k1 hz g1 o1 pm => ?_)
  have rows : es.toList.map (·.2) = L.map fun q => Value.ref q.1 := by rw [R.rows]; unfold rowsOf; rw [List.map_map]; rfl
  rw [rows] at pm
  have ev : vs = L.map fun q => Value.ref q.1 := by
    match L, h1, pm with
    | [], _, pm => exact pm.eq_nil
    | [q], _, pm => exact List.perm_singleton.mp pm
  have vl : vs.length ≤ 1 := by rw [ev, List.length_map]; exact h1
  refine wpAny_bind (wpAny_newList ?_ (by rw [sizeLine_eq]; omega))
  have hoL : (s1.heap.push (seqObj "list" vs.toArray 0)).get? s1.heap.objs.size = some (seqObj "list" vs.toArray 0) := Heap.get?_push_size _ rfl
  refine wpAny_bind (wpAny_holding (wpAny_call_entry slot_list_sort ⟨_, hoL, rfl⟩ entry_list_sort (sort_one (s := { s1 with heap := s1.heap.push (seqObj "list" vs.toArray 0) }) hoL vl fun out e => ⟨_, rfl, ?_⟩) (args_list_sort _)))
  obtain ⟨c, hc⟩ := sortedHeap_at (vs := vs) (out := out) hoL
  refine wpAny_pure ⟨_, rfl, hQ _ s1.heap.objs.size out c (fun b u eb => ?_) g1 o1 hz hc (e.trans ev)⟩
  have q := k1 b u eb
  have lt := Heap.lt_size q
  show (sortedHeap (s1.heap.push (seqObj "list" vs.toArray 0)) s1.heap.objs.size vs out).get? b = some u
  rw [sortedHeap_old (Nat.ne_of_lt lt) (by rw [size_push']; exact Nat.lt_succ_of_lt lt)]
  exact Heap.get?_push_of_some _ q
end
section
variable {X : Cx}
def rSorted1 (K : PySem.W.Frag) (P : Program) (w : World) : List V → Hp → VK → Prop := fun vs H Q => ∃ (a : Addr) (L : List (Addr × List Int)), vs = [V.ref a] ∧ H a = some (SetTO P w a L) ∧ (∀ p ∈ L, SqT K H p.1 (p.2.map V.int)) ∧ L.length ≤ 1 ∧
  ∀ p, H p = none → Q (.ref p) (upd H p (.lst (L.map fun q => V.ref q.1)))
theorem cr_sorted1 (hc : X.calm = true) : CallR X (.builtin "sorted") (rSorted1 X.K X.prog X.w) := by
  intro pins s σ H vs us Q I r h
  obtain ⟨a, L, rfl, ha, hk, h1, q⟩ := h
  obtain ⟨es, ep, t, R⟩ := ((I.hok a _ ha).1 : SetT0 X.prog X.w s.heap a L).full fun p hp => I.isT (hk p hp)
  rw [Vals.ref1 r]
  refine sorted_set1 R (I.ok.hd hc) h1 fun s' p out c k g o hp hg hout => ?_
  have hlen : (L.map fun q => V.ref q.1).length ≤ sizeLine := by rw [List.length_map, sizeLine_eq]; omega
  have hn : H p = none := I.hok.fresh hp
  have hv : Vals (L.map fun q => V.ref q.1) out.toList := by rw [hout]; exact vals_of_refs L
  have J : Inv X pins σ (upd H p (.lst (L.map fun q => V.ref q.1))) { s with heap := s'.heap, gens := s'.gens, drawn := s'.drawn, toks := s'.toks } :=
    I.call (ch := []) (Un.laid k hp hn) (I.hok.laid k hp ⟨hlen, out.toList, c, hv, hg⟩) (by rw [g]; exact I.bare) fun _ z => nomatch z
  obtain ⟨hp', g', d', t', os'⟩ := s'
  dsimp only at o
  subst o
  exact ⟨.ref p, _, J, rfl, q p hn⟩
/-- sorted of a set of tuples -/
def rSortedU (K : PySem.W.Frag) (P : Program) (w : World) : List V → Hp → VK → Prop := fun vs H Q => rSortedT K P w vs H Q ∨ rSorted1 K P w vs H Q
theorem cr_sortedU (hc : X.calm = true) : CallR X (.builtin "sorted") (rSortedU X.K X.prog X.w) := by
  intro pins s σ H vs us Q I r h
  rcases h with h | h
  · exact cr_sortedT hc pins s σ H vs us Q I r h
  · exact cr_sorted1 hc pins s σ H vs us Q I r h
theorem k_setOfU {K : PySem.W.Frag} {P : Program} {w : World} (hK : X.K = K) (hP : X.prog = P) (hw : X.w = w) (hc : X.calm = true) (hu : X.A.units + 64 < cLine) : CallR X (.type "set") (rSetOfU K P w) := by subst hK hP hw; exact cr_setOfU hc hu
theorem k_sortedU {K : PySem.W.Frag} {P : Program} {w : World} (hK : X.K = K) (hP : X.prog = P) (hw : X.w = w) (hc : X.calm = true) : CallR X (.builtin "sorted") (rSortedU K P w) := by subst hK hP hw; exact cr_sortedU hc
end
end BC

set_option Elab.async false
set_option linter.all false
set_option maxRecDepth 100000
set_option maxHeartbeats 4000000
/-! lists of lengths and their numbers -/
namespace LN
/-- the ways to go on for t more lengths after length l, at most m -/
def W (m : Nat) : Nat → Nat → Int
  | 0, _ => 1
  | t + 1, l => ((List.range (min (l + 1) m)).map fun j => W m t (j + 1)).sum
/-- the ways below the length j + 1 -/
def S (m t j : Nat) : Int := ((List.range j).map fun i => W m t (i + 1)).sum
theorem S_zero (m t : Nat) : S m t 0 = 0 := rfl
theorem sum_snoc (l : List Int) (x : Int) : (l ++ [x]).sum = l.sum + x := by
  rw [List.sum_append]; simp
theorem S_succ (m t j : Nat) : S m t (j + 1) = S m t j + W m t (j + 1) := by
  unfold S
  rw [List.range_succ, List.map_append]
  exact sum_snoc _ _
theorem W_succ (m t l : Nat) : W m (t + 1) l = S m t (min (l + 1) m) := rfl
theorem W_pos {m : Nat} (hm : 1 ≤ m) : ∀ t l, 1 ≤ W m t l
  | 0, _ => Int.le_refl _
  | t + 1, l => by
    rw [W_succ]
    have h : ∀ j : Nat, (j : Int) ≤ S m t j := fun j => by
      induction j with
      | zero => rw [S_zero]; exact Int.le_refl _
      | succ j ih =>
        rw [S_succ]
        have := W_pos hm t (j + 1)
        omega
    have := h (min (l + 1) m)
    have h2 : 1 ≤ min (l + 1) m := by omega
    omega
theorem S_mono {m : Nat} (hm : 1 ≤ m) (t : Nat) : ∀ {i j : Nat}, i ≤ j → S m t i ≤ S m t j := fun {i j} h => by
  induction h with
  | refl => exact Int.le_refl _
  | @step n _ ih =>
    have e := S_succ m t n
    have := W_pos hm t (n + 1)
    show S m t i ≤ S m t (n + 1)
    omega
theorem S_nn {m : Nat} (hm : 1 ≤ m) (t j : Nat) : 0 ≤ S m t j := by
  have := S_mono hm t (Nat.zero_le j)
  rw [S_zero] at this
  exact this
theorem W_le {m : Nat} : ∀ t l, W m t l ≤ (m : Int) ^ t
  | 0, _ => by show (1 : Int) ≤ _; simp
  | t + 1, l => by
    rw [W_succ]
    have h : ∀ j, S m t j ≤ j * (m : Int) ^ t := fun j => by
      induction j with
      | zero => rw [S_zero]; simp
      | succ j ih =>
        rw [S_succ]
        have := W_le (m := m) t (j + 1)
        have e : ((j + 1 : Nat) : Int) * (m : Int) ^ t = j * (m : Int) ^ t + (m : Int) ^ t := by
          rw [Int.natCast_add, Int.add_mul]; simp
        omega
    have h1 := h (min (l + 1) m)
    have h2 : ((min (l + 1) m : Nat) : Int) * (m : Int) ^ t ≤ (m : Int) * (m : Int) ^ t := Int.mul_le_mul_of_nonneg_right (by omega) (Int.pow_nonneg (by omega))
    have e3 : (m : Int) ^ (t + 1) = (m : Int) * (m : Int) ^ t := by rw [Int.pow_succ, Int.mul_comm]
    omega
/-- lists that may come after the length p -/
def Ok (m : Nat) : Nat → List Nat → Prop
  | _, [] => True
  | p, x :: xs => 1 ≤ x ∧ x ≤ min (p + 1) m ∧ Ok m x xs
def rank (m : Nat) : List Nat → Int
  | [] => 0
  | x :: xs => S m xs.length (x - 1) + rank m xs
theorem rank_lt {m : Nat} (hm : 1 ≤ m) : ∀ {p : Nat} {l : List Nat}, Ok m p l → 0 ≤ rank m l ∧ rank m l < W m l.length p
  | _, [], _ => ⟨Int.le_refl _, by show (0 : Int) < 1; omega⟩
  | p, x :: xs, ⟨h1, h2, h3⟩ => by
    have ih := rank_lt hm h3
    have e : S m xs.length x = S m xs.length (x - 1) + W m xs.length x := by
      have := S_succ m xs.length (x - 1)
      rwa [Nat.sub_add_cancel h1] at this
    have s0 := S_nn hm xs.length (x - 1)
    have s1 := S_mono hm xs.length h2
    show 0 ≤ S m xs.length (x - 1) + rank m xs ∧ S m xs.length (x - 1) + rank m xs < W m (xs.length + 1) p
    rw [W_succ]
    omega
/-- each number has a list -/
theorem find {m : Nat} (hm : 1 ≤ m) : ∀ (t : Nat) {p : Nat} {r : Int}, 0 ≤ r → r < W m t p → ∃ l, Ok m p l ∧ l.length = t ∧ rank m l = r
  | 0, p, r, h0, h1 => ⟨[], trivial, rfl, by have : r < 1 := h1; show (0 : Int) = r; omega⟩
  | t + 1, p, r, h0, h1 => by
    rw [W_succ] at h1
    have : ∀ n, r < S m t n → ∃ x, 1 ≤ x ∧ x ≤ n ∧ S m t (x - 1) ≤ r ∧ r < S m t x := fun n => by
      induction n with
      | zero => intro h; rw [S_zero] at h; omega
      | succ n ih =>
        intro h
        by_cases q : r < S m t n
        · obtain ⟨x, a, b, c⟩ := ih q
          exact ⟨x, a, by omega, c⟩
        · exact ⟨n + 1, by omega, by omega, by show S m t n ≤ r; omega, h⟩
    obtain ⟨x, a, b, c, d⟩ := this _ h1
    have e : S m t x = S m t (x - 1) + W m t x := by
      have := S_succ m t (x - 1)
      rwa [Nat.sub_add_cancel a] at this
    obtain ⟨l, l1, l2, l3⟩ := find hm t (p := x) (r := r - S m t (x - 1)) (by omega) (by omega)
    refine ⟨x :: l, ⟨a, b, l1⟩, by rw [List.length_cons, l2], ?_⟩
    show S m l.length (x - 1) + rank m l = r
    rw [l2, l3]
    omega
/-- a greater number has a greater list -/
theorem rank_mono {m : Nat} (hm : 1 ≤ m) : ∀ {p : Nat} {a b : List Nat}, Ok m p a → Ok m p b → a.length = b.length → rank m a < rank m b → ∃ k, k < a.length ∧ (∀ i, i < k → a.getD i 0 = b.getD i 0) ∧ a.getD k 0 < b.getD k 0
  | _, [], [], _, _, _, h => by exact absurd h (Int.lt_irrefl _)
  | _, [], _ :: _, _, _, h, _ => by simp at h
  | _, _ :: _, [], _, _, h, _ => by simp at h
  | p, x :: xs, y :: ys, ⟨a1, a2, a3⟩, ⟨b1, b2, b3⟩, hl, h => by
    have hl2 : xs.length = ys.length := by simpa using hl
    have h2 : S m xs.length (x - 1) + rank m xs < S m ys.length (y - 1) + rank m ys := h
    have r1 := rank_lt hm a3
    have r2 := rank_lt hm b3
    rw [← hl2] at h2 r2
    by_cases e : x = y
    · subst e
      obtain ⟨k, k1, k2, k3⟩ := rank_mono hm a3 b3 hl2 (by omega)
      refine ⟨k + 1, by rw [List.length_cons]; omega, fun i hi => ?_, k3⟩
      cases i with
      | zero => rfl
      | succ i => exact k2 i (by omega)
    · by_cases e2 : x < y
      · exact ⟨0, by rw [List.length_cons]; omega, fun i hi => by omega, e2⟩
      · have s := S_mono hm xs.length (show y ≤ x - 1 by omega)
        have e3 : S m xs.length y = S m xs.length (y - 1) + W m xs.length y := by
          have := S_succ m xs.length (y - 1)
          rwa [Nat.sub_add_cancel b1] at this
        omega
theorem ok_drop {m : Nat} : ∀ {p : Nat} {l : List Nat} {i x : Nat}, Ok m p l → l[i]? = some x → ∃ q, Ok m q (l.drop i) ∧ 1 ≤ x ∧ x ≤ m ∧ Ok m x (l.drop (i + 1))
  | _, [], _, _, _, h => by simp at h
  | p, y :: l, 0, x, ⟨h1, h2, h3⟩, h => by
    simp at h
    subst h
    exact ⟨p, ⟨h1, h2, h3⟩, h1, by omega, h3⟩
  | p, y :: l, i + 1, x, ⟨h1, h2, h3⟩, h => by
    have h' : l[i]? = some x := by simpa using h
    exact ok_drop (p := y) (l := l) h3 h'
theorem rank_drop {m : Nat} {l : List Nat} {i x : Nat} (h : l[i]? = some x) : rank m (l.drop i) = S m (l.length - i - 1) (x - 1) + rank m (l.drop (i + 1)) := by
  obtain ⟨hi, hx⟩ := List.getElem?_eq_some_iff.mp h
  rw [List.drop_eq_getElem_cons hi, hx]
  show S m (l.drop (i + 1)).length (x - 1) + _ = _
  rw [List.length_drop]
  have : l.length - (i + 1) = l.length - i - 1 := by omega
  rw [this]
theorem ok_at {m : Nat} {p : Nat} {l : List Nat} (h : Ok m p l) : ∀ x ∈ l, 1 ≤ x ∧ x ≤ m := fun x hx => by
  obtain ⟨i, hi, e⟩ := List.getElem_of_mem hx
  obtain ⟨q, _, a, b, _⟩ := ok_drop h (List.getElem?_eq_some_iff.mpr ⟨hi, e⟩)
  exact ⟨a, b⟩
theorem ok_snoc {m : Nat} : ∀ {p : Nat} {l : List Nat} {x : Nat}, Ok m p l → 1 ≤ x → x ≤ min ((l.getLast?.getD p) + 1) m → Ok m p (l ++ [x])
  | p, [], x, _, h1, h2 => ⟨h1, h2, trivial⟩
  | p, [y], x, ⟨a, b, _⟩, h1, h2 => ⟨a, b, h1, by simpa using h2, trivial⟩
  | p, y :: z :: l, x, ⟨a, b, c⟩, h1, h2 => ⟨a, b, ok_snoc c h1 (by
      have e : (z :: l).getLast?.getD y = (y :: z :: l).getLast?.getD p := by
        rw [List.getLast?_cons_cons]
        cases h : (z :: l).getLast? with
        | none => simp at h
        | some v => rfl
      rw [e]; exact h2)⟩
/-- the first one -/
theorem first_ok {m : Nat} (hm : 1 ≤ m) : ∀ t p, Ok m p (List.replicate t 1)
  | 0, _ => trivial
  | t + 1, p => ⟨Nat.le_refl _, by omega, first_ok hm t 1⟩
theorem first_rank (m : Nat) : ∀ t, rank m (List.replicate t 1) = 0
  | 0 => rfl
  | t + 1 => by
    show S m _ (1 - 1) + rank m (List.replicate t 1) = 0
    rw [first_rank m t]
    rfl
/-- the last one -/
def up (m : Nat) : Nat → Nat → List Nat
  | 0, _ => []
  | t + 1, p => min (p + 1) m :: up m t (min (p + 1) m)
theorem up_len (m : Nat) : ∀ t p, (up m t p).length = t
  | 0, _ => rfl
  | t + 1, p => by show (up m t _).length + 1 = _; rw [up_len m t]
theorem up_ok {m : Nat} (hm : 1 ≤ m) : ∀ t p, Ok m p (up m t p)
  | 0, _ => trivial
  | t + 1, p => ⟨by omega, Nat.le_refl _, up_ok hm t _⟩
theorem up_rank {m : Nat} (hm : 1 ≤ m) : ∀ t p, rank m (up m t p) = W m t p - 1
  | 0, _ => rfl
  | t + 1, p => by
    show S m (up m t _).length (min (p + 1) m - 1) + rank m (up m t _) = _
    rw [up_len, up_rank hm t, W_succ]
    have := S_succ m t (min (p + 1) m - 1)
    rw [Nat.sub_add_cancel (by omega)] at this
    omega
theorem up_at (m : Nat) (hm : 1 ≤ m) : ∀ t p i, i < t → (up m t p)[i]? = some (min m (p + i + 1))
  | t + 1, p, 0, _ => by show some (min (p + 1) m) = _; rw [Nat.min_comm]
  | t + 1, p, i + 1, h => by
    show (up m t _)[i]? = _
    rw [up_at m hm t _ i (by omega)]
    congr 1
    omega
theorem up_eq (m : Nat) (hm : 1 ≤ m) (t : Nat) : up m t 0 = (List.range t).map fun i => min m (i + 1) := by
  apply List.ext_getElem?
  intro i
  by_cases h : i < t
  · rw [up_at m hm t 0 i h, List.getElem?_map, List.getElem?_range h, Nat.zero_add]
    rfl
  · rw [List.getElem?_eq_none (by rw [up_len]; omega), List.getElem?_eq_none (by rw [List.length_map, List.length_range]; omega)]
/-- the rows as lists, to be computed -/
def nextRow (m : Nat) (r : List Int) : List Int := (List.range (m + 1)).map fun l => ((r.drop 1).take (min (l + 1) m)).sum
def wrow (m t : Nat) : List Int := (List.range (m + 1)).map fun l => W m t l
theorem wrow_at {m t l : Nat} (h : l ≤ m) : (wrow m t)[l]? = some (W m t l) := by
  unfold wrow
  rw [List.getElem?_map, List.getElem?_range (by omega)]
  rfl
theorem wrow_len (m t : Nat) : (wrow m t).length = m + 1 := by unfold wrow; rw [List.length_map, List.length_range]
theorem wrow_take (m t j : Nat) (h : j ≤ m) : ((wrow m t).drop 1).take j = (List.range j).map fun i => W m t (i + 1) := by
  apply List.ext_getElem?
  intro i
  by_cases q : i < j
  · rw [List.getElem?_take, if_pos q, List.getElem?_drop, wrow_at (by omega), List.getElem?_map, List.getElem?_range q, Nat.add_comm]
    rfl
  · rw [List.getElem?_take, if_neg q, List.getElem?_eq_none (by rw [List.length_map, List.length_range]; omega)]
theorem wrow_sum (m t j : Nat) (h : j ≤ m) : (((wrow m t).drop 1).take j).sum = S m t j := by rw [wrow_take m t j h]; rfl
theorem wrow_next (m t : Nat) : nextRow m (wrow m t) = wrow m (t + 1) := by
  unfold nextRow
  conv => rhs; unfold wrow
  apply List.map_congr_left
  intro l hl
  rw [wrow_sum m t _ (by omega), W_succ]
theorem wrow_zero (m : Nat) : wrow m 0 = List.replicate (m + 1) 1 := by
  unfold wrow
  apply List.ext_getElem?
  intro i
  rw [List.getElem?_map]
  by_cases h : i < m + 1
  · rw [List.getElem?_range h, List.getElem?_replicate, if_pos h]; rfl
  · rw [List.getElem?_eq_none (by rw [List.length_range]; omega), List.getElem?_eq_none (by rw [List.length_replicate]; omega)]; rfl
def rowsOf (m : Nat) : Nat → List Int
  | 0 => List.replicate (m + 1) 1
  | t + 1 => nextRow m (rowsOf m t)
theorem rowsOf_eq (m : Nat) : ∀ t, rowsOf m t = wrow m t
  | 0 => (wrow_zero m).symm
  | t + 1 => by show nextRow m (rowsOf m t) = _; rw [rowsOf_eq m t, wrow_next]
end LN
namespace BC
open PySem PySem.Spec PyProof.Rows L2 Evl
/-- <= of two lists of numbers -/
def rLeL (K : PySem.W.Frag) : R2 := fun x y H Q => ∃ (a b : Addr) (ns ms : List Int), x = .ref a ∧ y = .ref b ∧ SqL K H a (ns.map V.int) ∧ SqL K H b (ms.map V.int) ∧
  Q (.bl (SeqAt.firstLt (fun j => decide (ns.getD j 0 = ms.getD j 0)) (fun j => decide (ns.getD j 0 ≤ ms.getD j 0)) (decide (ns.length ≤ ms.length)) (List.range (min ns.length ms.length)))) H
theorem op_leL {X : Cx} {K : PySem.W.Frag} (hK : X.K = K) (hu : X.A.units < cLine) : OpR X (compareOp .LtE) (rLeL K) := by
  subst hK
  intro pins s σ H x y v u Q I rx ry h
  obtain ⟨a, b, ns, ms, rfl, rfl, ha, hb, q⟩ := h
  cases rx
  cases ry
  obtain ⟨its, r1, p1, _⟩ := I.list ha
  obtain ⟨its2, r2, p2, _⟩ := I.list hb
  have i1 : IntsAre its ns := Vals.ints r1
  have i2 : IntsAre its2 ms := Vals.ints r2
  have e1 : its.toArray.size = ns.length := by rw [List.size_toArray]; exact i1.length
  have e2 : its2.toArray.size = ms.length := by rw [List.size_toArray]; exact i2.length
  have at1 : ∀ j (h1 : j < its.toArray.size), ∃ t, its.toArray[j] = .int (ns.getD j 0) t := fun j h1 => PyProof.Rows.IntsAre.int_at i1 _ _ (by simp at h1; simp [h1])
  have at2 : ∀ j (h1 : j < its2.toArray.size), ∃ t, its2.toArray[j] = .int (ms.getD j 0) t := fun j h1 => PyProof.Rows.IntsAre.int_at i2 _ _ (by simp at h1; simp [h1])
  have isl : ∀ {c : Addr} {vs : Array Value}, (∃ o n, s.heap.get? c = some o ∧ o.cls = .type "list" ∧ o.dict = none ∧ o.data = .seq vs n) → s.heap.IsList c vs := fun ⟨o, n, z1, z2, _, z4⟩ => ⟨o, z1, z2, n, z4⟩
  have R := SeqAt.RcOp.lists_le (A := X.A) (s := s) (l := a) (b := b) (items := its.toArray) (items2 := its2.toArray) (e := fun j => decide (ns.getD j 0 = ms.getD j 0)) (r := fun j => decide (ns.getD j 0 ≤ ms.getD j 0)) (isl p1) (isl p2) hu (fun j h1 h2 => by
    obtain ⟨t, et⟩ := at1 j h1
    obtain ⟨t', et'⟩ := at2 j h2
    rw [et, et']
    have z : (ns.getD j 0 == ms.getD j 0) = decide (ns.getD j 0 = ms.getD j 0) := by
      by_cases q : ns.getD j 0 = ms.getD j 0
      · rw [decide_eq_true q]; exact beq_iff_eq.mpr q
      · rw [decide_eq_false q]; exact beq_eq_false_iff_ne.mpr q
    rw [← z]
    exact SeqAt.EqAt.int_int _ _ _ _) (fun j h1 h2 _ => by
    obtain ⟨t, et⟩ := at1 j h1
    obtain ⟨t', et'⟩ := at2 j h2
    rw [et, et']
    exact fun _ _ _ _ h => PyProof.Rows.le_int h)
  rw [e1, e2] at R
  have z : wpAny (model X.prog X.w) X.A (compareOp .LtE (.ref a) (.ref b)) (EP X pins σ Q) X.xe s := R X.prog X.w X.xe (EP X pins σ Q) ⟨.bl _, H, I, rfl, q⟩
  exact z
theorem firstLt_false {e r : Nat → Bool} {fin : Bool} : ∀ {p : List Nat} {j : Nat} {t : List Nat}, (∀ x ∈ p, e x = true) → e j = false → r j = false → SeqAt.firstLt e r fin (p ++ j :: t) = false
  | [], j, t, _, h2, h3 => by rw [List.nil_append, SeqAt.firstLt_no h2, h3]
  | x :: p, j, t, h1, h2, h3 => by
    rw [List.cons_append, SeqAt.firstLt_yes (h1 x List.mem_cons_self)]
    exact firstLt_false (fun y hy => h1 y (List.mem_cons_of_mem _ hy)) h2 h3
theorem leL_false {K : PySem.W.Frag} {H : Hp} {Q : VK} {a b : Addr} {ns ms : List Int} (ha : SqL K H a (ns.map V.int)) (hb : SqL K H b (ms.map V.int)) {k : Nat} (hk : k < ns.length) (hl : ns.length = ms.length) (hp : ∀ i, i < k → ns.getD i 0 = ms.getD i 0) (hg : ms.getD k 0 < ns.getD k 0)
    (q : Q (.bl false) H) : rLeL K (.ref a) (.ref b) H Q := by
  refine ⟨a, b, ns, ms, rfl, rfl, ha, hb, ?_⟩
  have hm : min ns.length ms.length = ns.length := by omega
  have e : List.range ns.length = (List.range ns.length).take k ++ k :: (List.range ns.length).drop (k + 1) := by
    conv => lhs; rw [← List.take_append_drop k (List.range ns.length)]
    rw [List.drop_eq_getElem_cons (by rw [List.length_range]; exact hk), List.getElem_range]
  rw [hm, e, firstLt_false]
  · exact q
  · intro x hx
    rw [List.take_range, List.mem_range] at hx
    exact decide_eq_true (hp x (by omega))
  · exact decide_eq_false (by omega)
  · exact decide_eq_false (by omega)
end BC

set_option Elab.async false
set_option linter.all false
set_option maxRecDepth 100000
set_option maxHeartbeats 4000000
/-! dicts: readings, loops over keys, keys that are texts of lists of digits -/
namespace BC
open PySem PySem.Spec PyProof.Rows L2 Evl
section
variable {K : PySem.W.Frag} {σ : L2.St} {H : Hp} {Q : VK} {QT : Bool → Hp → Prop} {td ty tv tx : TE} {D : Ends} {g : TG} {tb : TS} {c : TE}
theorem x_dnewK : tDNewK σ H Q = ∀ p, H p = none → Q (.ref p) (upd H p (.dK [])) := rfl
theorem x_dnewT : tDNewT σ H Q = ∀ p, H p = none → Q (.ref p) (upd H p (.dT [])) := rfl
theorem x_dget : tDGet td ty σ H Q = td σ H (fun x H1 => ty σ H1 fun y H2 => ∃ a v, x = .ref a ∧ DGet H2 a y (some v) ∧ Q v H2) := rfl
theorem x_dget1 : tDGet1 td ty σ H Q = td σ H (fun x H1 => ∃ a, x = .ref a ∧ IsD H1 a ∧ ty σ H1 fun y H2 => ∃ o, DGet H2 a y o ∧ Q (o.getD .non) H2) := rfl
theorem x_dget2 : tDGet2 td ty tx σ H Q = td σ H (fun x H1 => ∃ a, x = .ref a ∧ IsD H1 a ∧ ty σ H1 fun y H2 => tx σ H2 fun z H3 => ∃ o, DGet H3 a y o ∧ Q (o.getD z) H3) := rfl
theorem x_din : tDIn ty td σ H Q = ty σ H (fun y H1 => td σ H1 fun x H2 => ∃ a o, x = .ref a ∧ DGet H2 a y o ∧ Q (.bl o.isSome) H2) := rfl
theorem x_dnotin : tDNotIn ty td σ H Q = ty σ H (fun y H1 => td σ H1 fun x H2 => ∃ a o, x = .ref a ∧ DGet H2 a y o ∧ Q (.bl (!o.isSome)) H2) := rfl
theorem x_dput : sDPut td ty tv D σ H = tv σ H (fun v H1 => td σ H1 fun x H2 => ty σ H2 fun y H3 => ∃ a H4, x = .ref a ∧ DPut H3 a y v H4 ∧ D.nx σ H4) := rfl
theorem x_ikeys {R : It → Hp → Prop} : iKeys td σ H R = td σ H (fun x H1 => ∃ d o, x = .ref d ∧ ((∃ kvs, H1 d = some (.frz o (.dK kvs)) ∧ R (Itk d o kvs) H1) ∨ ∃ kvs, H1 d = some (.frz o (.dT kvs)) ∧ R (Itkt d o kvs) H1)) := rfl
/-- the keys of a locked dict -/
theorem lg_keys {d : Addr} {o : Obj} {kvs : List (Key × V)} (Pv : Nat → L2.St → Hp → Prop) (h0 : Pv 0 σ H) (hl : ∀ i σ H, i ≤ kvs.length → Pv i σ H → H d = some (.frz o (.dK kvs)))
    (hs : ∀ i k v σ H, kvs[i]? = some (k, v) → Pv i σ H → g (kV k) σ H fun σ2 H2 => tb { D with nx := Pv (i + 1), ct := Pv (i + 1), bk := D.nx } σ2 H2) (hd : ∀ σ H, Pv kvs.length σ H → D.nx σ H) : LoopG (Itk d o kvs) g tb D σ H := by
  refine ⟨fun i m σ H => m = kvs.length - i ∧ i ≤ kvs.length ∧ Pv i σ H, ⟨kvs.length, by simp, Nat.zero_le _, h0⟩, ?_⟩
  rintro i m σ H ⟨rfl, hi, p⟩
  have q := hl i σ H hi p
  by_cases hlt : i < kvs.length
  · refine .inr ⟨⟨q, hlt⟩, Pv (i + 1), fun σ' H' p' => ⟨kvs.length - (i + 1), by omega, rfl, hlt, p'⟩, fun x H' y => ?_⟩
    obtain ⟨rfl, k, v, e, rfl⟩ := y
    exact hs i k v σ _ e p
  · have e : i = kvs.length := by omega
    subst e
    exact .inl ⟨⟨q, Nat.le_refl _⟩, hd σ H p⟩
end
theorem frz_ex {H H' : Hp} {d : Addr} {u x : HO} (h : H d = some u) (e : Ex (upd H d x) H') : Ex H (upd H' d u) := fun a o ho => by
  by_cases q : a = d
  · subst q
    rw [upd_same]
    rw [h] at ho
    exact ho
  · rw [upd_ne q]
    exact e a o (by rw [upd_ne q]; exact ho)
theorem ex_frz {H H' : Hp} {d a : Addr} {o : HO} {x : HO} (q : a ≠ d) (ho : H a = some o) (e : Ex (upd H d x) H') : H' a = some o := e a o (by rw [upd_ne q]; exact ho)
/-! ### lists of digits, shown -/
def Dg (t : List Int) : Prop := ∀ n ∈ t, 0 ≤ n ∧ n < 10
def digL (cs : List Nat) : List Int := (cs.filter fun c => decide (48 ≤ c) && decide (c < 58)).map fun c : Nat => (c : Int) - 48
theorem digL_append (a b : List Nat) : digL (a ++ b) = digL a ++ digL b := by
  unfold digL
  rw [List.filter_append, List.map_append]
theorem digL_one : ∀ k : Fin 10, digL (Str.ofString (toString ((k.val : Nat) : Int))).cps.toList = [((k.val : Nat) : Int)] := by decide +kernel
theorem digL_int {n : Int} (h0 : 0 ≤ n) (h1 : n < 10) : digL (Str.ofString (toString n)).cps.toList = [n] := by
  have h := digL_one ⟨n.toNat, by omega⟩
  rw [show ((n.toNat : Nat) : Int) = n by omega] at h
  exact h
theorem digL_join : ∀ ns : List Int, Dg ns → digL (Str.join ", " (ns.map fun n => ((toString n : String) : Str))).cps.toList = ns
  | [], _ => by decide +kernel
  | [n], h => by
    obtain ⟨h0, h1⟩ := h n List.mem_cons_self
    exact digL_int h0 h1
  | n :: m :: ns, h => by
    obtain ⟨h0, h1⟩ := h n List.mem_cons_self
    have ih := digL_join (m :: ns) fun x hx => h x (List.mem_cons_of_mem _ hx)
    show digL ((((toString n : String) : Str) ++ ", " ++ Str.join ", " ((m :: ns).map fun n => ((toString n : String) : Str))).cps.toList) = _
    rw [cps_toList_append, cps_toList_append, digL_append, digL_append, ih, digL_int h0 h1, signs_sep]
    rfl
theorem digL_shown {ns : List Int} (h : Dg ns) : digL (shInts ns).cps.toList = ns := by
  unfold shInts
  rw [PyData.shown_list, PyData.shownAll_ints, cps_toList_append, cps_toList_append, digL_append, digL_append, digL_join ns h, signs_lbrack, signs_rbrack]
  show [] ++ ns ++ [] = ns
  simp
theorem shInts_inj {a b : List Int} (ha : Dg a) (hb : Dg b) (e : shInts a = shInts b) : a = b := by
  rw [← digL_shown ha, ← digL_shown hb, e]
/-! ### dicts by such texts -/
section
variable {α : Type} {f : α → V}
def kx (t : List Int) : Key := Sum.inr (shInts t)
theorem kx_inj {a b : List Int} (ha : Dg a) (hb : Dg b) : kx a = kx b ↔ a = b := ⟨fun e => shInts_inj ha hb (Sum.inr.inj e), fun e => by rw [e]⟩
def ren (f : α → V) (L : List (List Int × α)) : List (Key × V) := L.map fun p => (kx p.1, f p.2)
def getA (L : List (List Int × α)) (t : List Int) : Option α := (L.find? fun p => decide (p.1 = t)).map (·.2)
def putA (L : List (List Int × α)) (t : List Int) (a : α) : List (List Int × α) := if (L.any fun p => decide (p.1 = t)) = true then L.map (fun p => if p.1 = t then (p.1, a) else p) else L ++ [(t, a)]
theorem ren_val (t : List Int) (ht : Dg t) : ∀ L : List (List Int × α), (∀ p ∈ L, Dg p.1) → valV (ren f L) (kx t) = (getA L t).map f
  | [], _ => rfl
  | p :: L, h => by
    have ih := ren_val t ht L fun q hq => h q (List.mem_cons_of_mem _ hq)
    have hp := h p List.mem_cons_self
    show valV ((kx p.1, f p.2) :: ren f L) (kx t) = _
    by_cases e : p.1 = t
    · rw [valV_pos (by show kx p.1 = kx t; rw [e])]
      simp [getA, e]
    · rw [valV_neg (by show ¬ kx p.1 = kx t; rw [kx_inj hp ht]; exact e), ih]
      simp [getA, e]
theorem ren_any (t : List Int) (ht : Dg t) : ∀ L : List (List Int × α), (∀ p ∈ L, Dg p.1) → ((ren f L).any fun kv => decide (kv.1 = kx t)) = L.any fun p => decide (p.1 = t)
  | [], _ => rfl
  | p :: L, h => by
    have ih := ren_any t ht L fun q hq => h q (List.mem_cons_of_mem _ hq)
    have hp := h p List.mem_cons_self
    show (decide (kx p.1 = kx t) || (ren f L).any fun kv => decide (kv.1 = kx t)) = _
    rw [ih, List.any_cons]
    congr 1
    exact decide_eq_decide.mpr (kx_inj hp ht)
theorem ren_put (t : List Int) (ht : Dg t) (a : α) (L : List (List Int × α)) (h : ∀ p ∈ L, Dg p.1) : putK (ren f L) (kx t) (f a) = ren f (putA L t a) := by
  unfold putK putA
  rw [ren_any t ht L h]
  by_cases c : (L.any fun p => decide (p.1 = t)) = true
  · rw [if_pos c, if_pos c]
    unfold ren
    rw [List.map_map, List.map_map]
    refine List.map_congr_left fun p hp => ?_
    show (if kx p.1 = kx t then (kx p.1, f a) else (kx p.1, f p.2)) = _
    by_cases e : p.1 = t
    · rw [if_pos (by rw [e])]
      show _ = (kx (if p.1 = t then (p.1, a) else p).1, f (if p.1 = t then (p.1, a) else p).2)
      rw [if_pos e]
    · rw [if_neg (by rw [kx_inj (h p hp) ht]; exact e)]
      show _ = (kx (if p.1 = t then (p.1, a) else p).1, f (if p.1 = t then (p.1, a) else p).2)
      rw [if_neg e]
  · rw [if_neg c, if_neg c]
    unfold ren
    rw [List.map_append]
    rfl
theorem putA_key {L : List (List Int × α)} {t : List Int} {a : α} {p : List Int × α} (h : p ∈ putA L t a) : p.1 = t ∨ ∃ q ∈ L, q.1 = p.1 := by
  unfold putA at h
  split at h
  · obtain ⟨q, hq, rfl⟩ := List.mem_map.mp h
    refine .inr ⟨q, hq, ?_⟩
    split <;> rfl
  · rcases List.mem_append.mp h with h | h
    · exact .inr ⟨p, h, rfl⟩
    · rw [List.mem_singleton.mp h]
      exact .inl rfl
theorem putA_len (L : List (List Int × α)) (t : List Int) (a : α) : (putA L t a).length ≤ L.length + 1 := by
  unfold putA
  split
  · rw [List.length_map]; omega
  · rw [List.length_append, List.length_singleton]; omega
theorem ren_len (L : List (List Int × α)) : (ren f L).length = L.length := by unfold ren; rw [List.length_map]
theorem ren_at {L : List (List Int × α)} {i : Nat} {k : Key} {v : V} (h : (ren f L)[i]? = some (k, v)) : ∃ t a, L[i]? = some (t, a) ∧ k = kx t ∧ v = f a := by
  unfold ren at h
  rw [List.getElem?_map] at h
  cases e : L[i]? with
  | none => rw [e] at h; cases h
  | some p => rw [e] at h; cases h; exact ⟨p.1, p.2, rfl, rfl, rfl⟩
end
end BC
namespace BC
open PySem PySem.Spec PyProof.Rows L2 Evl
section
variable {α : Type} {f : α → V}
theorem putA_nodup {L : List (List Int × α)} {t : List Int} {a : α} (h : (L.map (·.1)).Nodup) : ((putA L t a).map (·.1)).Nodup := by
  unfold putA
  split
  · rw [List.map_map]
    have e : ((fun p : List Int × α => p.1) ∘ fun p : List Int × α => if p.1 = t then (p.1, a) else p) = fun p => p.1 := funext fun p => by
      show (if p.1 = t then (p.1, a) else p).1 = p.1
      split <;> rfl
    rw [e]
    exact h
  · next c =>
    rw [List.map_append, List.nodup_append]
    refine ⟨h, by simp, fun x hx y hy e => ?_⟩
    obtain ⟨p, hp, rfl⟩ := List.mem_map.mp hx
    have hy' : y = t := by simpa using hy
    refine c (List.any_eq_true.mpr ⟨p, hp, decide_eq_true ?_⟩)
    rw [e, hy']
theorem getA_at : ∀ {L : List (List Int × α)} {i : Nat} {t : List Int} {a : α}, (L.map (·.1)).Nodup → L[i]? = some (t, a) → getA L t = some a
  | [], _, _, _, _, h => by simp at h
  | p :: L, 0, t, a, _, h => by
    have : p = (t, a) := by simpa using h
    subst this
    simp [getA]
  | p :: L, i + 1, t, a, nd, h => by
    rw [List.map_cons, List.nodup_cons] at nd
    have h' : L[i]? = some (t, a) := by simpa using h
    have ih := getA_at nd.2 h'
    have ne : p.1 ≠ t := fun e => nd.1 (List.mem_map.mpr ⟨(t, a), List.mem_of_getElem? h', e.symm⟩)
    unfold getA at ih ⊢
    rw [List.find?_cons, decide_eq_false ne]
    exact ih
end
/-- what stands at a text's key, counted -/
theorem ren_get {L : List (List Int × Int)} {t : List Int} (ht : Dg t) (h : ∀ p ∈ L, Dg p.1) : (valV (ren V.int L) (kx t)).getD (.int 0) = .int ((getA L t).getD 0) := by
  rw [ren_val t ht L h]
  cases getA L t <;> rfl
theorem ints_at {ns : List Int} {i : Nat} {v : V} (h : (ns.map V.int)[i]? = some v) : ∃ n, ns[i]? = some n ∧ v = .int n := by
  rw [List.getElem?_map] at h
  cases e : ns[i]? with
  | none => rw [e] at h; cases h
  | some n => rw [e] at h; cases h; exact ⟨n, rfl, rfl⟩
theorem refs_at {ps : List Addr} {i : Nat} {v : V} (h : (ps.map V.ref)[i]? = some v) : ∃ q, ps[i]? = some q ∧ v = .ref q := by
  rw [List.getElem?_map] at h
  cases e : ps[i]? with
  | none => rw [e] at h; cases h
  | some n => rw [e] at h; cases h; exact ⟨n, rfl, rfl⟩
theorem tyS {K : PySem.W.Frag} {H : Hp} {x : Str} : tyV K "str" (.str x) H := rfl
end BC

set_option Elab.async false
set_option linter.all false
set_option maxRecDepth 100000
set_option maxHeartbeats 4000000
/-! sorted(set(xs)) of a list of numbers -/
namespace BC
open PySem PySem.Spec PyProof.Rows L2 Evl RZ
/-- the set that set() starts with -/
abbrev set0 (w : World) : Obj := { cls := .type "set", dict := none, data := .set #[] 0 (.fresh 0 0 (!w.params.followText "set-order")) }
abbrev with0 (w : World) (s : Shared) : Shared := { s with heap := s.heap.push (set0 w) }
section
variable {P : Program} {w : World} {A : Around} {E : Value → Shared → Prop} {s : Shared}
set_option maxHeartbeats 3200000 in
theorem set_of_list {l : Addr} {its : Array Value} (ns : List Int) {Q : Value → Shared → Prop} (hh : A.handled = none) (hl : s.heap.IsList l its) (hit : IntsAre its.toList ns) (hb : ns.length + 1 < scanBound)
    (fin : ∀ (h' : Heap) (tk c : Nat), SetR w h' s.heap.objs.size (fun j => decide (j ∈ ns)) c → c ≤ ns.length → (∀ b o, s.heap.get? b = some o → h'.get? b = some o) → Q (.ref s.heap.objs.size) { s with heap := h', toks := tk }) :
    wpAny (model P w) A (call (.type "set") [.ref l]) Q E s := by
  have many : its.size = ns.length := by rw [← IntsAre.length hit, Array.length_toList]
  obtain ⟨c, tl, hmro⟩ := F.called_set.mro
  have m1 := F.called_set.made
  have m2 := F.called_set.sub
  refine wpAny_call (codeAny_of_tree (wpAny_pure ⟨Code.quiet_builtin _ (by decide +kernel), codeAny_builtin F.entry_type_call ?_⟩))
  rw [Around.under_plain (weight_type_call_type "set" [.ref l] []) rfl]
  have m3 := F.called_set.notType
  have m4 := F.called_set.canCreate
  have m5 := F.typeCall_set_1 (.ref l)
  repeat (any_goals (first | assumption | wp_step))
  refine codeAny_mono (code_set_led1 (.ref l) (E := E) (Q₁ := fun obj s₁ => obj = .ref s.heap.objs.size ∧ s₁ = with0 w s) ⟨rfl, rfl⟩) fun r s₁ hr => ?_
  match r, hr with
  | .error e, hr => exact hr
  | .ok .next, hr => exact hr.elim
  | .ok .brk, hr => exact hr.elim
  | .ok .cont, hr => exact hr.elim
  | .ok (.ret obj), hr =>
    obtain ⟨rfl, rfl⟩ := hr
    have at0 : (s.heap.push (set0 w)).get? s.heap.objs.size = some (set0 w) := Heap.get?_push_size _ rfl
    have ty0 : Shared.TypeIs (with0 w s) (.ref s.heap.objs.size) "set" := ⟨_, at0, rfl⟩
    have i1 := F.called_set.init.lookup
    have i2 := F.called_set.init.bind (.ref s.heap.objs.size)
    repeat (any_goals (first | assumption | wp_step))
    refine codeAny_mono (codeAny_call_builtin (R := wants (fun r s₂ => r = .none ∧ ∃ h' tk c, s₂ = { s with heap := h', toks := tk } ∧ SetR w h' s.heap.objs.size (fun j => decide (j ∈ ns)) c ∧ c ≤ ns.length ∧ (∀ b o, s.heap.get? b = some o → h'.get? b = some o)) E)
      F.called_set.init.plain F.entry_set_init (check_set_init_1 ty0 ?_)) fun r₂ s₂ hr₂ => ?_
    · obtain ⟨⟨oc, od, dt, osl⟩, old, e1, nl, e2⟩ := hl
      obtain rfl : oc = .type "list" := e1
      obtain rfl : dt = .seq its nl := e2
      have pushed := Heap.get?_push_of_some (set0 w) old
      have isl : (s.heap.push (set0 w)).IsList l its := ⟨_, pushed, rfl, nl, rfl⟩
      have k1 := F.sub_list_set
      have k2 := F.sub_list_frozenset
      have k3 : (Value.type "list" == Value.type "dict") = false := by decide
      have hltl : l < s.heap.objs.size := Heap.lt_size old
      unfold Builtin.«set.__init__» noKeywords Builtin.Frozenset.updateFrom
      generalize hPI : pyIter = PI
      wp_walk
      subst hPI
      refine wpAny_pyIter_list isl (wpAny_bind (wpAny_runValue ?_))
      have calm3 : A.in1.in1.in1.handled = none := by simp [hh]
      have psz : (s.heap.push (set0 w)).objs.size = s.heap.objs.size + 1 := Heap.size_push ..
      have apart : l ≠ (s.heap.push (set0 w)).objs.size := fun z => Nat.lt_irrefl l (by rw [psz] at z; exact Nat.lt_of_lt_of_le hltl (by rw [z]; exact Nat.le_succ _))
      have away : s.heap.objs.size ∉ [(s.heap.push (set0 w)).objs.size, l] := by
        rw [psz]
        intro z
        simp only [List.mem_cons, List.mem_nil_iff, or_false] at z
        rcases z with z | z
        · exact absurd z (Nat.ne_of_lt (Nat.lt_succ_self _))
        · exact absurd z (Nat.ne_of_gt hltl)
      have items : ∀ (i : Nat) (v : Value), its[i]? = some v → ∃ k t, ns[i]? = some k ∧ v = .int k t := fun i v hv => by
        have hi : i < ns.length := by rw [← many]; exact (Array.getElem?_eq_some_iff.mp hv).1
        obtain ⟨t, e⟩ := IntsAre.int_at hit i v (by rw [Array.getElem?_toList]; exact hv)
        refine ⟨ns[i], t, List.getElem?_eq_getElem hi, ?_⟩
        rw [e, List.getD_eq_getElem?_getD, List.getElem?_eq_getElem hi]
        rfl
      refine set_update_ints ((Walks.list calm3 _ l apart its).toS) s.heap.objs.size away ns many hb items its.size 0 _ (by omega) (Nat.zero_le _) ⟨⟨_, Heap.get?_push_size _ rfl, rfl, rfl⟩, (isl.push _)⟩ ⟨0, Nat.le_refl 0, ?_⟩ fun s' c' mv hc' hS' => ?_
      · exact setR_new_at (Heap.get?_push_of_some _ at0)
      · obtain ⟨h', g2, d', tk', os'⟩ := s'
        obtain rfl : g2 = s.gens := mv.gens
        obtain rfl : d' = s.drawn := mv.drawn
        obtain rfl : os' = s.os := mv.os
        refine wpAny_pure (wpAny_pure ⟨rfl, h', tk', c', rfl, hS', by rw [many] at hc'; exact hc', fun b o e => ?_⟩)
        have lt := Heap.lt_size e
        refine mv.heap b o ?_ (Heap.get?_push_of_some _ (Heap.get?_push_of_some _ e))
        intro z
        rw [psz] at z
        simp only [List.mem_cons, List.mem_nil_iff, or_false] at z
        rcases z with z | z
        · exact absurd z (Nat.ne_of_lt lt)
        · exact absurd z (Nat.ne_of_lt (Nat.lt_succ_of_lt lt))
    · match r₂, hr₂ with
      | .error e, hr₂ => exact hr₂
      | .ok .next, hr₂ => exact hr₂.elim
      | .ok .brk, hr₂ => exact hr₂.elim
      | .ok .cont, hr₂ => exact hr₂.elim
      | .ok (.ret r), hr₂ =>
        obtain ⟨rfl, h', tk, c', rfl, q1, q2, q3⟩ := hr₂
        repeat (any_goals (first | assumption | wp_step))
        exact fin _ _ _ q1 q2 q3
end
section
variable {X : Cx} {K : PySem.W.Frag} {a : Expr} {ta : TE} {p p2 q pos : Pos}
/-- sorted(set(xs)): the different numbers in order -/
def tSortSet (K : PySem.W.Frag) (ta : TE) : TE := fun σ H Q => ta σ H fun x H1 => ∃ (l : Addr) (ns : List Int), x = .ref l ∧ SqL K H1 l (ns.map V.int) ∧ ns.length < 64 ∧
  ∀ (ms : List Int) r, ms.Pairwise (· < ·) → (∀ k : Int, k ∈ ms ↔ k ∈ ns) → H1 r = none → Q (.ref r) (upd H1 r (.lst (ms.map V.int)))
theorem k_sortSet (hK : X.K = K) (hg : Gl X "sorted") (hm : X.mg "sorted" = none) (hg2 : Gl X "set") (hm2 : X.mg "set" = none) (ha : PE X a ta) (hc : X.calm = true := by rfl)
    (na : starEach [a] X.env = (false, eval a X.env) :: starEach [] X.env := by rfl) : PE X (.Call (.Name "sorted" p) [.Call (.Name "set" p2) [a] [] q] [] pos) (tSortSet K ta) := by
  subst hK
  refine ⟨fun pins s σ H Q I h => ?_⟩
  refine Call_ (ld_blt I hg hm (show bootBuiltins ("sorted" : Str) = some (.builtin "sorted") by decide +kernel) ?_)
  refine callWith_builtin1 (args_cons ?_ rfl) rfl rfl
  refine Call_ (ld_blt I hg2 hm2 boot_set ?_)
  refine callWith_type1 (args_cons (thn (ha.run pins s σ H _ I h) fun v s1 ⟨x, H1, I1, r1, q1⟩ => args_nil ?_) na) na rfl
  obtain ⟨l, ns, rfl, hq, hl, q1⟩ := q1
  cases r1
  obtain ⟨its, r, pl, hz⟩ := I1.list hq
  refine set_of_list ns (I1.ok.hd hc) pl.isList (by simpa using intsAre_vals r) (by unfold scanBound; omega) fun h' tk c hS hcl hk => ?_
  refine args_nil ?_
  have I2 : Inv X pins σ H1 { s1 with heap := h', toks := tk } := I1.kept hk
  refine sorted_set hS (I2.ok.hd hc) (by omega) fun s' p out c2 ms k g o hp hg hi hs hm hlen => ?_
  have few : (ms.map V.int).length ≤ sizeLine := by rw [List.length_map, hlen, sizeLine_eq]; omega
  have hn : H1 p = none := I2.hok.fresh hp
  have J : Inv X pins σ (upd H1 p (.lst (ms.map V.int))) { ({ s1 with heap := h', toks := tk } : Shared) with heap := s'.heap, gens := s'.gens, drawn := s'.drawn, toks := s'.toks } :=
    I2.call (ch := []) (Un.laid k hp hn) (I2.hok.laid k hp ⟨few, out.toList, c2, vals_of_ints hi, hg⟩) (by rw [g]; exact I2.bare) (fun _ z => nomatch z)
  have e : s' = { ({ s1 with heap := h', toks := tk } : Shared) with heap := s'.heap, gens := s'.gens, drawn := s'.drawn, toks := s'.toks } := by
    cases s'
    cases o
    rfl
  rw [e]
  exact ⟨.ref p, _, J, rfl, q1 ms p hs (fun k => by rw [hm k, decide_eq_true_eq]) hn⟩
theorem x_sortSet {σ : L2.St} {H : Hp} {Q : VK} : tSortSet K ta σ H Q = ta σ H fun x H1 => ∃ (l : Addr) (ns : List Int), x = .ref l ∧ SqL K H1 l (ns.map V.int) ∧ ns.length < 64 ∧
  ∀ (ms : List Int) r, ms.Pairwise (· < ·) → (∀ k : Int, k ∈ ms ↔ k ∈ ns) → H1 r = none → Q (.ref r) (upd H1 r (.lst (ms.map V.int))) := rfl
end
/-- two ascending lists of the same numbers are the same -/
theorem asc_same : ∀ {a b : List Int}, a.Pairwise (· < ·) → b.Pairwise (· < ·) → (∀ k : Int, k ∈ a ↔ k ∈ b) → a = b
  | [], [], _, _, _ => rfl
  | [], y :: b, _, _, h => absurd ((h y).mpr List.mem_cons_self) List.not_mem_nil
  | x :: a, [], _, _, h => absurd ((h x).mp List.mem_cons_self) List.not_mem_nil
  | x :: a, y :: b, ha, hb, h => by
    rw [List.pairwise_cons] at ha hb
    have xy : x = y := by
      have h1 := (h x).mp List.mem_cons_self
      have h2 := (h y).mpr List.mem_cons_self
      rcases List.mem_cons.mp h1 with e | e
      · exact e
      · rcases List.mem_cons.mp h2 with e2 | e2
        · exact e2.symm
        · have := ha.1 y e2
          have := hb.1 x e
          omega
    subst xy
    rw [asc_same ha.2 hb.2 fun k => ⟨fun m => by
      rcases List.mem_cons.mp ((h k).mp (List.mem_cons_of_mem _ m)) with e | e
      · subst e; have := ha.1 k m; omega
      · exact e, fun m => by
      rcases List.mem_cons.mp ((h k).mpr (List.mem_cons_of_mem _ m)) with e | e
      · subst e; have := hb.1 k m; omega
      · exact e⟩]
end BC

set_option Elab.async false
set_option linter.all false
set_option maxRecDepth 100000
set_option maxHeartbeats 4000000
/-! sites: lists of lists of natural numbers, and how they lie in the heap -/
namespace BC
open PySem PySem.Spec PyProof.Rows L2 Evl
/-! ### xs + ys of lists of any origin -/
section
variable {prog : Program} {w : World} {A : Around} {E : Value → Shared → Prop} {s : Shared}
theorem add_plain {l b : Addr} {its its2 : Array Value} {Q : Value → Shared → Prop} (x : PlainL s.heap l its) (y : PlainL s.heap b its2) (fits : its.size + its2.size ≤ sizeLine)
    (q : Q (.ref s.heap.objs.size) { s with heap := s.heap.push { cls := .type "list", data := .seq (its ++ its2) } }) : wpAny (model prog w) A (binaryOp .Add (.ref l) (.ref b)) Q E s := by
  obtain ⟨⟨c1, d1, k1, z1⟩, n1, g1, e1, e2, e3⟩ := x
  obtain ⟨⟨c2, d2, k2, z2⟩, n2, g2, e4, e5, e6⟩ := y
  obtain rfl : c1 = .type "list" := e1
  obtain rfl : c2 = .type "list" := e4
  obtain rfl : k1 = .seq its n1 := e3
  obtain rfl : k2 = .seq its2 n2 := e6
  exact concat_meets ⟨_, g1, rfl⟩ ⟨_, g2, rfl⟩ noFill_list_add seq_list_add F.slot_list_add F.entry_list_add (F.args_list_add_2 _ _) (list_addW l b its its2 n1 n2 d1 d2 z1 z2 fits) ⟨g1, g2, q⟩
end
def rCatS (K : PySem.W.Frag) : R2 := fun x y H Q => ∃ l b xs zs, x = .ref l ∧ y = .ref b ∧ SqL K H l xs ∧ SqL K H b zs ∧ xs.length + zs.length ≤ sizeLine ∧ ∀ p, H p = none → Q (.ref p) (upd H p (.lst (xs ++ zs)))
theorem k_catS {X : Cx} {K : PySem.W.Frag} (hK : X.K = K) : OpR X (binaryOp .Add) (rCatS K) := by
  subst hK
  intro pins s σ H x y v u Q I rx ry h
  obtain ⟨l, b, xs, zs, rfl, rfl, hH, hB, hz, q⟩ := h
  cases rx
  cases ry
  obtain ⟨its, r, p1, _⟩ := I.list hH
  obtain ⟨its2, r2, p2, _⟩ := I.list hB
  have l1 := r.length
  have l2 := r2.length
  refine add_plain p1 p2 (by rw [List.size_toArray, List.size_toArray]; omega) ?_
  have ea : its.toArray ++ its2.toArray = (its ++ its2).toArray := by simp
  rw [ea]
  exact ⟨.ref _, _, I.lnew (t' := s.toks) (r.append r2) (by rw [List.length_append]; omega), rfl, q _ I.fresh⟩
theorem catS {K : PySem.W.Frag} {H : Hp} {Q : VK} {p b : Addr} {xs ys : List V} (h : SqL K H p xs) (hb : SqL K H b ys) (hz : xs.length + ys.length ≤ sizeLine) (q : ∀ l, H l = none → Q (.ref l) (upd H l (.lst (xs ++ ys)))) : rCatS K (.ref p) (.ref b) H Q := ⟨p, b, xs, ys, rfl, rfl, h, hb, hz, q⟩
/-- natural numbers as the program's -/
def nz (L : List Nat) : List Int := L.map fun x : Nat => (x : Int)
theorem nz_len (L : List Nat) : (nz L).length = L.length := List.length_map _
theorem nz_at {L : List Nat} {i x : Nat} (h : L[i]? = some x) : ((nz L).map V.int)[i]? = some (.int (x : Int)) := by
  unfold nz
  rw [List.getElem?_map, List.getElem?_map, h]
  rfl
theorem at_nz {L : List Nat} {i : Nat} {v : V} (h : ((nz L).map V.int)[i]? = some v) : ∃ x, L[i]? = some x ∧ v = .int (x : Int) := by
  unfold nz at h
  rw [List.getElem?_map, List.getElem?_map] at h
  cases e : L[i]? with
  | none => rw [e] at h; cases h
  | some x => rw [e] at h; cases h; exact ⟨x, rfl, rfl⟩
theorem nz_mem {L : List Nat} {x : Nat} : ((x : Nat) : Int) ∈ nz L ↔ x ∈ L := by
  unfold nz
  rw [List.mem_map]
  exact ⟨fun ⟨y, h, e⟩ => by rw [← Int.ofNat.inj e]; exact h, fun h => ⟨x, h, rfl⟩⟩
theorem nz_inj : ∀ {a b : List Nat}, nz a = nz b → a = b
  | [], [], _ => rfl
  | [], y :: b, h => by cases h
  | x :: a, [], h => by cases h
  | x :: a, y :: b, h => by
    have h1 := (List.cons.inj h).1
    have h2 := (List.cons.inj h).2
    rw [nz_inj (show nz a = nz b from h2), Int.ofNat.inj h1]
theorem nz_app (a b : List Nat) : nz (a ++ b) = nz a ++ nz b := List.map_append
theorem nz_v (a : List Nat) (x : Nat) : (nz a).map V.int ++ [V.int (x : Int)] = (nz (a ++ [x])).map V.int := by rw [nz_app, List.map_append]; rfl
theorem lts {l : List Nat} (h : l.Pairwise (· < ·)) : (nz l).Pairwise (· < ·) := by
  unfold nz
  rw [List.pairwise_map]
  exact h.imp fun h => by omega
theorem nz_nodup {l : List Nat} (h : l.Nodup) : (nz l).Nodup := by
  unfold nz List.Nodup
  rw [List.pairwise_map]
  exact h.imp fun h e => h (Int.ofNat.inj e)
theorem nodup_lt : ∀ (n : Nat) {l : List Nat}, l.Nodup → (∀ x ∈ l, x < n) → l.length ≤ n
  | 0, [], _, _ => Nat.le_refl _
  | 0, x :: l, _, h => by have := h x List.mem_cons_self; omega
  | n + 1, l, h1, h2 => by
    by_cases m : n ∈ l
    · have h3 := nodup_lt n (l := l.erase n) (h1.erase _) (fun x hx => by
        have a := h2 x (List.mem_of_mem_erase hx)
        have b : x ≠ n := fun e => by
          rw [h1.mem_erase_iff] at hx
          exact hx.1 e
        omega)
      have := List.length_erase_of_mem m
      omega
    · have h3 := nodup_lt n h1 (fun x hx => by
        have a := h2 x hx
        have b : x ≠ n := fun e => m (e ▸ hx)
        omega)
      omega
theorem asc_nodup {l : List Nat} (h : l.Pairwise (· < ·)) : l.Nodup := h.imp fun h => by omega
/-! ### sites -/
abbrev Grid := List (List Nat)
structure SiteOk (G : Grid) : Prop where
  n1 : 1 ≤ G.length
  n2 : G.length ≤ 12
  asc : ∀ (i : Nat) (r : List Nat), G[i]? = some r → r.Pairwise (· < ·)
  lt : ∀ (i : Nat) (r : List Nat), G[i]? = some r → ∀ x ∈ r, x < G.length
  no : ∀ (i : Nat) (r : List Nat), G[i]? = some r → i ∉ r
theorem SiteOk.len {G : Grid} (h : SiteOk G) {i : Nat} {r : List Nat} (e : G[i]? = some r) : r.length ≤ 12 := Nat.le_trans (nodup_lt _ (asc_nodup (h.asc i r e)) (h.lt i r e)) h.n2
/-- the row of a page -/
def row (G : Grid) (i : Nat) : List Nat := G.getD i []
theorem row_at {G : Grid} {i : Nat} {r : List Nat} (h : G[i]? = some r) : row G i = r := by
  unfold row
  rw [List.getD_eq_getElem?_getD, h]
  rfl
theorem at_row {G : Grid} {i : Nat} (h : i < G.length) : G[i]? = some (row G i) := by
  unfold row
  rw [List.getD_eq_getElem?_getD, List.getElem?_eq_getElem h]
  rfl
theorem SiteOk.rlt {G : Grid} (h : SiteOk G) {i x : Nat} (m : x ∈ row G i) : x < G.length := by
  by_cases q : i < G.length
  · exact h.lt i _ (at_row q) x m
  · unfold row at m
    rw [List.getD_eq_getElem?_getD, List.getElem?_eq_none (by omega)] at m
    exact (List.not_mem_nil m).elim
theorem SiteOk.rlen {G : Grid} (h : SiteOk G) (i : Nat) : (row G i).length ≤ 12 := by
  by_cases q : i < G.length
  · exact h.len (at_row q)
  · unfold row
    rw [List.getD_eq_getElem?_getD, List.getElem?_eq_none (by omega)]
    exact Nat.zero_le _
/-- a list at s of lists of numbers -/
def GridAt (H : Hp) (s : Addr) (G : Grid) : Prop := ∃ ps : List Addr, H s = some (.lst (ps.map V.ref)) ∧ ps.length = G.length ∧ ∀ i p, ps[i]? = some p → H p = some (.lst ((nz (row G i)).map V.int))
theorem GridAt.ex {H H' : Hp} {s : Addr} {G : Grid} (h : GridAt H s G) (e : Ex H H') : GridAt H' s G := by
  obtain ⟨ps, h1, h2, h3⟩ := h
  exact ⟨ps, e _ _ h1, h2, fun i p q => e _ _ (h3 i p q)⟩
theorem GridAt.get {H : Hp} {s : Addr} {G : Grid} (h : GridAt H s G) {i : Nat} (hi : i < G.length) : ∃ p xs, H s = some (.lst xs) ∧ xs.length = G.length ∧ xs[i]? = some (.ref p) ∧ H p = some (.lst ((nz (row G i)).map V.int)) := by
  obtain ⟨ps, h1, h2, h3⟩ := h
  have hx : ps[i]? = some ps[i] := List.getElem?_eq_getElem (by omega)
  exact ⟨ps[i], _, h1, by rw [List.length_map]; exact h2, by rw [List.getElem?_map, hx]; rfl, h3 i _ hx⟩
theorem GridAt.lst {H : Hp} {s : Addr} {G : Grid} (h : GridAt H s G) : ∃ xs, H s = some (.lst xs) ∧ xs.length = G.length ∧ ∀ (i : Nat) (v : V), xs[i]? = some v → i < G.length ∧ ∃ p, v = .ref p ∧ H p = some (.lst ((nz (row G i)).map V.int)) := by
  obtain ⟨ps, h1, h2, h3⟩ := h
  refine ⟨_, h1, by rw [List.length_map]; exact h2, fun i v e => ?_⟩
  rw [List.getElem?_map] at e
  cases q : ps[i]? with
  | none => rw [q] at e; cases e
  | some p =>
    rw [q] at e
    cases e
    exact ⟨by have := (List.getElem?_eq_some_iff.mp q).1; omega, p, rfl, h3 i p q⟩
/-- such a list, all of it new -/
def GridN (H H' : Hp) (s : Addr) (G : Grid) : Prop := H s = none ∧ ∃ ps : List Addr, H' s = some (.lst (ps.map V.ref)) ∧ ps.length = G.length ∧ ps.Nodup ∧ s ∉ ps ∧ ∀ i p, ps[i]? = some p → H p = none ∧ H' p = some (.lst ((nz (row G i)).map V.int))
theorem GridN.at {H H' : Hp} {s : Addr} {G : Grid} (h : GridN H H' s G) : GridAt H' s G := by
  obtain ⟨_, ps, h1, h2, _, _, h3⟩ := h
  exact ⟨ps, h1, h2, fun i p q => (h3 i p q).2⟩
theorem GridN.ex {H H' H2 : Hp} {s : Addr} {G : Grid} (h : GridN H H' s G) (e : Ex H' H2) : GridN H H2 s G := by
  obtain ⟨h0, ps, h1, h2, h4, h5, h3⟩ := h
  exact ⟨h0, ps, e _ _ h1, h2, h4, h5, fun i p q => ⟨(h3 i p q).1, e _ _ (h3 i p q).2⟩⟩
theorem GridN.back {H0 H H' : Hp} {s : Addr} {G : Grid} (h : GridN H H' s G) (e : Ex H0 H) : GridN H0 H' s G := by
  obtain ⟨h0, ps, h1, h2, h4, h5, h3⟩ := h
  exact ⟨fresh_back e h0, ps, h1, h2, h4, h5, fun i p q => ⟨fresh_back e (h3 i p q).1, (h3 i p q).2⟩⟩
/-- what was new after Hc stands -/
def Nw (Hc H H' : Hp) : Prop := ∀ x o, Hc x = none → H x = some o → H' x = some o
theorem Nw.of {Hc H H' : Hp} (e : Ex H H') : Nw Hc H H' := fun x o _ h => e x o h
theorem Nw.trans {Hc H H' H'' : Hp} (e : Nw Hc H H') (f : Nw Hc H' H'') : Nw Hc H H'' := fun x o n h => f x o n (e x o n h)
theorem Nw.fx {Hc H H' : Hp} {b : Addr} {o : HO} (h : Hc b = some o) (f : Fx b H H') : Nw Hc H H' := fun x v n g => f x v (fun e => by subst e; rw [h] at n; cases n) g
theorem Nw.put {Hc H : Hp} {a : Addr} {o u : HO} (h : Hc a = some u) : Nw Hc H (upd H a o) := fun x v n g => by
  rw [upd_ne (fun e => by subst e; rw [h] at n; cases n)]
  exact g
theorem GridN.nw {H H1 H2 : Hp} {s : Addr} {G : Grid} (h : GridN H H1 s G) (e : Nw H H1 H2) : GridN H H2 s G := by
  obtain ⟨h0, ps, h1, h2, h4, h5, h3⟩ := h
  exact ⟨h0, ps, e _ _ h0 h1, h2, h4, h5, fun i p q => ⟨(h3 i p q).1, e _ _ (h3 i p q).1 (h3 i p q).2⟩⟩
/-- one row more, made while the grid stood -/
theorem GridN.push {H H1 H' : Hp} {s p : Addr} {G : Grid} {r : List Nat} (h : GridN H H1 s G) (nH : H p = none) (np : H1 p = none) (e : Nw H H1 H') (hp : H' p = some (.lst ((nz r).map V.int))) :
    ∃ xs, H' s = some (.lst xs) ∧ xs.length = G.length ∧ GridN H (upd H' s (.lst (xs ++ [.ref p]))) s (G ++ [r]) := by
  have q1 := h
  obtain ⟨h0, ps, h1, h2, h4, h5, h3⟩ := h
  have hs : p ≠ s := Ne.symm (ne_of_none h1 np)
  refine ⟨_, e _ _ h0 h1, by rw [List.length_map]; exact h2, h0, ps ++ [p], by rw [upd_same, List.map_append]; rfl, by rw [List.length_append, List.length_append, h2]; rfl, ?_, ?_, fun i q eq => ?_⟩
  · rw [List.nodup_append]
    refine ⟨h4, by simp, fun a ha b hb e => ?_⟩
    rw [List.mem_singleton.mp hb] at e
    subst e
    obtain ⟨j, hj, ej⟩ := List.getElem_of_mem ha
    have := (h3 j a (List.getElem?_eq_some_iff.mpr ⟨hj, ej⟩)).2
    rw [np] at this
    cases this
  · intro m
    rcases List.mem_append.mp m with m | m
    · exact h5 m
    · exact hs (List.mem_singleton.mp m).symm
  · by_cases hi : i < ps.length
    · rw [List.getElem?_append_left hi] at eq
      have := h3 i q eq
      have ns : q ≠ s := fun z => h5 (z ▸ List.mem_of_getElem? eq)
      refine ⟨this.1, ?_⟩
      rw [upd_ne ns, e _ _ this.1 this.2]
      unfold row
      rw [List.getD_eq_getElem?_getD, List.getD_eq_getElem?_getD, List.getElem?_append_left (by omega)]
    · rw [List.getElem?_append_right (by omega)] at eq
      have hi2 : i - ps.length = 0 := by
        have := (List.getElem?_eq_some_iff.mp eq).1
        rw [List.length_singleton] at this
        omega
      rw [hi2] at eq
      obtain rfl : p = q := by simpa using eq
      refine ⟨nH, ?_⟩
      rw [upd_ne hs, hp]
      unfold row
      have : i = G.length := by omega
      rw [this, List.getD_eq_getElem?_getD, List.getElem?_append_right (Nat.le_refl _), Nat.sub_self]
      rfl
theorem GridN.nil {H : Hp} {s : Addr} (h : H s = none) : GridN H (upd H s (.lst [])) s [] := ⟨h, [], upd_same, rfl, List.nodup_nil, List.not_mem_nil, fun i p e => by simp at e⟩
/-- as data -/
def dG (G : Grid) : PyData := .list (G.map fun r => .list ((nz r).map PyData.int))
theorem dG_LL (G : Grid) : dG G = dLL (G.map nz) := by unfold dG dLL; rw [List.map_map]; rfl
theorem GridAt.dp {K : PySem.W.Frag} {H : Hp} {s : Addr} {G : Grid} (h : GridAt H s G) : Dp K H (.ref s) (dG G) := by
  obtain ⟨ps, h1, h2, h3⟩ := h
  rw [dG_LL]
  refine .lst (.inl (.inl h1)) (dp_ll (by rw [List.length_map]; exact h2) fun i p l a b => ?_)
  rw [List.getElem?_map] at b
  cases q : G[i]? with
  | none => rw [q] at b; cases b
  | some r =>
    rw [q] at b
    cases b
    have := h3 i p a
    rw [row_at q] at this
    exact .inl (.inl this)
theorem shp_LL (ls : List (List Int)) : SeqAt.shaped (dLL ls) = true := by
  have h0 : ∀ ns : List Int, PyData.canLayAll0 (ns.map PyData.int) = true := fun ns => by
    induction ns with
    | nil => simp [PyData.canLayAll0]
    | cons n ns ih => simp [PyData.canLayAll0, PyData.canLay0, ih]
  have h1 : ∀ ls : List (List Int), PyData.canLayAll0 (ls.map fun l => PyData.list (l.map PyData.int)) = true := fun ls => by
    induction ls with
    | nil => simp [PyData.canLayAll0]
    | cons l ls ih => simp [PyData.canLayAll0, PyData.canLay0, ih, h0]
  have h2 := dep_all (ds := ls.map fun l => PyData.list (l.map PyData.int)) (n := 1) fun d m => by
      obtain ⟨l, hm, rfl⟩ := List.mem_map.mp m
      simp only [PyData.depth]
      have := dep_all (ds := l.map PyData.int) (n := 0) fun d m => by
        obtain ⟨x, hx, rfl⟩ := List.mem_map.mp m
        simp [PyData.depth]
      omega
  show (PyData.canLay0 _ && decide (PyData.depth _ ≤ 64)) = true
  rw [Bool.and_eq_true]
  refine ⟨?_, decide_eq_true ?_⟩
  · unfold dLL; simp only [PyData.canLay0]; exact h1 ls
  · unfold dLL; simp only [PyData.depth]; omega
theorem eqv_LL : ∀ as bs : List (List Int), PyData.eqv (dLL as) (dLL bs) = decide (as = bs) := fun as bs => by
  unfold dLL
  simp only [PyData.eqv]
  induction as generalizing bs with
  | nil => cases bs <;> simp [PyData.eqvAll]
  | cons a as ih =>
    cases bs with
    | nil => simp [PyData.eqvAll]
    | cons b bs =>
      simp only [List.map_cons, PyData.eqvAll, eqv_ints, ih]
      by_cases h : a = b
      · subst h; simp
      · simp [h]
theorem nzs_inj : ∀ {a b : Grid}, a.map nz = b.map nz → a = b
  | [], [], _ => rfl
  | [], y :: b, h => by cases h
  | x :: a, [], h => by cases h
  | x :: a, y :: b, h => by
    rw [List.map_cons, List.map_cons] at h
    rw [nz_inj (List.cons.inj h).1, nzs_inj (List.cons.inj h).2]
theorem eqGrid {K : PySem.W.Frag} {H : Hp} {Q : VK} {a b : Addr} {F G : Grid} (h : GridAt H a F) (g : GridAt H b G) (q : Q (.bl (decide (F = G))) H) : rEqD K (.ref a) (.ref b) H Q := by
  have e : decide (F.map nz = G.map nz) = decide (F = G) := by
    by_cases z : F = G
    · rw [z, decide_eq_true rfl, decide_eq_true rfl]
    · rw [decide_eq_false z, decide_eq_false fun y => z (nzs_inj y)]
  refine ⟨_, _, h.dp, g.dp, by rw [dG_LL]; exact shp_LL _, by rw [dG_LL]; exact shp_LL _, ?_⟩
  rw [dG_LL, dG_LL, eqv_LL, e]
  exact q
theorem neGrid {K : PySem.W.Frag} {H : Hp} {Q : VK} {a b : Addr} {F G : Grid} (h : GridAt H a F) (g : GridAt H b G) (q : Q (.bl (!decide (F = G))) H) : rNeD K (.ref a) (.ref b) H Q := by
  have e : decide (F.map nz = G.map nz) = decide (F = G) := by
    by_cases z : F = G
    · rw [z, decide_eq_true rfl, decide_eq_true rfl]
    · rw [decide_eq_false z, decide_eq_false fun y => z (nzs_inj y)]
  refine ⟨_, _, h.dp, g.dp, by rw [dG_LL]; exact shp_LL _, by rw [dG_LL]; exact shp_LL _, ?_⟩
  rw [dG_LL, dG_LL, eqv_LL, e]
  exact q
theorem at_ints {ns : List Int} {i : Nat} {n : Int} (h : ns[i]? = some n) : (ns.map V.int)[i]? = some (.int n) := by rw [List.getElem?_map, h]; rfl
theorem atI_last {xs : List V} {v : V} (h : xs[xs.length - 1]? = some v) : atI xs (-1) = some v := by
  have hl : xs.length - 1 < xs.length := (List.getElem?_eq_some_iff.mp h).1
  have e : ixN xs.length (-1) = some (xs.length - 1) := by
    unfold ixN
    rw [if_neg (by omega), if_pos (by omega)]
    congr 1
    omega
  unfold atI
  rw [e]
  exact h
theorem cutV_from1 (xs : List V) : cutV xs (some 1) none = xs.drop 1 := by
  unfold cutV
  have e2 : HT.sIx xs.length xs.length none = xs.length := rfl
  have e1 : HT.sIx xs.length 0 (some 1) = min 1 xs.length := HT.sIx_nat ..
  rw [e1, e2]
  by_cases h : 1 ≤ xs.length
  · rw [Nat.min_eq_left h, List.take_of_length_le (by rw [List.length_drop]; omega)]
  · have : xs = [] := List.length_eq_zero_iff.mp (by omega)
    rw [this]
    rfl
theorem cut_take (xs : List V) (j : Nat) : cutV xs none (some (j : Int)) = xs.take j := by
  by_cases h : j ≤ xs.length
  · exact BC.cut_to xs rfl h
  · unfold cutV
    have e1 : HT.sIx xs.length 0 none = 0 := rfl
    rw [HT.sIx_nat, e1, List.drop_zero, Nat.sub_zero, Nat.min_eq_right (by omega), List.take_length, List.take_of_length_le (by omega)]
theorem GridN.get {H H' : Hp} {s : Addr} {G : Grid} (h : GridN H H' s G) {i : Nat} (hi : i < G.length) : ∃ p xs, H' s = some (.lst xs) ∧ xs.length = G.length ∧ xs[i]? = some (.ref p) ∧ H' p = some (.lst ((nz (row G i)).map V.int)) ∧ H p = none := by
  obtain ⟨_, ps, h1, h2, _, _, h3⟩ := h
  have hx : ps[i]? = some ps[i] := List.getElem?_eq_getElem (by omega)
  exact ⟨ps[i], _, h1, by rw [List.length_map]; exact h2, by rw [List.getElem?_map, hx]; rfl, (h3 i _ hx).2, (h3 i _ hx).1⟩
theorem GridN.lower {Hl H H' : Hp} {b s : Addr} {G : Grid} (h : GridN H H' s G) (f : Fx b Hl H) (hb : ∃ o, H b = some o) : GridN Hl H' s G := by
  obtain ⟨o, ho⟩ := hb
  obtain ⟨h0, ps, h1, h2, h4, h5, h3⟩ := h
  have nb : ∀ {x : Addr}, H x = none → x ≠ b := fun n e => by subst e; rw [ho] at n; cases n
  exact ⟨fx_none f h0 (nb h0), ps, h1, h2, h4, h5, fun i p q => ⟨fx_none f (h3 i p q).1 (nb (h3 i p q).1), (h3 i p q).2⟩⟩
theorem nd_at {l : List Addr} (h : l.Nodup) {i j : Nat} {x : Addr} (a : l[i]? = some x) (b : l[j]? = some x) : i = j := by
  obtain ⟨h1, h2⟩ := List.getElem?_eq_some_iff.mp a
  obtain ⟨h3, h4⟩ := List.getElem?_eq_some_iff.mp b
  have e1 := h.idxOf_getElem i h1
  have e2 := h.idxOf_getElem j h3
  rw [h2] at e1
  rw [h4] at e2
  exact e1.symm.trans e2
/-- kept of a list -/
theorem kept_nz (s : List Nat) (k : Nat → Bool) : kept s.length (fun i => k (s.getD i 0)) (fun i => V.int ((s.getD i 0 : Nat) : Int)) = (nz (s.filter k)).map V.int := by
  unfold kept nz
  have e : (List.range s.length).map (fun i => s.getD i 0) = s := by
    apply List.ext_getElem?
    intro j
    by_cases h : j < s.length
    · rw [List.getElem?_map, List.getElem?_range h, List.getElem?_eq_getElem h]
      show some (s.getD j 0) = _
      rw [List.getD_eq_getElem?_getD, List.getElem?_eq_getElem h]
      rfl
    · rw [List.getElem?_eq_none (by rw [List.length_map, List.length_range]; omega), List.getElem?_eq_none (by omega)]
  conv => rhs; rw [← e]
  rw [List.filter_map, List.map_map, List.map_map]
  rfl
theorem kept_rng (n : Nat) (k : Nat → Bool) : kept n k (fun i => V.int ((i : Nat) : Int)) = (nz ((List.range n).filter k)).map V.int := by
  unfold kept nz
  rw [List.map_map]
  rfl
/-- zip of lists of different lengths -/
theorem lc_zipM {K : PySem.W.Frag} {σ : L2.St} {H1 : Hp} {tt : TT} {te : TE} {vs : List Nat} {Dl : Addr} {Q : VK} {a b : Addr} {xs ys : List V} {j k : Nat} (n : Nat) (keep : Nat → Bool) (f : Nat → V) (hx : SqL K H1 a xs) (hy : SqL K H1 b ys) (h1 : n ≤ xs.length) (h2 : n ≤ ys.length) (h3 : n = xs.length ∨ n = ys.length) (hD : H1 Dl = none) (hn : n ≤ 100000)
    (hw : ∀ u v : V, wipe (((wipe σ vs).set j (some u)).set k (some v)) vs = wipe σ vs)
    (ht : ∀ i x y, xs[i]? = some x → ys[i]? = some y → Evl.EvT tt (((wipe σ vs).set j (some x)).set k (some y)) H1 (keep i))
    (he : ∀ i x y, xs[i]? = some x → ys[i]? = some y → keep i = true → Evl.Ev te (((wipe σ vs).set j (some x)).set k (some y)) H1 (f i))
    (hd : ∀ H', Evl.Ex H1 H' → H' Dl = some (.lst (kept n keep f)) → Q (.ref Dl) H') : LcG (Itz K a b) (gTup K 2 (gCons (gName j) (gCons (gName k) gNil))) tt te vs σ Dl H1 Q := by
  have gx : ∀ i, i < n → xs[i]? = some (xs.getD i .non) := fun i hi => by rw [List.getD_eq_getElem?_getD, List.getElem?_eq_getElem (by omega)]; rfl
  have gy : ∀ i, i < n → ys[i]? = some (ys.getD i .non) := fun i hi => by rw [List.getD_eq_getElem?_getD, List.getElem?_eq_getElem (by omega)]; rfl
  refine lc_pure n (fun i => ((wipe σ vs).set j (some (xs.getD i .non))).set k (some (ys.getD i .non))) keep f hD hn (fun H' e => ⟨xs, ys, Evl.ex_l e hx, Evl.ex_l e hy, by omega⟩)
    (fun i H' hi e => ⟨xs, ys, _, _, Evl.ex_l e hx, Evl.ex_l e hy, gx i hi, gy i hi⟩)
    (fun i H' x H'' QG hi e y q => ?_) (fun i hi => hw _ _) (fun i hi => ht i _ _ (gx i hi) (gy i hi)) (fun i hi => he i _ _ (gx i hi) (gy i hi)) hd
  obtain ⟨T, u, v, rfl, hT, rfl, hf, hf2⟩ := y
  have hu := hf xs (Evl.ex_l e hx)
  have hv := hf2 ys (Evl.ex_l e hy)
  have e1 : xs.getD i .non = u := by rw [List.getD_eq_getElem?_getD, hu]; rfl
  have e2 : ys.getD i .non = v := by rw [List.getD_eq_getElem?_getD, hv]; rfl
  refine g_two upd_same ?_
  have q2 := q (Evl.Ex.new hT)
  rw [e1, e2] at q2
  exact q2
end BC

set_option Elab.async false
namespace FM
def cf (m t l : Nat) : Int := if l = 0 then (if t = 0 then 1 else 0) else if t < l then 0 else if t = l then 1 else (l : Int) * (m : Int) ^ (t - l - 1)
def lg (m t l : Nat) : Int := if t < l then 0 else (m : Int) ^ (t - l)
theorem lg_step (m t l : Nat) : cf m t l + ((m : Int) - l) * lg m t (l + 1) = lg m t l := by
  unfold cf lg
  by_cases h0 : l = 0
  · subst h0
    by_cases h1 : t = 0
    · subst h1; simp
    · obtain ⟨s, rfl⟩ : ∃ s, t = s + 1 := ⟨t - 1, by omega⟩
      simp [Int.pow_succ]
      grind
  · rw [if_neg h0]
    by_cases h1 : t < l
    · rw [if_pos h1, if_pos (by omega), if_pos h1]; simp
    · rw [if_neg h1, if_neg h1]
      by_cases h2 : t = l
      · subst h2
        simp
      · rw [if_neg h2, if_neg (by omega)]
        obtain ⟨s, rfl⟩ : ∃ s, t = l + 1 + s := ⟨t - l - 1, by omega⟩
        have e1 : l + 1 + s - l - 1 = s := by omega
        have e2 : l + 1 + s - (l + 1) = s := by omega
        have e3 : l + 1 + s - l = s + 1 := by omega
        rw [e1, e2, e3, Int.pow_succ]
        grind
theorem cf_step (m t l : Nat) (h : 1 ≤ l) : cf m t (l - 1) + lg m t l = cf m (t + 1) l := by
  obtain ⟨k, rfl⟩ : ∃ k, l = k + 1 := ⟨l - 1, by omega⟩
  unfold cf lg
  rw [Nat.add_sub_cancel, if_neg (show ¬ k + 1 = 0 by omega)]
  by_cases h0 : k = 0
  · subst h0
    by_cases h1 : t = 0
    · subst h1; simp
    · rw [if_pos rfl, if_neg h1, if_neg (by omega), if_neg (by omega), if_neg (by omega)]
      simp
  · rw [if_neg h0]
    by_cases h1 : t < k
    · rw [if_pos h1, if_pos (by omega), if_pos (by omega)]; simp
    · rw [if_neg h1]
      by_cases h2 : t = k
      · subst h2
        simp
      · rw [if_neg h2, if_neg (by omega), if_neg (by omega), if_neg (by omega)]
        obtain ⟨s, rfl⟩ : ∃ s, t = k + 1 + s := ⟨t - k - 1, by omega⟩
        have e1 : k + 1 + s - k - 1 = s := by omega
        have e2 : k + 1 + s - (k + 1) = s := by omega
        have e3 : k + 1 + s + 1 - (k + 1) - 1 = s := by omega
        rw [e1, e2, e3]
        grind
def pf (m : Nat) : Nat → Int
  | 0 => 1
  | l + 1 => pf m l * ((m : Int) - l)
def fl (m t l : Nat) : Int := pf m l * cf m t l
def TT (m t k : Nat) : Int := pf m k * lg m t k
theorem fl_TT (m t l : Nat) : fl m t l + TT m t (l + 1) = TT m t l := by
  unfold fl TT
  rw [← lg_step m t l]
  show pf m l * cf m t l + pf m l * ((m : Int) - l) * lg m t (l + 1) = _
  grind
def sumTo (f : Nat → Int) : Nat → Int
  | 0 => 0
  | n + 1 => sumTo f n + f n
theorem sum_fl (m t : Nat) : ∀ k, sumTo (fl m t) k + TT m t k = (m : Int) ^ t
  | 0 => by
    show (0 : Int) + pf m 0 * lg m t 0 = _
    unfold lg
    rw [if_neg (by omega)]
    show (0 : Int) + 1 * (m : Int) ^ (t - 0) = _
    simp
  | k + 1 => by
    have ih := sum_fl m t k
    have e := fl_TT m t k
    show sumTo (fl m t) k + fl m t k + TT m t (k + 1) = _
    omega
theorem pf_zero (m : Nat) : pf m (m + 1) = 0 := by
  show pf m m * ((m : Int) - m) = 0
  simp
theorem TT_zero (m t : Nat) : TT m t (m + 1) = 0 := by
  unfold TT
  rw [pf_zero]
  simp
theorem sum_all (m t : Nat) : sumTo (fl m t) (m + 1) = (m : Int) ^ t := by
  have h := sum_fl m t (m + 1)
  rw [TT_zero] at h
  omega
theorem sum_lfl (m t : Nat) : ∀ k : Nat, sumTo (fun l => (l : Int) * fl m t l) k + (k : Int) * TT m t k = sumTo (fun l => TT m t (l + 1)) k
  | 0 => by simp [sumTo]
  | k + 1 => by
    have ih := sum_lfl m t k
    have e := fl_TT m t k
    show sumTo (fun l => (l : Int) * fl m t l) k + (k : Int) * fl m t k + ((k + 1 : Nat) : Int) * TT m t (k + 1) = sumTo (fun l => TT m t (l + 1)) k + TT m t (k + 1)
    rw [← ih, ← e]
    grind
def top (m t : Nat) : Int := sumTo (fun l => TT m t (l + 1)) m
theorem top_eq (m t : Nat) : sumTo (fun l => (l : Int) * fl m t l) (m + 1) = top m t := by
  have h := sum_lfl m t (m + 1)
  rw [TT_zero] at h
  have e : sumTo (fun l => TT m t (l + 1)) (m + 1) = top m t + TT m t (m + 1) := rfl
  rw [e, TT_zero] at h
  omega
theorem pf_nn (m : Nat) : ∀ k, k ≤ m → 0 ≤ pf m k
  | 0, _ => by show (0 : Int) ≤ 1; omega
  | k + 1, h => by
    have ih := pf_nn m k (by omega)
    exact Int.mul_nonneg ih (by omega)
theorem pow_nn (m n : Nat) : (0 : Int) ≤ (m : Int) ^ n := Int.pow_nonneg (by omega)
theorem lg_nn (m t k : Nat) : 0 ≤ lg m t k := by
  unfold lg
  split
  · omega
  · exact pow_nn _ _
theorem pf_le (m : Nat) : ∀ k, k ≤ m → pf m k ≤ (m : Int) ^ k
  | 0, _ => by show (1 : Int) ≤ _; simp
  | k + 1, h => by
    have ih := pf_le m k (by omega)
    have nn := pf_nn m k (by omega)
    rw [Int.pow_succ]
    show pf m k * ((m : Int) - k) ≤ _
    exact Int.mul_le_mul ih (by omega) (by omega) (pow_nn _ _)
theorem TT_nn (m t k : Nat) (h : k ≤ m) : 0 ≤ TT m t k := Int.mul_nonneg (pf_nn m k h) (lg_nn m t k)
theorem TT_le (m t k : Nat) (h : k ≤ m) : TT m t k ≤ (m : Int) ^ t := by
  unfold TT lg
  split
  · simp; exact pow_nn _ _
  · have e : (m : Int) ^ t = (m : Int) ^ k * (m : Int) ^ (t - k) := by
      rw [← Int.pow_add]
      congr 1
      omega
    rw [e]
    exact Int.mul_le_mul_of_nonneg_right (pf_le m k h) (pow_nn _ _)
theorem TT_mono (m t k : Nat) (h : k ≤ m) : (m : Int) * TT m t k ≤ TT m (t + 1) k := by
  have nn := pf_nn m k h
  have e : (m : Int) * lg m t k ≤ lg m (t + 1) k := by
    by_cases h1 : t < k
    · have : lg m t k = 0 := by unfold lg; rw [if_pos h1]
      rw [this]
      simp
      exact lg_nn _ _ _
    · unfold lg
      rw [if_neg h1, if_neg (by omega)]
      have e : t + 1 - k = (t - k) + 1 := by omega
      rw [e, Int.pow_succ, Int.mul_comm]
      exact Int.le_refl _
  unfold TT
  have := Int.mul_le_mul_of_nonneg_left e nn
  calc (m : Int) * (pf m k * lg m t k) = pf m k * ((m : Int) * lg m t k) := by grind
    _ ≤ _ := this
theorem sumTo_le {f g : Nat → Int} : ∀ n, (∀ i, i < n → f i ≤ g i) → sumTo f n ≤ sumTo g n
  | 0, _ => Int.le_refl _
  | n + 1, h => Int.add_le_add (sumTo_le n fun i hi => h i (by omega)) (h n (by omega))
theorem sumTo_mul (c : Int) (f : Nat → Int) : ∀ n, sumTo (fun i => c * f i) n = c * sumTo f n
  | 0 => by simp [sumTo]
  | n + 1 => by
    show sumTo (fun i => c * f i) n + c * f n = c * (sumTo f n + f n)
    rw [sumTo_mul c f n]
    grind
theorem sumTo_const (c : Int) : ∀ n : Nat, sumTo (fun _ => c) n = n * c
  | 0 => by simp [sumTo]
  | n + 1 => by
    show sumTo (fun _ => c) n + c = _
    rw [sumTo_const c n]
    grind
theorem top_mono (m t : Nat) : (m : Int) * top m t ≤ top m (t + 1) := by
  unfold top
  rw [← sumTo_mul]
  exact sumTo_le _ fun i hi => TT_mono m t (i + 1) (by omega)
theorem top_le (m t : Nat) : top m t ≤ m * (m : Int) ^ t := by
  unfold top
  rw [← sumTo_const]
  exact sumTo_le _ fun i hi => TT_le m t (i + 1) (by omega)
theorem sumTo_nn {f : Nat → Int} : ∀ n, (∀ i, i < n → 0 ≤ f i) → 0 ≤ sumTo f n
  | 0, _ => Int.le_refl _
  | n + 1, h => Int.add_nonneg (sumTo_nn n fun i hi => h i (by omega)) (h n (by omega))
theorem top_nn (m t : Nat) : 0 ≤ top m t := sumTo_nn _ fun i hi => TT_nn m t (i + 1) (by omega)
theorem sumTo_first {f : Nat → Int} : ∀ n, 0 < n → (∀ i, i < n → 0 ≤ f i) → f 0 ≤ sumTo f n
  | 1, _, _ => by show f 0 ≤ 0 + f 0; omega
  | n + 2, _, h => by
    have := sumTo_first (f := f) (n + 1) (by omega) fun i hi => h i (by omega)
    have h2 := h (n + 1) (by omega)
    show f 0 ≤ sumTo f (n + 1) + f (n + 1)
    omega
theorem top_ge (m t : Nat) (hm : 1 ≤ m) (ht : 1 ≤ t) : (m : Int) ^ t ≤ top m t := by
  have h := sumTo_first (f := fun l => TT m t (l + 1)) m hm fun i hi => TT_nn m t (i + 1) (by omega)
  have e : TT m t 1 = (m : Int) ^ t := by
    show pf m 0 * ((m : Int) - (0 : Nat)) * lg m t 1 = _
    unfold lg
    rw [if_neg (by omega)]
    obtain ⟨s, rfl⟩ : ∃ s, t = s + 1 := ⟨t - 1, by omega⟩
    show 1 * ((m : Int) - (0 : Nat)) * (m : Int) ^ (s + 1 - 1) = _
    rw [Nat.add_sub_cancel, Int.pow_succ]
    simp
    exact Int.mul_comm _ _
  unfold top
  show _ ≤ sumTo (fun l => TT m t (l + 1)) m
  rw [← e]
  exact h
theorem cf_nn (m t l : Nat) : 0 ≤ cf m t l := by
  unfold cf
  split
  · split <;> omega
  · split
    · omega
    · split
      · omega
      · exact Int.mul_nonneg (by omega) (pow_nn _ _)
theorem pow_mono {a b : Nat} (h : a ≤ b) : ∀ n : Nat, (a : Int) ^ n ≤ (b : Int) ^ n
  | 0 => by simp
  | n + 1 => by
    rw [Int.pow_succ, Int.pow_succ]
    exact Int.mul_le_mul (pow_mono h n) (by omega) (by omega) (pow_nn _ _)
theorem cf_mono (m t l : Nat) : cf m t l ≤ cf (m + 1) t l := by
  unfold cf
  split
  · exact Int.le_refl _
  · split
    · exact Int.le_refl _
    · split
      · exact Int.le_refl _
      · refine Int.mul_le_mul_of_nonneg_left ?_ (by omega)
        exact pow_mono (by omega) _
theorem cf_full (m t : Nat) (hm : 1 ≤ m) : cf m (t + 1) m = cf m t (m - 1) + cf m t m := by
  have h1 := cf_step m t m hm
  have h2 := lg_step m t m
  have h3 : ((m : Int) - m) = 0 := by omega
  rw [h3] at h2
  omega
theorem fl_one (m t : Nat) : fl m t 1 = if t = 0 then 0 else if t = 1 then (m : Int) else (m : Int) ^ (t - 1) := by
  show pf m 0 * ((m : Int) - (0 : Nat)) * cf m t 1 = _
  show 1 * ((m : Int) - (0 : Nat)) * cf m t 1 = _
  unfold cf
  by_cases h0 : t = 0
  · subst h0; simp
  · rw [if_neg (by omega), if_neg (by omega), if_neg h0]
    by_cases h1 : t = 1
    · subst h1; simp
    · rw [if_neg h1, if_neg h1]
      obtain ⟨s, rfl⟩ : ∃ s, t = s + 2 := ⟨t - 2, by omega⟩
      have e1 : s + 2 - 1 - 1 = s := by omega
      have e2 : s + 2 - 1 = s + 1 := by omega
      rw [e1, e2, Int.pow_succ]
      simp
      exact Int.mul_comm _ _
theorem fl_zero (m t : Nat) : fl m t 0 = if t = 0 then 1 else 0 := by
  show 1 * cf m t 0 = _
  unfold cf
  simp
/-! sizes -/
theorem pow_lt {m n e : Nat} (hm : m ≤ 64) (h : 6 * n < e) : ((m : Int) ^ n).natAbs < 2 ^ e := by
  have h1 : ((m : Int) ^ n) ≤ ((64 : Nat) : Int) ^ n := pow_mono hm n
  have h0 := pow_nn m n
  have h2 : (((64 : Nat) : Int) ^ n) = ((2 ^ (6 * n) : Nat) : Int) := by
    rw [Nat.pow_mul]
    simp
  have h3 : (2 : Nat) ^ (6 * n) < 2 ^ e := Nat.pow_lt_pow_right (by omega) h
  omega
theorem lt_of_le {a b : Int} {e : Nat} (h0 : 0 ≤ a) (h : a ≤ b) (hb : b.natAbs < 2 ^ e) : a.natAbs < 2 ^ e := by omega
theorem cf_le (m t l : Nat) (hm : 1 ≤ m) : cf m t l ≤ ((l + 1 : Nat) : Int) * (m : Int) ^ t := by
  have p1 : (1 : Int) ≤ (m : Int) ^ t := by
    have := pow_mono (a := 1) (b := m) hm t
    rw [show ((1 : Nat) : Int) = 1 from rfl, Int.one_pow] at this
    exact this
  have p2 : ((l + 1 : Nat) : Int) * 1 ≤ ((l + 1 : Nat) : Int) * (m : Int) ^ t := Int.mul_le_mul_of_nonneg_left p1 (by omega)
  unfold cf
  split
  · split <;> omega
  · split
    · omega
    · split
      · omega
      · rename_i h1 h2 h3
        have p3 : (m : Int) ^ (t - l - 1) ≤ (m : Int) ^ t := by
          have e : (m : Int) ^ t = (m : Int) ^ (t - l - 1) * (m : Int) ^ (l + 1) := by
            rw [← Int.pow_add]
            congr 1
            omega
          have q : (1 : Int) ≤ (m : Int) ^ (l + 1) := by
            have := pow_mono (a := 1) (b := m) hm (l + 1)
            rw [show ((1 : Nat) : Int) = 1 from rfl, Int.one_pow] at this
            exact this
          rw [e]
          have := Int.mul_le_mul_of_nonneg_left q (pow_nn m (t - l - 1))
          omega
        exact Int.mul_le_mul (by omega) p3 (pow_nn _ _) (by omega)
theorem cf_lt (m t l : Nat) (hm : 1 ≤ m) (hm2 : m ≤ 40) (ht : t ≤ 201) (hl : l ≤ 40) : (cf m t l).natAbs < 2 ^ 1300 := by
  refine lt_of_le (cf_nn _ _ _) (cf_le m t l hm) ?_
  rw [Int.natAbs_mul]
  have h1 : ((m : Int) ^ t).natAbs < 2 ^ 1250 := pow_lt (by omega) (by omega)
  have h2 : (((l + 1 : Nat) : Int)).natAbs < 2 ^ 50 := by
    have : (2 : Nat) ^ 50 = 1125899906842624 := by decide
    omega
  have := Nat.mul_lt_mul'' h2 h1
  rw [← Nat.pow_add] at this
  exact this
theorem lg_lt (m t l : Nat) (hm2 : m ≤ 40) (ht : t ≤ 201) : (lg m t l).natAbs < 2 ^ 1300 := by
  unfold lg
  split
  · exact Nat.two_pow_pos _
  · exact pow_lt (by omega) (by omega)
theorem pf_lt (m l : Nat) (hm2 : m ≤ 40) (hl : l ≤ m) : (pf m l).natAbs < 2 ^ 300 := by
  refine lt_of_le (pf_nn m l hl) (pf_le m l hl) ?_
  exact pow_lt (by omega) (by omega)
theorem top_lt (m t : Nat) (hm2 : m ≤ 40) (ht : t ≤ 201) : (top m t).natAbs < 2 ^ 1300 := by
  refine lt_of_le (top_nn m t) (top_le m t) ?_
  have e : (m : Int) * (m : Int) ^ t = (m : Int) ^ (t + 1) := by rw [Int.pow_succ, Int.mul_comm]
  rw [e]
  exact pow_lt (by omega) (by omega)
end FM

set_option Elab.async false
set_option linter.all false
set_option maxRecDepth 100000
set_option maxHeartbeats 4000000
/-! all lists of visits, tallied by their trails -/
namespace F58
open PySem PySem.Spec PyProof.Rows L2 BC TR FM
def rows (w : Nat) : Nat → List (List Nat)
  | 0 => [[]]
  | n + 1 => ((rows w n).map fun r => (List.range w).map fun x => r ++ [x]).flatten
def step (L : List (List Int × Int)) (r : List Nat) : List (List Int × Int) := putA L (trl (nz r)) ((getA L (trl (nz r))).getD 0 + 1)
def tly (R : List (List Nat)) : List (List Int × Int) := R.foldl step []
def sumAt (L : List (List Int × Int)) (l : Nat) : Int := (L.map fun p => if p.1.length = l then p.2 else 0).sum
def chk (w n : Nat) : Bool :=
  let L := tly (rows w n)
  (L.all fun p => decide (p.1.length ≤ w) && decide (p.2 = cf w n p.1.length)) && (List.range (w + 1)).all fun l => decide (sumAt L l = fl w n l) && (!decide (fl w n l = 0) || decide (cf w n l = 0))
def Sm (w n : Nat) : Prop := (w = 1 ∧ n < 8) ∨ (w = 2 ∧ n < 8) ∨ (w = 3 ∧ n < 7) ∨ (w = 4 ∧ n < 5) ∨ (w = 5 ∧ n < 5)
theorem chk1 : ∀ n < 8, chk 1 n = true := by decide +kernel
theorem chk2 : ∀ n < 8, chk 2 n = true := by decide +kernel
theorem chk3 : ∀ n < 7, chk 3 n = true := by decide +kernel
theorem chk4 : ∀ n < 5, chk 4 n = true := by decide +kernel
theorem chk5 : ∀ n < 5, chk 5 n = true := by decide +kernel
theorem chk_all {w n : Nat} (h : Sm w n) : chk w n = true := by
  rcases h with ⟨rfl, h⟩ | ⟨rfl, h⟩ | ⟨rfl, h⟩ | ⟨rfl, h⟩ | ⟨rfl, h⟩
  · exact chk1 n h
  · exact chk2 n h
  · exact chk3 n h
  · exact chk4 n h
  · exact chk5 n h
theorem chk_at {w n : Nat} (h : Sm w n) {p : List Int × Int} (hp : p ∈ tly (rows w n)) : p.1.length ≤ w ∧ p.2 = cf w n p.1.length := by
  have c := chk_all h
  unfold chk at c
  rw [Bool.and_eq_true] at c
  have := List.all_eq_true.mp c.1 p hp
  rw [Bool.and_eq_true] at this
  exact ⟨of_decide_eq_true this.1, of_decide_eq_true this.2⟩
theorem chk_sum {w n l : Nat} (h : Sm w n) (hl : l ≤ w) : sumAt (tly (rows w n)) l = fl w n l ∧ (fl w n l = 0 → cf w n l = 0) := by
  have c := chk_all h
  unfold chk at c
  rw [Bool.and_eq_true] at c
  have := List.all_eq_true.mp c.2 l (List.mem_range.mpr (by omega))
  rw [Bool.and_eq_true] at this
  refine ⟨of_decide_eq_true this.1, fun z => ?_⟩
  have t2 := this.2
  rw [decide_eq_true z] at t2
  exact of_decide_eq_true t2
theorem Sm.ok {w n : Nat} (h : Sm w n) : 1 ≤ w ∧ w ≤ 5 ∧ n ≤ 7 ∧ w ^ n ≤ 729 := by
  have p : ∀ m ≤ n, w ^ m ≤ w ^ n := fun m hm => Nat.pow_le_pow_right (by rcases h with ⟨rfl, h⟩ | ⟨rfl, h⟩ | ⟨rfl, h⟩ | ⟨rfl, h⟩ | ⟨rfl, h⟩ <;> omega) hm
  rcases h with ⟨rfl, h⟩ | ⟨rfl, h⟩ | ⟨rfl, h⟩ | ⟨rfl, h⟩ | ⟨rfl, h⟩
  · exact ⟨by omega, by omega, by omega, by rw [Nat.one_pow]; omega⟩
  · exact ⟨by omega, by omega, by omega, Nat.le_trans (Nat.pow_le_pow_right (by omega) (show n ≤ 7 by omega)) (by decide)⟩
  · exact ⟨by omega, by omega, by omega, Nat.le_trans (Nat.pow_le_pow_right (by omega) (show n ≤ 6 by omega)) (by decide)⟩
  · exact ⟨by omega, by omega, by omega, Nat.le_trans (Nat.pow_le_pow_right (by omega) (show n ≤ 4 by omega)) (by decide)⟩
  · exact ⟨by omega, by omega, by omega, Nat.le_trans (Nat.pow_le_pow_right (by omega) (show n ≤ 4 by omega)) (by decide)⟩
theorem rows_len (w : Nat) : ∀ n, (rows w n).length = w ^ n
  | 0 => rfl
  | n + 1 => by
    show ((rows w n).map fun r => (List.range w).map fun x => r ++ [x]).flatten.length = _
    rw [List.length_flatten, List.map_map]
    have e : (List.length ∘ fun r : List Nat => (List.range w).map fun x => r ++ [x]) = fun _ => w := funext fun r => by
      show ((List.range w).map fun x => r ++ [x]).length = w
      rw [List.length_map, List.length_range]
    rw [e]
    have : ∀ l : List (List Nat), (l.map fun _ => w).sum = l.length * w := fun l => by
      induction l with
      | nil => simp
      | cons a l ih => rw [List.map_cons, List.sum_cons, ih, List.length_cons, Nat.add_mul]; omega
    rw [this, rows_len w n, Nat.pow_succ]
theorem rows_lt (w : Nat) : ∀ n, ∀ r ∈ rows w n, (∀ x ∈ r, x < w) ∧ r.length = n
  | 0, r, h => by
    obtain rfl : r = [] := by simpa [rows] using h
    exact ⟨fun x m => (List.not_mem_nil m).elim, rfl⟩
  | n + 1, r, h => by
    obtain ⟨a, ha, hr⟩ := List.mem_flatten.mp h
    obtain ⟨q, hq, rfl⟩ := List.mem_map.mp ha
    obtain ⟨x, hx, rfl⟩ := List.mem_map.mp hr
    obtain ⟨h1, h2⟩ := rows_lt w n q hq
    rw [List.mem_range] at hx
    refine ⟨fun y hy => ?_, by rw [List.length_append, h2, List.length_singleton]⟩
    rcases List.mem_append.mp hy with h | h
    · exact h1 y h
    · rw [List.mem_singleton.mp h]; exact hx
theorem nz_pg {w : Nat} {r : List Nat} (h : ∀ x ∈ r, x < w) : Pg w (nz r) := fun x hx => by
  obtain ⟨y, hy, rfl⟩ := List.mem_map.mp hx
  have := h y hy
  omega
theorem tly_snoc {R : List (List Nat)} {i : Nat} {r : List Nat} (h : R[i]? = some r) : tly (R.take (i + 1)) = step (tly (R.take i)) r := by
  unfold tly
  rw [List.take_add_one, h, List.foldl_append]
  rfl
theorem step_key {w : Nat} {L : List (List Int × Int)} {r : List Nat} (h : ∀ p ∈ L, Pg w p.1 ∧ p.1.Nodup) (hr : ∀ x ∈ r, x < w) : ∀ p ∈ step L r, Pg w p.1 ∧ p.1.Nodup := fun p hp => by
  rcases putA_key hp with e | ⟨q, hq, e⟩
  · rw [e]; exact ⟨trl_pg (nz_pg hr), trl_nodup (nz_pg hr)⟩
  · rw [← e]; exact h q hq
theorem fold_key {w : Nat} : ∀ (R : List (List Nat)) (L : List (List Int × Int)), (∀ p ∈ L, Pg w p.1 ∧ p.1.Nodup) → (∀ r ∈ R, ∀ x ∈ r, x < w) → ∀ p ∈ R.foldl step L, Pg w p.1 ∧ p.1.Nodup
  | [], _, h, _ => h
  | r :: R, L, h, hR => fold_key R (step L r) (step_key h (hR r List.mem_cons_self)) fun q hq => hR q (List.mem_cons_of_mem _ hq)
theorem tly_key {w : Nat} {R : List (List Nat)} (h : ∀ r ∈ R, ∀ x ∈ r, x < w) : ∀ p ∈ tly R, Pg w p.1 ∧ p.1.Nodup := fold_key R [] (fun p m => (List.not_mem_nil m).elim) h
theorem fold_len : ∀ (R : List (List Nat)) (L : List (List Int × Int)), (R.foldl step L).length ≤ L.length + R.length
  | [], _ => Nat.le_refl _
  | r :: R, L => by
    have := fold_len R (step L r)
    have h2 : (step L r).length ≤ L.length + 1 := putA_len _ _ _
    rw [List.length_cons]
    show (R.foldl step (step L r)).length ≤ _
    omega
theorem tly_len (R : List (List Nat)) : (tly R).length ≤ R.length := by have := fold_len R []; simpa [tly] using this
theorem dg_of {w : Nat} {t : List Int} (h : Pg w t) (hw : w ≤ 10) : Dg t := fun n hn => by have := h n hn; omega
/-! the text of a trail, cut at its commas -/
def trs : Nat → List (List Int)
  | 0 => [[]]
  | k + 1 => ((trs k).map fun t => (([0, 1, 2, 3, 4] : List Int).filter fun x => !decide (x ∈ t)).map fun x => x :: t).flatten
theorem trs_mem : ∀ t : List Int, t.Nodup → Pg 5 t → t ∈ trs t.length
  | [], _, _ => List.mem_singleton.mpr rfl
  | x :: t, nd, hp => by
    have ih := trs_mem t (List.nodup_cons.mp nd).2 fun y hy => hp y (List.mem_cons_of_mem _ hy)
    have hx := hp x List.mem_cons_self
    refine List.mem_flatten.mpr ⟨_, List.mem_map.mpr ⟨t, ih, rfl⟩, List.mem_map.mpr ⟨x, List.mem_filter.mpr ⟨?_, ?_⟩, rfl⟩⟩
    · have : x = 0 ∨ x = 1 ∨ x = 2 ∨ x = 3 ∨ x = 4 := by omega
      rcases this with rfl | rfl | rfl | rfl | rfl <;> simp
    · rw [decide_eq_false (List.nodup_cons.mp nd).1]; rfl
theorem spl0 : ∀ k < 6, ∀ t ∈ trs k, (Txt.split (shInts t) ",").length = (if t = [] then 1 else t.length) ∧ decide (shInts t = "[]") = decide (t = []) ∧ (shInts t).length ≤ 1000 := by decide +kernel
theorem spl {t : List Int} (nd : t.Nodup) (hp : Pg 5 t) : (Txt.split (shInts t) ",").length = (if t = [] then 1 else t.length) ∧ decide (shInts t = "[]") = decide (t = []) ∧ (shInts t).length ≤ 1000 :=
  spl0 t.length (by have := nodup_len 5 nd hp; omega) t (trs_mem t nd hp)
/-! the sums while they grow -/
def sums (w : Nat) (L : List (List Int × Int)) : List Int := (List.range (w + 1)).map fun l => sumAt L l
theorem sums_len (w : Nat) (L : List (List Int × Int)) : (sums w L).length = w + 1 := by unfold sums; rw [List.length_map, List.length_range]
theorem sums_at {w l : Nat} {L : List (List Int × Int)} (h : l ≤ w) : (sums w L)[l]? = some (sumAt L l) := by
  unfold sums
  rw [List.getElem?_map, List.getElem?_range (by omega)]
  rfl
theorem sumAt_snoc (L : List (List Int × Int)) (p : List Int × Int) (l : Nat) : sumAt (L ++ [p]) l = sumAt L l + if p.1.length = l then p.2 else 0 := by
  unfold sumAt
  rw [List.map_append, List.sum_append]
  simp
theorem sums_step {w i : Nat} {L : List (List Int × Int)} {p : List Int × Int} (h : L[i]? = some p) (hl : p.1.length ≤ w) : ((sums w (L.take i)).set p.1.length (sumAt (L.take i) p.1.length + p.2)) = sums w (L.take (i + 1)) := by
  have e : L.take (i + 1) = L.take i ++ [p] := by rw [List.take_add_one, h]; rfl
  rw [e]
  apply List.ext_getElem?
  intro j
  by_cases hj : j ≤ w
  · rw [sums_at hj, sumAt_snoc]
    by_cases q : p.1.length = j
    · subst q
      rw [List.getElem?_set_self (by rw [sums_len]; omega), if_pos rfl]
    · rw [List.getElem?_set_ne q, sums_at hj, if_neg q, Int.add_zero]
  · rw [List.getElem?_eq_none (by rw [List.length_set, sums_len]; omega), List.getElem?_eq_none (by rw [sums_len]; omega)]
theorem sums_zero (w : Nat) : sums w [] = List.replicate (w + 1) 0 := by
  apply List.ext_getElem?
  intro j
  by_cases hj : j ≤ w
  · rw [sums_at hj, List.getElem?_replicate, if_pos (by omega)]
    rfl
  · rw [List.getElem?_eq_none (by rw [sums_len]; omega), List.getElem?_eq_none (by rw [List.length_replicate]; omega)]
theorem sums_all {w n : Nat} (h : Sm w n) : sums w (tly (rows w n)) = (List.range (w + 1)).map fun l => fl w n l := by
  unfold sums
  refine List.map_congr_left fun l hl => ?_
  rw [List.mem_range] at hl
  exact (chk_sum h (by omega)).1
end F58
namespace F58
open PySem PySem.Spec PyProof.Rows L2 BC TR FM
theorem fold_nodup : ∀ (R : List (List Nat)) (L : List (List Int × Int)), (L.map (·.1)).Nodup → ((R.foldl step L).map (·.1)).Nodup
  | [], _, h => h
  | r :: R, L, h => fold_nodup R (step L r) (putA_nodup h)
theorem tly_nodup (R : List (List Nat)) : ((tly R).map (·.1)).Nodup := fold_nodup R [] List.nodup_nil
end F58

set_option Elab.async false
set_option linter.all false
set_option maxRecDepth 100000
set_option maxHeartbeats 4000000
/-! walks on a site, by number and one by one -/
namespace BC
section
open PySem PySem.Spec PyProof.Rows L2 Evl
/-- xs[i] of xs[i] += e -/
def rGetL (K : PySem.W.Frag) : V → V → Hp → VK → Prop := fun x y H Q => ∃ p xs, ∃ i : Nat, ∃ v, x = .ref p ∧ y = .int i ∧ SqL K H p xs ∧ xs[i]? = some v ∧ Q v H
theorem k_get {X : Cx} {K : PySem.W.Frag} (hK : X.K = K) : PGet X (rGetL K) := by
  subst hK
  intro pins s σ H o i ov iv Q I ro ri h
  obtain ⟨p, xs, j, v, rfl, rfl, hq, hv, q⟩ := h
  cases ro
  obtain ⟨t, rfl⟩ := ri
  obtain ⟨its, r, pl, hz⟩ := I.list hq
  obtain ⟨u, eu, ru⟩ := r.get hv
  have hl := r.length
  have hn := line63
  have hj := (List.getElem?_eq_some_iff.mp hv).1
  refine wpAny_getItem_list (x := u) pl.isList (by omega) (by omega) (by simpa using eu) ⟨v, H, I, ru, q⟩
theorem getL {K : PySem.W.Frag} {H : Hp} {Q : VK} {p : Addr} {xs : List V} {k : Int} {i : Nat} {v : V} (h : SqL K H p xs) (e : k = (i : Int)) (hv : xs[i]? = some v) (q : Q v H) : rGetL K (.ref p) (.int k) H Q := by subst e; exact ⟨p, xs, i, v, rfl, rfl, h, hv, q⟩
theorem x_augS {to ti te : TE} {tget : V → V → Hp → VK → Prop} {tip : TIp} {tset : TSet} {D : Ends} {σ : L2.St} {H : Hp} : tAugS to ti te tget tip tset D σ H = to σ H fun o H1 => ti σ H1 fun i H2 => tget o i H2 fun x H3 => te σ H3 fun y H4 => tip x y H4 fun z H5 => tset o i z H5 fun H6 => D.nx σ H6 := rfl
end
/-- the walks of t steps from v -/
def wf (G : Grid) : Nat → Nat → List (List Nat)
  | 0, v => [[v]]
  | t + 1, v => ((row G v).map fun u => (wf G t u).map (v :: ·)).flatten
def lst (r : List Nat) : Nat := r.getLast?.getD 0
def grow (G : Grid) (r : List Nat) : List (List Nat) := (row G (lst r)).map fun u => r ++ [u]
theorem wf_ne {G : Grid} : ∀ (t v : Nat), ∀ r ∈ wf G t v, r ≠ []
  | 0, v, r, h => by
    obtain rfl : r = [v] := by simpa [wf] using h
    simp
  | t + 1, v, r, h => by
    unfold wf at h
    obtain ⟨a, ha, hr⟩ := List.mem_flatten.mp h
    obtain ⟨u, _, rfl⟩ := List.mem_map.mp ha
    obtain ⟨q, _, rfl⟩ := List.mem_map.mp hr
    simp
theorem grow_cons (G : Grid) (v : Nat) {r : List Nat} (h : r ≠ []) : grow G (v :: r) = (grow G r).map (v :: ·) := by
  unfold grow lst
  rw [List.map_map, List.getLast?_cons_of_ne_nil h]
  rfl
theorem sum_zeros {α : Type} : ∀ l : List α, (l.map fun _ => 0).sum = 0
  | [] => rfl
  | x :: l => by rw [List.map_cons, List.sum_cons, sum_zeros l]
theorem map_flatten' {α β : Type} (f : α → β) : ∀ l : List (List α), l.flatten.map f = (l.map (·.map f)).flatten
  | [] => rfl
  | a :: l => by rw [List.flatten_cons, List.map_append, map_flatten' f l]; rfl
theorem flatten_flatten' {α : Type} : ∀ l : List (List (List α)), l.flatten.flatten = (l.map (·.flatten)).flatten
  | [] => rfl
  | a :: l => by rw [List.flatten_cons, List.flatten_append, flatten_flatten' l]; rfl
theorem wf_snoc (G : Grid) : ∀ (t v : Nat), wf G (t + 1) v = ((wf G t v).map (grow G)).flatten
  | 0, v => by
    show ((row G v).map fun u => [[v, u]]).flatten = (grow G [v]) ++ []
    rw [List.append_nil]
    show ((row G v).map fun u => [[v, u]]).flatten = (row G v).map fun u => [v, u]
    generalize row G v = l
    induction l with
    | nil => rfl
    | cons x l ih =>
      rw [List.map_cons, List.flatten_cons, ih]
      rfl
  | t + 1, v => by
    have ih := fun u => wf_snoc G t u
    show ((row G v).map fun u => (wf G (t + 1) u).map (v :: ·)).flatten = ((((row G v).map fun u => (wf G t u).map (v :: ·)).flatten).map (grow G)).flatten
    rw [map_flatten', flatten_flatten', List.map_map, List.map_map]
    congr 1
    apply List.map_congr_left
    intro u _
    show (wf G (t + 1) u).map (v :: ·) = ((wf G t u |>.map (v :: ·)).map (grow G)).flatten
    rw [ih u, map_flatten', List.map_map, List.map_map]
    congr 1
    apply List.map_congr_left
    intro r hr
    show (grow G r).map (v :: ·) = grow G (v :: r)
    rw [grow_cons G v (wf_ne t u r hr)]
/-- the number of walks of t steps from v to the page that keep out -/
def fw (G : Grid) (out : List Nat) (p : Nat) : Nat → Nat → Nat
  | 0, v => if v = p ∧ v ∉ out then 1 else 0
  | t + 1, v => if v ∉ out then ((row G v).map fun u => fw G out p t u).sum else 0
/-- a walk to the page that keeps out -/
def good (out : List Nat) (p : Nat) (r : List Nat) : Bool := decide (lst r = p) && decide (r.filter (fun x => decide (x ∈ out)) = [])
theorem good_cons {out : List Nat} {p v : Nat} {r : List Nat} (h : r ≠ []) : good out p (v :: r) = (decide (v ∉ out) && good out p r) := by
  unfold good lst
  rw [List.getLast?_cons_of_ne_nil h]
  by_cases c : v ∈ out
  · simp [c]
  · simp [c]
theorem len_flat {α : Type} (P : α → Bool) : ∀ l : List (List α), (l.flatten.filter P).length = (l.map fun a => (a.filter P).length).sum
  | [] => rfl
  | a :: l => by rw [List.flatten_cons, List.filter_append, List.length_append, len_flat P l]; rfl
theorem fw_count (G : Grid) (out : List Nat) (p : Nat) : ∀ (t v : Nat), ((wf G t v).filter (good out p)).length = fw G out p t v
  | 0, v => by
    show ([[v]].filter (good out p)).length = if v = p ∧ v ∉ out then 1 else 0
    have e : good out p [v] = (decide (v = p) && decide (v ∉ out)) := by
      show (decide (v = p) && decide ([v].filter (fun x => decide (x ∈ out)) = [])) = _
      congr 1
      by_cases c : v ∈ out <;> simp [c]
    by_cases a : v = p <;> by_cases c : v ∈ out <;> simp [e, a, c]
    all_goals (subst a; simp_all)
  | t + 1, v => by
    show ((((row G v).map fun u => (wf G t u).map (v :: ·)).flatten).filter (good out p)).length = if v ∉ out then ((row G v).map fun u => fw G out p t u).sum else 0
    rw [len_flat, List.map_map]
    have key : ∀ u, (((wf G t u).map (v :: ·)).filter (good out p)).length = if v ∉ out then fw G out p t u else 0 := fun u => by
      rw [List.filter_map, List.length_map]
      have e : (wf G t u).filter (good out p ∘ fun x => v :: x) = (wf G t u).filter fun r => decide (v ∉ out) && good out p r := by
        apply List.filter_congr
        intro r hr
        show good out p (v :: r) = _
        rw [good_cons (wf_ne t u r hr)]
      rw [e]
      by_cases c : v ∈ out
      · simp [c]
      · rw [if_pos c]
        simp only [c, not_false_eq_true, decide_true, Bool.true_and]
        exact fw_count G out p t u
    by_cases c : v ∈ out
    · rw [if_neg (by simpa using c)]
      have : (row G v).map ((fun a => (List.filter (good out p) a).length) ∘ fun u => (wf G t u).map (v :: ·)) = (row G v).map fun _ => 0 := List.map_congr_left fun u _ => by
        show (((wf G t u).map (v :: ·)).filter (good out p)).length = 0
        rw [key u, if_neg (by simpa using c)]
      rw [this, sum_zeros]
    · rw [if_pos c]
      congr 1
      apply List.map_congr_left
      intro u _
      show (((wf G t u).map (v :: ·)).filter (good out p)).length = _
      rw [key u, if_pos c]
theorem wf_lt {G : Grid} (h : SiteOk G) : ∀ (t v : Nat), v < G.length → ∀ r ∈ wf G t v, (∀ x ∈ r, x < G.length) ∧ r.length = t + 1
  | 0, v, hv, r, hr => by
    obtain rfl : r = [v] := by simpa [wf] using hr
    exact ⟨fun x hx => by rw [List.mem_singleton.mp hx]; exact hv, rfl⟩
  | t + 1, v, hv, r, hr => by
    unfold wf at hr
    obtain ⟨a, ha, hr⟩ := List.mem_flatten.mp hr
    obtain ⟨u, hu, rfl⟩ := List.mem_map.mp ha
    obtain ⟨q, hq, rfl⟩ := List.mem_map.mp hr
    obtain ⟨h1, h2⟩ := wf_lt h t u (h.rlt hu) q hq
    refine ⟨fun x hx => ?_, by rw [List.length_cons, h2]⟩
    rcases List.mem_cons.mp hx with rfl | hx
    · exact hv
    · exact h1 x hx
theorem sum_le {f : Nat → Nat} {b : Nat} : ∀ {l : List Nat}, (∀ x ∈ l, f x ≤ b) → (l.map f).sum ≤ l.length * b
  | [], _ => by simp
  | x :: l, h => by
    have a := h x List.mem_cons_self
    have b := sum_le (l := l) fun y hy => h y (List.mem_cons_of_mem _ hy)
    rw [List.map_cons, List.sum_cons, List.length_cons, Nat.succ_mul]
    omega
theorem fw_le {G : Grid} (h : SiteOk G) (out : List Nat) (p : Nat) : ∀ t v, fw G out p t v ≤ 12 ^ t
  | 0, v => by
    unfold fw
    split <;> simp
  | t + 1, v => by
    unfold fw
    split
    · have a := sum_le (f := fun u => fw G out p t u) (b := 12 ^ t) (l := row G v) fun u _ => fw_le h out p t u
      have b := Nat.mul_le_mul_right (12 ^ t) (h.rlen v)
      rw [Nat.pow_succ, Nat.mul_comm]
      omega
    · exact Nat.zero_le _
theorem wf_len {G : Grid} (h : SiteOk G) : ∀ (t v : Nat), (wf G t v).length ≤ G.length ^ t
  | 0, v => by simp [wf]
  | t + 1, v => by
    show (((row G v).map fun u => (wf G t u).map (v :: ·)).flatten).length ≤ _
    have e : (((row G v).map fun u => (wf G t u).map (v :: ·)).flatten).length = ((row G v).map fun u => (wf G t u).length).sum := by
      rw [List.length_flatten, List.map_map]
      congr 1
      apply List.map_congr_left
      intro u _
      show ((wf G t u).map _).length = _
      rw [List.length_map]
    rw [e]
    have a := sum_le (f := fun u => (wf G t u).length) (b := G.length ^ t) (l := row G v) fun u _ => wf_len h t u
    have rl : (row G v).length ≤ G.length := by
      by_cases q : v < G.length
      · exact nodup_lt _ (asc_nodup (h.asc v _ (at_row q))) (h.lt v _ (at_row q))
      · unfold row
        rw [List.getD_eq_getElem?_getD, List.getElem?_eq_none (by omega)]
        exact Nat.zero_le _
    have b := Nat.mul_le_mul_right (G.length ^ t) rl
    rw [Nat.pow_succ, Nat.mul_comm]
    omega
theorem flat_le {α β : Type} {f : α → List β} {b : Nat} : ∀ {l : List α}, (∀ x ∈ l, (f x).length ≤ b) → (l.map f).flatten.length ≤ l.length * b
  | [], _ => by simp
  | x :: l, h => by
    have a := h x List.mem_cons_self
    have c := flat_le (l := l) fun y hy => h y (List.mem_cons_of_mem _ hy)
    rw [List.map_cons, List.flatten_cons, List.length_append, List.length_cons, Nat.succ_mul]
    omega
/-! ### products of lists of numbers -/
def cnv (a b : List Nat) (k : Nat) : Nat := ((List.range (k + 1)).map fun i => a.getD i 0 * b.getD (k - i) 0).sum
def conv (a b : List Nat) (n : Nat) : List Nat := (List.range (n + 1)).map fun k => cnv a b k
theorem conv_len (a b : List Nat) (n : Nat) : (conv a b n).length = n + 1 := by unfold conv; rw [List.length_map, List.length_range]
theorem conv_at {a b : List Nat} {n k : Nat} (h : k ≤ n) : (conv a b n)[k]? = some (cnv a b k) := by
  unfold conv
  rw [List.getElem?_map, List.getElem?_range (by omega)]
  rfl
/-- what is added up while the first i of a are done, and j of b at the next one -/
def part (a b : List Nat) (i j k : Nat) : Nat := ((List.range (k + 1)).map fun u => if u < i ∨ (u = i ∧ k - u < j) then a.getD u 0 * b.getD (k - u) 0 else 0).sum
theorem part_zero (a b : List Nat) (k : Nat) : part a b 0 0 k = 0 := by
  unfold part
  have : (List.range (k + 1)).map (fun u => if u < 0 ∨ (u = 0 ∧ k - u < 0) then a.getD u 0 * b.getD (k - u) 0 else 0) = (List.range (k + 1)).map fun _ => 0 := List.map_congr_left fun u _ => by rw [if_neg (by omega)]
  rw [this, sum_zeros]
theorem sum_one (n i : Nat) (f g : Nat → Nat) (c : Nat) (hi : i < n) (h1 : ∀ u, u < n → u ≠ i → g u = f u) (h2 : g i = f i + c) : ((List.range n).map g).sum = ((List.range n).map f).sum + c := by
  induction n with
  | zero => omega
  | succ n ih =>
    rw [List.range_succ, List.map_append, List.map_append, List.sum_append, List.sum_append]
    simp only [List.map_cons, List.map_nil, List.sum_cons, List.sum_nil]
    by_cases e : i = n
    · subst e
      have : (List.range i).map g = (List.range i).map f := List.map_congr_left fun u hu => h1 u (by rw [List.mem_range] at hu; omega) (by rw [List.mem_range] at hu; omega)
      rw [this, h2]
      omega
    · rw [ih (by omega) (fun u hu ne => h1 u (by omega) ne), h1 n (by omega) (Ne.symm e)]
      omega
theorem part_step {a b : List Nat} {i j k : Nat} : part a b i (j + 1) k = part a b i j k + if k = i + j then a.getD i 0 * b.getD j 0 else 0 := by
  unfold part
  by_cases c : k = i + j
  · rw [if_pos c]
    refine sum_one (k + 1) i _ _ _ (by omega) (fun u hu ne => ?_) ?_
    · have : (u < i ∨ (u = i ∧ k - u < j + 1)) ↔ (u < i ∨ (u = i ∧ k - u < j)) := by omega
      simp only [this]
    · have e : k - i = j := by omega
      rw [if_pos (by omega), if_neg (by omega), e, Nat.zero_add]
  · rw [if_neg c, Nat.add_zero]
    congr 1
    apply List.map_congr_left
    intro u hu
    rw [List.mem_range] at hu
    have : (u < i ∨ (u = i ∧ k - u < j + 1)) ↔ (u < i ∨ (u = i ∧ k - u < j)) := by omega
    simp only [this]
theorem part_next {a b : List Nat} {i j k : Nat} (h : k < i + j ∨ b.length ≤ j ∨ a.getD i 0 = 0) : part a b i j k = part a b (i + 1) 0 k := by
  unfold part
  congr 1
  apply List.map_congr_left
  intro u hu
  rw [List.mem_range] at hu
  by_cases c1 : u < i
  · rw [if_pos (.inl c1), if_pos (by omega)]
  · by_cases c2 : u = i
    · subst c2
      rw [if_pos (show u < u + 1 ∨ _ by omega)]
      by_cases c3 : k - u < j
      · rw [if_pos (by omega)]
      · rw [if_neg (by omega)]
        rcases h with h | h | h
        · omega
        · rw [show b.getD (k - u) 0 = 0 by rw [List.getD_eq_getElem?_getD, List.getElem?_eq_none (by omega)]; rfl, Nat.mul_zero]
        · rw [h, Nat.zero_mul]
    · rw [if_neg (by omega), if_neg (by omega)]
theorem part_full {a b : List Nat} {i k : Nat} (h : k < i ∨ a.length ≤ i) : part a b i 0 k = cnv a b k := by
  unfold part cnv
  congr 1
  apply List.map_congr_left
  intro u hu
  rw [List.mem_range] at hu
  by_cases c : u < i
  · rw [if_pos (.inl c)]
  · rw [if_neg (by omega)]
    rw [show a.getD u 0 = 0 by rw [List.getD_eq_getElem?_getD, List.getElem?_eq_none (by omega)]; rfl, Nat.zero_mul]
theorem part_le {a b : List Nat} {i j k B C : Nat} (ha : ∀ x ∈ a, x ≤ B) (hb : ∀ x ∈ b, x ≤ C) : part a b i j k ≤ (k + 1) * (B * C) := by
  unfold part
  have ga : ∀ u, a.getD u 0 ≤ B := fun u => by
    by_cases q : u < a.length
    · rw [List.getD_eq_getElem?_getD, List.getElem?_eq_getElem q]
      exact ha _ (List.getElem_mem q)
    · rw [List.getD_eq_getElem?_getD, List.getElem?_eq_none (by omega)]
      exact Nat.zero_le _
  have gb : ∀ u, b.getD u 0 ≤ C := fun u => by
    by_cases q : u < b.length
    · rw [List.getD_eq_getElem?_getD, List.getElem?_eq_getElem q]
      exact hb _ (List.getElem_mem q)
    · rw [List.getD_eq_getElem?_getD, List.getElem?_eq_none (by omega)]
      exact Nat.zero_le _
  have := sum_le (f := fun u => if u < i ∨ (u = i ∧ k - u < j) then a.getD u 0 * b.getD (k - u) 0 else 0) (b := B * C) (l := List.range (k + 1)) fun u _ => by
    split
    · exact Nat.mul_le_mul (ga u) (gb _)
    · exact Nat.zero_le _
  rw [List.length_range] at this
  exact this
/-- the list of the sums -/
def parts (a b : List Nat) (n i j : Nat) : List Nat := (List.range (n + 1)).map fun k => part a b i j k
theorem parts_len (a b : List Nat) (n i j : Nat) : (parts a b n i j).length = n + 1 := by unfold parts; rw [List.length_map, List.length_range]
theorem parts_at {a b : List Nat} {n i j k : Nat} (h : k ≤ n) : (parts a b n i j)[k]? = some (part a b i j k) := by
  unfold parts
  rw [List.getElem?_map, List.getElem?_range (by omega)]
  rfl
theorem parts_zero (a b : List Nat) (n : Nat) : parts a b n 0 0 = List.replicate (n + 1) 0 := by
  apply List.ext_getElem?
  intro k
  by_cases h : k < n + 1
  · rw [parts_at (by omega), part_zero, List.getElem?_replicate, if_pos h]
  · rw [List.getElem?_eq_none (by rw [parts_len]; omega), List.getElem?_eq_none (by rw [List.length_replicate]; omega)]
theorem parts_step {a b : List Nat} {n i j : Nat} (h : i + j ≤ n) : (parts a b n i j).set (i + j) (part a b i j (i + j) + a.getD i 0 * b.getD j 0) = parts a b n i (j + 1) := by
  apply List.ext_getElem?
  intro k
  by_cases hk : k < n + 1
  · rw [parts_at (by omega), part_step, List.getElem?_set]
    by_cases e : i + j = k
    · subst e
      rw [if_pos rfl, if_pos (by rw [parts_len]; omega), if_pos rfl]
    · rw [if_neg e, parts_at (by omega), if_neg (Ne.symm e), Nat.add_zero]
  · rw [List.getElem?_eq_none (by rw [List.length_set, parts_len]; omega), List.getElem?_eq_none (by rw [parts_len]; omega)]
theorem parts_over {a b : List Nat} {n i j : Nat} (h : n < i + j) : parts a b n i (j + 1) = parts a b n i j := by
  unfold parts
  apply List.map_congr_left
  intro k hk
  rw [List.mem_range] at hk
  rw [part_step, if_neg (by omega), Nat.add_zero]
theorem parts_next {a b : List Nat} {n i j : Nat} (h : n < i + j ∨ b.length ≤ j ∨ a.getD i 0 = 0) : parts a b n i j = parts a b n (i + 1) 0 := by
  unfold parts
  apply List.map_congr_left
  intro k hk
  rw [List.mem_range] at hk
  exact part_next (by omega)
theorem parts_full {a b : List Nat} {n i : Nat} (h : n < i ∨ a.length ≤ i) : parts a b n i 0 = conv a b n := by
  unfold parts conv
  apply List.map_congr_left
  intro k hk
  rw [List.mem_range] at hk
  exact part_full (by omega)
section
open PySem PySem.Spec PyProof.Rows L2 Evl
theorem lc_enumE {K : PySem.W.Frag} {σ : L2.St} {H1 : Hp} {g : TG} {te : TE} {vs : List Nat} {Dl : Addr} {Q : VK} {a : Addr} {xs : List V} (Pv : Nat → Hp → Prop) (h0 : Pv 0 (upd H1 Dl (.lst []))) (hl : ∀ i H, i ≤ xs.length → Pv i H → SqL K H a xs)
    (hs : ∀ i x H T, xs[i]? = some x → Pv i H → H T = none → g (.ref T) (wipe σ vs) (upd H T (.tup [.int (i : Nat), x])) fun σ2 H2 => wipe σ2 vs = wipe σ vs ∧ te σ2 H2 fun y H4 => ∃ acc, H4 Dl = some (.lst acc) ∧ acc.length < sizeLine ∧ Pv (i + 1) (upd H4 Dl (.lst (acc ++ [y]))))
    (hd : ∀ H, Pv xs.length H → Q (.ref Dl) H) : LcG (Ite K a) g tYes te vs σ Dl H1 Q := by
  refine lc_g xs.length Pv h0 (fun H h => ⟨xs, hl _ H (Nat.le_refl _) h, Nat.le_refl _⟩) (fun i H hi h => ⟨xs, xs[i], hl i H (by omega) h, List.getElem?_eq_getElem hi⟩) (fun i H x H' hi h y => ?_) hd
  obtain ⟨T, v, rfl, hT, rfl, hf⟩ := y
  exact hs i v H T (hf xs (hl i _ (by omega) h)) h hT
/-- a row of a new grid changed -/
theorem GridN.chg {H H1 : Hp} {s : Addr} {G : Grid} (h : GridN H H1 s G) {j : Nat} (hj : j < G.length) : ∃ p xs, H1 s = some (.lst xs) ∧ xs.length = G.length ∧ xs[j]? = some (.ref p) ∧ H1 p = some (.lst ((nz (row G j)).map V.int)) ∧ H p = none ∧
    ∀ r : List Nat, GridN H (upd H1 p (.lst ((nz r).map V.int))) s (G.set j r) := by
  obtain ⟨h0, ps, h1, h2, h4, h5, h3⟩ := h
  have hx : ps[j]? = some ps[j] := List.getElem?_eq_getElem (by omega)
  have hp := h3 j _ hx
  refine ⟨ps[j], _, h1, by rw [List.length_map]; exact h2, by rw [List.getElem?_map, hx]; rfl, hp.2, hp.1, fun r => ?_⟩
  have ns : s ≠ ps[j] := fun e => h5 (by rw [e]; exact List.getElem_mem _)
  refine ⟨h0, ps, by rw [upd_ne ns]; exact h1, by rw [List.length_set]; exact h2, h4, h5, fun i q e => ⟨(h3 i q e).1, ?_⟩⟩
  by_cases c : i = j
  · subst c
    rw [hx] at e
    obtain rfl := Option.some.inj e
    rw [upd_same]
    unfold row
    rw [List.getD_eq_getElem?_getD, List.getElem?_set, if_pos rfl, if_pos hj]
    rfl
  · have nq : q ≠ ps[j] := fun z => by
      subst z
      exact c (nd_at h4 e hx)
    rw [upd_ne nq, (h3 i q e).2]
    unfold row
    rw [List.getD_eq_getElem?_getD, List.getD_eq_getElem?_getD, List.getElem?_set, if_neg (Ne.symm c)]
/-! ### what the functions of loops.py give -/
def cl (G : Grid) (out : List Nat) (p n : Nat) : List Nat := (List.range (n + 1)).map fun t => fw G out p t p
def stg (G : Grid) (out : List Nat) (p k j : Nat) : Grid := (List.range G.length).map fun v => (List.range (if v < j then k + 2 else k + 1)).map fun t => fw G out p t v
theorem stg_len (G : Grid) (out : List Nat) (p k j : Nat) : (stg G out p k j).length = G.length := by unfold stg; rw [List.length_map, List.length_range]
theorem stg_row {G : Grid} {out : List Nat} {p k j v : Nat} (h : v < G.length) : row (stg G out p k j) v = (List.range (if v < j then k + 2 else k + 1)).map fun t => fw G out p t v := by
  unfold row stg
  rw [List.getD_eq_getElem?_getD, List.getElem?_map, List.getElem?_range h]
  rfl
theorem stg_set {G : Grid} {out : List Nat} {p k j : Nat} (h : j < G.length) : (stg G out p k j).set j (row (stg G out p k j) j ++ [fw G out p (k + 1) j]) = stg G out p k (j + 1) := by
  apply List.ext_getElem?
  intro v
  by_cases hv : v < G.length
  · rw [List.getElem?_set, stg_row h, if_neg (Nat.lt_irrefl j)]
    have rhs : (stg G out p k (j + 1))[v]? = some (row (stg G out p k (j + 1)) v) := at_row (by rw [stg_len]; exact hv)
    rw [rhs, stg_row hv]
    by_cases e : j = v
    · subst e
      rw [if_pos rfl, if_pos (by rw [stg_len]; exact hv), if_pos (Nat.lt_succ_self j), List.range_succ (n := k + 1), List.map_append]
      rfl
    · rw [if_neg e, at_row (by rw [stg_len]; exact hv), stg_row hv]
      by_cases c : v < j
      · rw [if_pos c, if_pos (by omega)]
      · rw [if_neg c, if_neg (by omega)]
  · rw [List.getElem?_eq_none (by rw [List.length_set, stg_len]; omega), List.getElem?_eq_none (by rw [stg_len]; omega)]
theorem stg_next (G : Grid) (out : List Nat) (p k : Nat) : stg G out p k G.length = stg G out p (k + 1) 0 := by
  unfold stg
  apply List.map_congr_left
  intro v hv
  rw [List.mem_range] at hv
  rw [if_pos hv, if_neg (by omega)]
theorem stg_cl {G : Grid} {out : List Nat} {p n : Nat} (h : p < G.length) : row (stg G out p n 0) p = cl G out p n := by
  rw [stg_row h, if_neg (by omega)]
  rfl
def prs (G : Grid) (L : List Nat) (n : Nat) : Grid := (List.range L.length).map fun i => cl G (L.take i) (L.getD i 0) n
theorem prs_len (G : Grid) (L : List Nat) (n : Nat) : (prs G L n).length = L.length := by unfold prs; rw [List.length_map, List.length_range]
theorem prs_row {G : Grid} {L : List Nat} {n i : Nat} (h : i < L.length) : row (prs G L n) i = cl G (L.take i) (L.getD i 0) n := by
  unfold row prs
  rw [List.getD_eq_getElem?_getD, List.getElem?_map, List.getElem?_range h]
  rfl
def fold (n : Nat) (P : Grid) : List Nat := P.foldl (fun f q => conv f q n) (1 :: List.replicate n 0)
theorem fold_len (n : Nat) (P : Grid) : (fold n P).length = n + 1 := by
  unfold fold
  have : ∀ (P : Grid) (f : List Nat), f.length = n + 1 → (P.foldl (fun f q => conv f q n) f).length = n + 1 := fun P => by
    induction P with
    | nil => exact fun f h => h
    | cons q P ih => exact fun f _ => ih _ (conv_len _ _ _)
  exact this P _ (by simp)
theorem fold_snoc {n : Nat} {P : Grid} {i : Nat} {q : List Nat} (h : P[i]? = some q) : fold n (P.take (i + 1)) = conv (fold n (P.take i)) q n := by
  unfold fold
  rw [List.take_add_one, h, List.foldl_append]
  rfl
theorem cl_le {G : Grid} (h : SiteOk G) (out : List Nat) (p n : Nat) : ∀ x ∈ cl G out p n, x ≤ 12 ^ n := fun x hx => by
  unfold cl at hx
  obtain ⟨t, ht, rfl⟩ := List.mem_map.mp hx
  rw [List.mem_range] at ht
  exact Nat.le_trans (fw_le h out p t p) (Nat.pow_le_pow_right (by omega) (by omega))
theorem cl_len (G : Grid) (out : List Nat) (p n : Nat) : (cl G out p n).length = n + 1 := by unfold cl; rw [List.length_map, List.length_range]
theorem cnv_le {a b : List Nat} {k B C : Nat} (ha : ∀ x ∈ a, x ≤ B) (hb : ∀ x ∈ b, x ≤ C) : cnv a b k ≤ (k + 1) * (B * C) := by
  rw [← part_full (a := a) (b := b) (i := k + 1) (k := k) (.inl (by omega))]
  exact part_le ha hb
theorem fold_le {n : Nat} {P : Grid} (hP : ∀ q ∈ P, ∀ x ∈ q, x ≤ 12 ^ n) : ∀ i, ∀ x ∈ fold n (P.take i), x ≤ ((n + 1) * 12 ^ n) ^ i := fun i => by
  induction i with
  | zero =>
    intro x hx
    rw [List.take_zero] at hx
    have : x ∈ 1 :: List.replicate n 0 := hx
    rcases List.mem_cons.mp this with rfl | h
    · simp
    · rw [List.eq_of_mem_replicate h]; exact Nat.zero_le _
  | succ i ih =>
    intro x hx
    by_cases c : i < P.length
    · have e : P[i]? = some P[i] := List.getElem?_eq_getElem c
      rw [fold_snoc e] at hx
      unfold conv at hx
      obtain ⟨k, hk, rfl⟩ := List.mem_map.mp hx
      rw [List.mem_range] at hk
      have a := cnv_le (k := k) ih (hP P[i] (List.getElem_mem c))
      have b : (k + 1) * (((n + 1) * 12 ^ n) ^ i * 12 ^ n) ≤ (n + 1) * (((n + 1) * 12 ^ n) ^ i * 12 ^ n) := Nat.mul_le_mul_right _ (by omega)
      have d : (n + 1) * (((n + 1) * 12 ^ n) ^ i * 12 ^ n) = ((n + 1) * 12 ^ n) ^ (i + 1) := by
        rw [Nat.pow_succ, Nat.mul_left_comm]
      omega
    · rw [List.take_of_length_le (by omega)] at hx
      rw [List.take_of_length_le (by omega)] at ih
      have a := ih x hx
      have b : ((n + 1) * 12 ^ n) ^ i ≤ ((n + 1) * 12 ^ n) ^ (i + 1) := Nat.pow_le_pow_right (Nat.mul_pos (by omega) (Nat.pow_pos (by omega))) (by omega)
      omega
theorem big_fold {n i : Nat} (hn : n ≤ 60) (hi : i ≤ 12) : ((n + 1) * 12 ^ n) ^ i < 2 ^ 4000 := by
  have a : (n + 1) * 12 ^ n ≤ 61 * 12 ^ 60 := Nat.mul_le_mul (by omega) (Nat.pow_le_pow_right (by omega) hn)
  have b : ((n + 1) * 12 ^ n) ^ i ≤ (61 * 12 ^ 60) ^ i := Nat.pow_le_pow_left a i
  have c : (61 * 12 ^ 60) ^ i ≤ (61 * 12 ^ 60) ^ 12 := Nat.pow_le_pow_right (by decide) hi
  have d : (61 * 12 ^ 60) ^ 12 < 2 ^ 4000 := by decide +kernel
  omega
theorem big_cl {n : Nat} (hn : n ≤ 60) : 12 ^ n < 2 ^ 4000 := by
  have a : 12 ^ n ≤ 12 ^ 60 := Nat.pow_le_pow_right (by omega) hn
  have d : 12 ^ 60 < 2 ^ 4000 := by decide +kernel
  omega
/-- a new grid behind a new grid -/
theorem GridN.ext {H H1 H2 : Hp} {s d : Addr} {G F : Grid} (h : GridN H H1 s G) (g : GridN H1 H2 d F) (e : Ex H1 H2) (low : ∀ x, H1 x = none → H x = none) : ∃ xs zs, H2 s = some (.lst xs) ∧ H2 d = some (.lst zs) ∧ xs.length = G.length ∧ zs.length = F.length ∧ GridN H (upd H2 s (.lst (xs ++ zs))) s (G ++ F) := by
  obtain ⟨h0, ps, h1, h2, h4, h5, h3⟩ := h
  obtain ⟨g0, qs, g1, g2, g4, g5, g3⟩ := g
  refine ⟨_, _, e _ _ h1, g1, by rw [List.length_map, h2], by rw [List.length_map, g2], h0, ps ++ qs, by rw [upd_same, List.map_append], by rw [List.length_append, List.length_append, h2, g2], ?_, ?_, fun i p q => ?_⟩
  · rw [List.nodup_append]
    refine ⟨h4, g4, fun a ha b hb z => ?_⟩
    subst z
    obtain ⟨i, hi, ei⟩ := List.getElem_of_mem ha
    obtain ⟨j, hj, ej⟩ := List.getElem_of_mem hb
    have a1 := (h3 i a (List.getElem?_eq_some_iff.mpr ⟨hi, ei⟩)).2
    have a2 := (g3 j a (List.getElem?_eq_some_iff.mpr ⟨hj, ej⟩)).1
    rw [a2] at a1
    cases a1
  · intro m
    rcases List.mem_append.mp m with m | m
    · exact h5 m
    · obtain ⟨j, hj, ej⟩ := List.getElem_of_mem m
      have a2 := (g3 j s (List.getElem?_eq_some_iff.mpr ⟨hj, ej⟩)).1
      rw [a2] at h1
      cases h1
  · by_cases hi : i < ps.length
    · rw [List.getElem?_append_left hi] at q
      have := h3 i p q
      have ns : p ≠ s := fun z => h5 (z ▸ List.mem_of_getElem? q)
      refine ⟨this.1, ?_⟩
      rw [upd_ne ns, e _ _ this.2]
      unfold row
      rw [List.getD_eq_getElem?_getD, List.getD_eq_getElem?_getD, List.getElem?_append_left (by omega)]
    · rw [List.getElem?_append_right (by omega)] at q
      have := g3 _ p q
      have ns : p ≠ s := fun z => by
        have a := this.1
        rw [z, h1] at a
        cases a
      refine ⟨low p this.1, ?_⟩
      rw [upd_ne ns, this.2]
      unfold row
      rw [List.getD_eq_getElem?_getD, List.getD_eq_getElem?_getD, List.getElem?_append_right (by omega), h2]
theorem kept_ones (s : List Nat) (k : Nat → Bool) : kept s.length (fun i => k (s.getD i 0)) (fun _ => V.int 1) = (nz ((s.filter k).map fun _ => 1)).map V.int := by
  unfold kept nz
  have e : (List.range s.length).map (fun i => s.getD i 0) = s := by
    apply List.ext_getElem?
    intro j
    by_cases h : j < s.length
    · rw [List.getElem?_map, List.getElem?_range h, List.getElem?_eq_getElem h]
      show some (s.getD j 0) = _
      rw [List.getD_eq_getElem?_getD, List.getElem?_eq_getElem h]
      rfl
    · rw [List.getElem?_eq_none (by rw [List.length_map, List.length_range]; omega), List.getElem?_eq_none (by omega)]
  conv => rhs; rw [← e]
  rw [List.filter_map, List.map_map, List.map_map, List.map_map]
  rfl
/-- the rows that are kept -/
theorem GridAt.keep {H' : Hp} {D : Addr} {ps : List Addr} {G : Grid} (P : List Nat → Bool) (k : Nat → Bool) (hl : ps.length = G.length) (hr : ∀ i p, ps[i]? = some p → H' p = some (.lst ((nz (row G i)).map V.int))) (hk : ∀ i, i < G.length → k i = P (row G i))
    (hD : H' D = some (.lst (kept G.length k fun i => .ref (ps.getD i 0)))) : GridAt H' D (G.filter P) := by
  have eG : G = (List.range G.length).map (row G) := by
    apply List.ext_getElem?
    intro j
    by_cases h : j < G.length
    · rw [List.getElem?_map, List.getElem?_range h, at_row h]
      rfl
    · rw [List.getElem?_eq_none (by omega), List.getElem?_eq_none (by rw [List.length_map, List.length_range]; omega)]
  have eF : G.filter P = ((List.range G.length).filter k).map (row G) := by
    conv => lhs; rw [eG]
    rw [List.filter_map]
    congr 1
    apply List.filter_congr
    intro i hi
    rw [List.mem_range] at hi
    exact (hk i hi).symm
  refine ⟨((List.range G.length).filter k).map fun i => ps.getD i 0, ?_, ?_, fun i p e => ?_⟩
  · rw [hD]
    unfold kept
    rw [List.map_map]
    rfl
  · rw [eF, List.length_map, List.length_map]
  · rw [List.getElem?_map] at e
    cases q : ((List.range G.length).filter k)[i]? with
    | none => rw [q] at e; cases e
    | some j =>
      rw [q] at e
      have hj : j < G.length := List.mem_range.mp (List.mem_filter.mp (List.mem_of_getElem? q)).1
      have hx : ps[j]? = some ps[j] := List.getElem?_eq_getElem (by omega)
      have ep : ps.getD j 0 = p := Option.some.inj e
      rw [List.getD_eq_getElem?_getD, hx] at ep
      obtain rfl : ps[j] = p := ep
      rw [hr j _ hx]
      have : row (G.filter P) i = row G j := by
        rw [eF]
        unfold row
        rw [List.getD_eq_getElem?_getD, List.getElem?_map, q]
        rfl
      rw [this]
end
end BC

set_option Elab.async false
set_option linter.all false
set_option maxRecDepth 100000
set_option maxHeartbeats 4000000
/-! all lengths in order: the plain law, by computation -/
namespace LN
open TR BC F58
/-- the greatest length that may come after a list of lengths -/
def topN (m : Nat) (r : List Nat) : Nat := min m (1 + r.getLast?.getD 0)
def all (m : Nat) : Nat → List (List Nat)
  | 0 => [[]]
  | t + 1 => ((all m t).map fun r => (List.range (topN m r)).map fun u => r ++ [u + 1]).flatten
/-- rank, by rows that are computed once -/
def SF (m t j : Nat) : Int := (((rowsOf m t).drop 1).take j).sum
def rankF (m : Nat) : List Nat → Int
  | [] => 0
  | x :: xs => SF m xs.length (x - 1) + rankF m xs
def okB (m : Nat) : Nat → List Nat → Bool
  | _, [] => true
  | p, x :: xs => decide (1 ≤ x) && decide (x ≤ min (p + 1) m) && okB m x xs
theorem ok_iff {m : Nat} : ∀ {p : Nat} {L : List Nat}, okB m p L = true → Ok m p L
  | _, [], _ => trivial
  | p, x :: xs, h => by
    unfold okB at h
    rw [Bool.and_eq_true, Bool.and_eq_true] at h
    exact ⟨of_decide_eq_true h.1.1, of_decide_eq_true h.1.2, ok_iff h.2⟩
theorem rank_iff {m : Nat} : ∀ {p : Nat} {L : List Nat}, Ok m p L → rankF m L = rank m L
  | _, [], _ => rfl
  | p, x :: xs, ⟨h1, h2, h3⟩ => by
    show SF m xs.length (x - 1) + rankF m xs = S m xs.length (x - 1) + rank m xs
    rw [rank_iff h3]
    unfold SF
    rw [rowsOf_eq, wrow_sum m _ _ (by omega)]
def good (m t : Nat) : Bool := (all m t).zipIdx.all fun p => okB m 0 p.1 && decide (p.1.length = t) && decide (rankF m p.1 = p.2)
theorem all_good : (List.range 6).all (fun m => (List.range 8).all fun t => m == 0 || good m t) = true := by decide +kernel
theorem all_len : (List.range 6).all (fun m => (List.range 8).all fun t => m == 0 || decide (((all m t).length : Int) = (rowsOf m t).getD 0 0) && decide ((all m t).length ≤ 429)) = true := by decide +kernel
theorem all_at {m t i : Nat} {L : List Nat} (h1 : 1 ≤ m) (h2 : m ≤ 5) (h3 : t ≤ 7) (h : (all m t)[i]? = some L) : Ok m 0 L ∧ L.length = t ∧ rank m L = i := by
  have a := List.all_eq_true.mp (List.all_eq_true.mp all_good m (List.mem_range.mpr (by omega))) t (List.mem_range.mpr (by omega))
  rw [Bool.or_eq_true] at a
  have b : good m t = true := a.resolve_left (by simp; omega)
  have c := List.all_eq_true.mp b (L, i) (by rw [List.mem_zipIdx_iff_getElem?]; exact h)
  simp only [Bool.and_eq_true, decide_eq_true_eq] at c
  have o := ok_iff c.1.1
  exact ⟨o, c.1.2, (rank_iff o).symm.trans c.2⟩
theorem all_many {m t : Nat} (h1 : 1 ≤ m) (h2 : m ≤ 5) (h3 : t ≤ 7) : ((all m t).length : Int) = W m t 0 ∧ (all m t).length ≤ 429 := by
  have a := List.all_eq_true.mp (List.all_eq_true.mp all_len m (List.mem_range.mpr (by omega))) t (List.mem_range.mpr (by omega))
  rw [Bool.or_eq_true] at a
  have b := a.resolve_left (by simp; omega)
  rw [Bool.and_eq_true, decide_eq_true_eq, decide_eq_true_eq] at b
  refine ⟨?_, b.2⟩
  rw [b.1, rowsOf_eq, List.getD_eq_getElem?_getD, wrow_at (by omega)]
  rfl
/-- the lengths of all lists of visits are all lengths -/
def same (m t : Nat) : Bool := ((rows m t).all fun R => ((all m t).map nz).contains (lens (nz R))) && (all m t).all fun L => (rows m t).any fun R => lens (nz R) == nz L
def asc (m t : Nat) : Bool := decide (((all m t).map fun L => TS.code 64 (nz L)).Pairwise (· < ·)) && ((all m t).all fun L => L.all fun x => decide (x < 64)) && decide ((all m t).length < 60)
theorem all_same : (List.range 5).all (fun m => (List.range 6).all fun t => m == 0 || same m t) = true := by decide +kernel
theorem all_asc : (List.range 5).all (fun m => (List.range 6).all fun t => m == 0 || asc m t) = true := by decide +kernel
theorem same_at {m t : Nat} (h1 : 1 ≤ m) (h2 : m ≤ 4) (h3 : t ≤ 5) : same m t = true := by
  have a := List.all_eq_true.mp (List.all_eq_true.mp all_same m (List.mem_range.mpr (by omega))) t (List.mem_range.mpr (by omega))
  rw [Bool.or_eq_true] at a
  exact a.resolve_left (by simp; omega)
theorem asc_at {m t : Nat} (h1 : 1 ≤ m) (h2 : m ≤ 4) (h3 : t ≤ 5) : asc m t = true := by
  have a := List.all_eq_true.mp (List.all_eq_true.mp all_asc m (List.mem_range.mpr (by omega))) t (List.mem_range.mpr (by omega))
  rw [Bool.or_eq_true] at a
  exact a.resolve_left (by simp; omega)
theorem perm_asc {l1 l2 : List (List Int)} {f : List Int → Int} (h2 : (l2.map f).Pairwise (· < ·)) (h1 : l1.Pairwise fun a b => f a ≤ f b) (p : l1.Perm l2) : l1 = l2 := by
  have inj : ∀ a ∈ l2, ∀ b ∈ l2, f a = f b → a = b := by
    intro a ha b hb e
    obtain ⟨i, hi, rfl⟩ := List.getElem_of_mem ha
    obtain ⟨j, hj, rfl⟩ := List.getElem_of_mem hb
    have q := List.pairwise_iff_getElem.mp h2
    simp only [List.length_map, List.getElem_map] at q
    rcases Nat.lt_trichotomy i j with c | c | c
    · have := q i j hi hj c; omega
    · subst c; rfl
    · have := q j i hj hi c; omega
  have h2' : l2.Pairwise fun a b => f a ≤ f b := (List.pairwise_map.mp h2).imp fun h => Int.le_of_lt h
  exact p.eq_of_pairwise (fun a b ha hb ab ba => inj a (p.mem_iff.mp ha) b hb (Int.le_antisymm ab ba)) h1 h2'
end LN
namespace LN
open PySem PySem.Spec PyProof.Rows L2 BC Evl TR F58
/-! ### lists of tuples of numbers -/
def dT (ns : List Int) : PyData := .tuple (ns.map PyData.int)
def dTs (keys : List (List Int)) : PyData := .list (keys.map dT)
theorem lay_intsA : ∀ ns : List Int, PyData.canLayAll0 (ns.map PyData.int) = true
  | [] => by simp [PyData.canLayAll0]
  | n :: ns => by simp [PyData.canLayAll0, PyData.canLay0, lay_intsA ns]
theorem lay_tup (ns : List Int) : PyData.canLay0 (dT ns) = true := by unfold dT; simp only [PyData.canLay0]; exact lay_intsA ns
theorem lay_tupsA : ∀ keys : List (List Int), PyData.canLayAll0 (keys.map dT) = true
  | [] => by simp [PyData.canLayAll0]
  | k :: keys => by rw [List.map_cons, PyData.canLayAll0, lay_tup k, lay_tupsA keys]; rfl
theorem lay_tups (keys : List (List Int)) : PyData.canLay0 (dTs keys) = true := by unfold dTs; simp only [PyData.canLay0]; exact lay_tupsA keys
theorem dep_tup (ns : List Int) : PyData.depth (dT ns) ≤ 1 := by
  have h := dep_all (ds := ns.map PyData.int) (n := 0) fun d m => by
    obtain ⟨n, hn, rfl⟩ := List.mem_map.mp m
    simp [PyData.depth]
  unfold dT
  simp only [PyData.depth]; omega
theorem dep_tups (keys : List (List Int)) : PyData.depth (dTs keys) ≤ 2 := by
  have h := dep_all (ds := keys.map dT) (n := 1) fun d m => by
    obtain ⟨n, hn, rfl⟩ := List.mem_map.mp m
    exact dep_tup n
  unfold dTs
  simp only [PyData.depth]; omega
/-- a list of tuples of numbers: their addresses and what they hold -/
def TupsAt (H : Hp) (s : Addr) (ks : List (Addr × List Int)) : Prop := H s = some (.lst (ks.map fun p => V.ref p.1)) ∧ ∀ p ∈ ks, H p.1 = some (.tup (p.2.map V.int))
theorem dp_tupsA {K : PySem.W.Frag} {H : Hp} : ∀ ks : List (Addr × List Int), (∀ p ∈ ks, H p.1 = some (.tup (p.2.map V.int))) → DpAll K H (ks.map fun p => V.ref p.1) ((ks.map (·.2)).map dT)
  | [], _ => .nil
  | p :: ks, h => .cons (.tup (.inl (.inl (h p List.mem_cons_self))) (dp_ints p.2)) (dp_tupsA ks fun q hq => h q (List.mem_cons_of_mem _ hq))
theorem TupsAt.dp {K : PySem.W.Frag} {H : Hp} {s : Addr} {ks : List (Addr × List Int)} (h : TupsAt H s ks) : Dp K H (.ref s) (dTs (ks.map (·.2))) := .lst (.inl (.inl h.1)) (dp_tupsA ks h.2)
theorem TupsAt.ex {H H' : Hp} {s : Addr} {ks : List (Addr × List Int)} (h : TupsAt H s ks) (e : Ex H H') : TupsAt H' s ks := ⟨e _ _ h.1, fun p hp => e _ _ (h.2 p hp)⟩
theorem eqTups {K : PySem.W.Frag} {H : Hp} {Q : VK} {s t : Addr} {ks ls : List (Addr × List Int)} (h : TupsAt H s ks) (g : TupsAt H t ls) (e : ks.map (·.2) = ls.map (·.2)) (q : Q (.bl true) H) : rEqD K (.ref s) (.ref t) H Q := by
  have l := lay_tups (ls.map (·.2))
  have sh : SeqAt.shaped (dTs (ls.map (·.2))) = true := by
    have := dep_tups (ls.map (·.2))
    show (PyData.canLay0 _ && decide (PyData.depth _ ≤ 64)) = true
    rw [l, decide_eq_true (by omega)]
    rfl
  refine ⟨_, _, by rw [← e]; exact h.dp, g.dp, sh, sh, ?_⟩
  rw [PySem.SeqAt.eqv_refl _ l]
  exact q
/-- one tuple more -/
theorem TupsAt.push {H H' : Hp} {s p : Addr} {ks : List (Addr × List Int)} {ns : List Int} (h : TupsAt H s ks) (e : Ex H H') (hp : H' p = some (.tup (ns.map V.int))) : H' s = some (.lst (ks.map fun p => V.ref p.1)) ∧ TupsAt (upd H' s (.lst (ks.map (fun p => V.ref p.1) ++ [V.ref p]))) s (ks ++ [(p, ns)]) := by
  have hs := e _ _ h.1
  have off : ∀ {q : Addr} {xs : List V}, H' q = some (.tup xs) → q ≠ s := fun hq z => by rw [z, hs] at hq; cases hq
  refine ⟨hs, by rw [upd_same, List.map_append]; rfl, fun q hq => ?_⟩
  rcases List.mem_append.mp hq with hq | hq
  · have z := e _ _ (h.2 q hq)
    rw [upd_ne (off z)]
    exact z
  · rw [List.mem_singleton.mp hq]
    rw [upd_ne (off hp)]
    exact hp
/-! ### the different lengths -/
theorem keys_nodup {m t : Nat} (h1 : 1 ≤ m) (h2 : m ≤ 4) (h3 : t ≤ 5) : ((all m t).map nz).Nodup := by
  have a := asc_at h1 h2 h3
  unfold asc at a
  rw [Bool.and_eq_true, Bool.and_eq_true, decide_eq_true_eq] at a
  have b := a.1.1
  rw [show (fun L => TS.code 64 (nz L)) = TS.code 64 ∘ nz from rfl, ← List.map_map] at b
  exact (List.pairwise_map.mp b).imp fun h e => by rw [e] at h; exact absurd h (Int.lt_irrefl _)
theorem keys_asc {m t : Nat} (h1 : 1 ≤ m) (h2 : m ≤ 4) (h3 : t ≤ 5) : (((all m t).map nz).map (TS.code 64)).Pairwise (· < ·) := by
  have a := asc_at h1 h2 h3
  unfold asc at a
  rw [Bool.and_eq_true, Bool.and_eq_true, decide_eq_true_eq] at a
  rw [List.map_map]
  exact a.1.1
theorem keys_bd {m t : Nat} (h1 : 1 ≤ m) (h2 : m ≤ 4) (h3 : t ≤ 5) : (∀ L ∈ all m t, TS.Bd 64 (nz L)) ∧ (all m t).length < 60 := by
  have a := asc_at h1 h2 h3
  unfold asc at a
  rw [Bool.and_eq_true, Bool.and_eq_true] at a
  refine ⟨fun L hL n hn => ?_, of_decide_eq_true a.2⟩
  obtain ⟨x, hx, rfl⟩ := List.mem_map.mp hn
  have := of_decide_eq_true (List.all_eq_true.mp (List.all_eq_true.mp a.1.2 L hL) x hx)
  omega
theorem keys_of {m t : Nat} (h1 : 1 ≤ m) (h2 : m ≤ 4) (h3 : t ≤ 5) : (∀ R ∈ rows m t, lens (nz R) ∈ (all m t).map nz) ∧ ∀ k ∈ (all m t).map nz, ∃ R ∈ rows m t, lens (nz R) = k := by
  have a := same_at h1 h2 h3
  unfold same at a
  rw [Bool.and_eq_true] at a
  refine ⟨fun R hR => ?_, fun k hk => ?_⟩
  · have := List.all_eq_true.mp a.1 R hR
    simpa using this
  · obtain ⟨L, hL, rfl⟩ := List.mem_map.mp hk
    obtain ⟨R, hR, e⟩ := List.any_eq_true.mp (List.all_eq_true.mp a.2 L hL)
    exact ⟨R, hR, by simpa using e⟩
theorem nodup_leL {α : Type} [DecidableEq α] : ∀ {l m : List α}, l.Nodup → (∀ x ∈ l, x ∈ m) → l.length ≤ m.length
  | [], _, _, _ => Nat.zero_le _
  | x :: l, m, h, s => by
    obtain ⟨nx, nl⟩ := List.nodup_cons.mp h
    have hx := s x List.mem_cons_self
    have := nodup_leL (m := m.erase x) nl fun y hy => (List.mem_erase_of_ne (fun e => by subst e; exact nx hy)).mpr (s y (List.mem_cons_of_mem _ hy))
    rw [List.length_erase_of_mem hx] at this
    have p := List.length_pos_of_mem hx
    rw [List.length_cons]
    omega
end LN

set_option Elab.async false
set_option linter.all false
set_option maxRecDepth 100000
set_option maxHeartbeats 4000000
namespace LW
open PySem PySem.Spec PyProof.Rows L2 BC Evl TR LN

def topS (i : Nat) : Stmt := PySem.Challenge.pw_breadcrumbs_k64_few_lengths_listed.main.body.getD i (.Pass ⟨0, 0, 0, 0⟩)
abbrev s_is_integer : Stmt := topS 6
theorem sc_is_integer : FnScope ["value", "least", "most"] ["value", "least", "most"] (defScope s_is_integer) := ⟨rfl, rfl, rfl, by decide +kernel, rfl, by decide +kernel, by decide +kernel⟩
abbrev s_check_number : Stmt := topS 7
theorem sc_check_number : FnScope ["value", "least", "most"] ["value", "least", "most"] (defScope s_check_number) := ⟨rfl, rfl, rfl, by decide +kernel, rfl, by decide +kernel, by decide +kernel⟩
abbrev s_is_page : Stmt := topS 11
theorem sc_is_page : FnScope ["value"] ["value"] (defScope s_is_page) := ⟨rfl, rfl, rfl, by decide +kernel, rfl, by decide +kernel, by decide +kernel⟩
abbrev s_is_visits : Stmt := topS 12
theorem sc_is_visits : FnScope ["value", "page"] ["value"] (defScope s_is_visits) := ⟨rfl, rfl, rfl, by decide +kernel, rfl, by decide +kernel, by decide +kernel⟩
abbrev s_check_visits : Stmt := topS 13
theorem sc_check_visits : FnScope ["visits"] ["visits"] (defScope s_check_visits) := ⟨rfl, rfl, rfl, by decide +kernel, rfl, by decide +kernel, by decide +kernel⟩
abbrev s_visited : Stmt := topS 14
theorem sc_visited : FnScope ["trail", "page"] ["trail", "page"] (defScope s_visited) := ⟨rfl, rfl, rfl, by decide +kernel, rfl, by decide +kernel, by decide +kernel⟩
abbrev s_is_lengths : Stmt := topS 19
theorem sc_is_lengths : FnScope ["value", "before", "length"] ["value"] (defScope s_is_lengths) := ⟨rfl, rfl, rfl, by decide +kernel, rfl, by decide +kernel, by decide +kernel⟩
abbrev s_check_lengths : Stmt := topS 20
theorem sc_check_lengths : FnScope ["value"] ["value"] (defScope s_check_lengths) := ⟨rfl, rfl, rfl, by decide +kernel, rfl, by decide +kernel, by decide +kernel⟩
abbrev s_lengths_in : Stmt := topS 21
theorem sc_lengths_in : FnScope ["visits", "page", "trail", "found"] ["visits"] (defScope s_lengths_in) := ⟨rfl, rfl, rfl, by decide +kernel, rfl, by decide +kernel, by decide +kernel⟩
abbrev s_lengths_of : Stmt := topS 22
theorem sc_lengths_of : FnScope ["visits"] ["visits"] (defScope s_lengths_of) := ⟨rfl, rfl, rfl, by decide +kernel, rfl, by decide +kernel, by decide +kernel⟩
abbrev s_continuations : Stmt := topS 23
theorem sc_continuations : FnScope ["many", "times", "found", "turn", "length", "before", "row", "total"] ["many", "times"] (defScope s_continuations) := ⟨rfl, rfl, rfl, by decide +kernel, rfl, by decide +kernel, by decide +kernel⟩
abbrev s_count_lengths : Stmt := topS 24
theorem sc_count_lengths : FnScope ["many", "times"] ["many", "times"] (defScope s_count_lengths) := ⟨rfl, rfl, rfl, by decide +kernel, rfl, by decide +kernel, by decide +kernel⟩
abbrev s_nth_lengths : Stmt := topS 25
theorem sc_nth_lengths : FnScope ["many", "times", "index", "left", "ways", "rest", "found", "length"] ["many", "times", "index"] (defScope s_nth_lengths) := ⟨rfl, rfl, rfl, by decide +kernel, rfl, by decide +kernel, by decide +kernel⟩
abbrev s_lengths_rank : Stmt := topS 26
theorem sc_lengths_rank : FnScope ["many", "lengths", "ways", "found", "place", "length"] ["many", "lengths"] (defScope s_lengths_rank) := ⟨rfl, rfl, rfl, by decide +kernel, rfl, by decide +kernel, by decide +kernel⟩
abbrev s_law_bag : Stmt := topS 28
theorem sc_law_bag : FnScope ["_law_cell"] ["_law_cell"] (defScope s_law_bag) := ⟨rfl, rfl, rfl, by decide +kernel, rfl, by decide +kernel, by decide +kernel⟩
abbrev s_law_draw : Stmt := topS 29
theorem sc_law_draw : FnScope ["_law_bag_here", "_law_most", "_law_mixed", "_law_digit"] ["_law_bag_here", "_law_most"] (defScope s_law_draw) := ⟨rfl, rfl, rfl, by decide +kernel, rfl, by decide +kernel, by decide +kernel⟩
abbrev s_law_equal : Stmt := topS 30
theorem sc_law_equal : FnScope ["_law_found", "_law_due", "_law_one", "_law_two"] ["_law_found", "_law_due"] (defScope s_law_equal) := ⟨rfl, rfl, rfl, by decide +kernel, rfl, by decide +kernel, by decide +kernel⟩
abbrev s_law_lists : Stmt := topS 31
theorem sc_law_lists : FnScope ["_law_wide", "_law_long", "_law_found", "_law_turn", "_law_longer", "_law_row", "_law_one"] ["_law_wide", "_law_long"] (defScope s_law_lists) := ⟨rfl, rfl, rfl, by decide +kernel, rfl, by decide +kernel, by decide +kernel⟩
abbrev s_law_all : Stmt := topS 32
theorem sc_law_all : FnScope ["_law_wide", "_law_long", "_law_found", "_law_turn", "_law_longer", "_law_row", "_law_top", "_law_one"] ["_law_wide", "_law_long"] (defScope s_law_all) := ⟨rfl, rfl, rfl, by decide +kernel, rfl, by decide +kernel, by decide +kernel⟩
abbrev s_law_holds : Stmt := topS 33
theorem sc_law_holds : FnScope ["_law_wide", "_law_long", "_law_due", "_law_every", "_law_number", "_law_row", "_law_told", "_law_kept"] ["_law_wide", "_law_long"] (defScope s_law_holds) := ⟨rfl, rfl, rfl, by decide +kernel, rfl, by decide +kernel, by decide +kernel⟩
abbrev s_law : Stmt := topS 34
theorem sc_law : FnScope ["_law_script", "_law_k", "_law_cell", "_law_bag_here", "_law_is_last", "_law_turn", "_law_wide"] ["_law_script"] (defScope s_law) := ⟨rfl, rfl, rfl, by decide +kernel, rfl, by decide +kernel, by decide +kernel⟩
structure Txt (K : PySem.W.Frag) (mg : Str → Option Value) where
  f_is_integer : Addr
  fd_is_integer : FuncData
  F_is_integer : Fun K "is_integer" "is_integer" s_is_integer f_is_integer fd_is_integer
  m_is_integer : mg "is_integer" = some (.ref f_is_integer)
  b_is_integer : Binds K fd_is_integer ["value", "least", "most"] []
  f_check_number : Addr
  fd_check_number : FuncData
  F_check_number : Fun K "check_number" "check_number" s_check_number f_check_number fd_check_number
  m_check_number : mg "check_number" = some (.ref f_check_number)
  b_check_number : Binds K fd_check_number ["value", "least", "most"] []
  f_is_page : Addr
  fd_is_page : FuncData
  F_is_page : Fun K "is_page" "is_page" s_is_page f_is_page fd_is_page
  m_is_page : mg "is_page" = some (.ref f_is_page)
  b_is_page : Binds K fd_is_page ["value"] []
  f_is_visits : Addr
  fd_is_visits : FuncData
  F_is_visits : Fun K "is_visits" "is_visits" s_is_visits f_is_visits fd_is_visits
  m_is_visits : mg "is_visits" = some (.ref f_is_visits)
  b_is_visits : Binds K fd_is_visits ["value"] []
  f_check_visits : Addr
  fd_check_visits : FuncData
  F_check_visits : Fun K "check_visits" "check_visits" s_check_visits f_check_visits fd_check_visits
  m_check_visits : mg "check_visits" = some (.ref f_check_visits)
  b_check_visits : Binds K fd_check_visits ["visits"] []
  f_visited : Addr
  fd_visited : FuncData
  F_visited : Fun K "visited" "visited" s_visited f_visited fd_visited
  m_visited : mg "visited" = some (.ref f_visited)
  b_visited : Binds K fd_visited ["trail", "page"] []
  f_is_lengths : Addr
  fd_is_lengths : FuncData
  F_is_lengths : Fun K "is_lengths" "is_lengths" s_is_lengths f_is_lengths fd_is_lengths
  m_is_lengths : mg "is_lengths" = some (.ref f_is_lengths)
  b_is_lengths : Binds K fd_is_lengths ["value"] []
  f_check_lengths : Addr
  fd_check_lengths : FuncData
  F_check_lengths : Fun K "check_lengths" "check_lengths" s_check_lengths f_check_lengths fd_check_lengths
  m_check_lengths : mg "check_lengths" = some (.ref f_check_lengths)
  b_check_lengths : Binds K fd_check_lengths ["value"] []
  f_lengths_in : Addr
  fd_lengths_in : FuncData
  F_lengths_in : Fun K "lengths_in" "lengths_in" s_lengths_in f_lengths_in fd_lengths_in
  m_lengths_in : mg "lengths_in" = some (.ref f_lengths_in)
  b_lengths_in : Binds K fd_lengths_in ["visits"] []
  f_lengths_of : Addr
  fd_lengths_of : FuncData
  F_lengths_of : Fun K "lengths_of" "lengths_of" s_lengths_of f_lengths_of fd_lengths_of
  m_lengths_of : mg "lengths_of" = some (.ref f_lengths_of)
  b_lengths_of : Binds K fd_lengths_of ["visits"] []
  f_continuations : Addr
  fd_continuations : FuncData
  F_continuations : Fun K "continuations" "continuations" s_continuations f_continuations fd_continuations
  m_continuations : mg "continuations" = some (.ref f_continuations)
  b_continuations : Binds K fd_continuations ["many", "times"] []
  f_count_lengths : Addr
  fd_count_lengths : FuncData
  F_count_lengths : Fun K "count_lengths" "count_lengths" s_count_lengths f_count_lengths fd_count_lengths
  m_count_lengths : mg "count_lengths" = some (.ref f_count_lengths)
  b_count_lengths : Binds K fd_count_lengths ["many", "times"] []
  f_nth_lengths : Addr
  fd_nth_lengths : FuncData
  F_nth_lengths : Fun K "nth_lengths" "nth_lengths" s_nth_lengths f_nth_lengths fd_nth_lengths
  m_nth_lengths : mg "nth_lengths" = some (.ref f_nth_lengths)
  b_nth_lengths : Binds K fd_nth_lengths ["many", "times", "index"] []
  f_lengths_rank : Addr
  fd_lengths_rank : FuncData
  F_lengths_rank : Fun K "lengths_rank" "lengths_rank" s_lengths_rank f_lengths_rank fd_lengths_rank
  m_lengths_rank : mg "lengths_rank" = some (.ref f_lengths_rank)
  b_lengths_rank : Binds K fd_lengths_rank ["many", "lengths"] []
  f_law_bag : Addr
  fd_law_bag : FuncData
  F_law_bag : Fun K "_law_bag" "_law_bag" s_law_bag f_law_bag fd_law_bag
  m_law_bag : mg "_law_bag" = some (.ref f_law_bag)
  b_law_bag : Binds K fd_law_bag ["_law_cell"] []
  f_law_draw : Addr
  fd_law_draw : FuncData
  F_law_draw : Fun K "_law_draw" "_law_draw" s_law_draw f_law_draw fd_law_draw
  m_law_draw : mg "_law_draw" = some (.ref f_law_draw)
  b_law_draw : Binds K fd_law_draw ["_law_bag_here", "_law_most"] []
  f_law_equal : Addr
  fd_law_equal : FuncData
  F_law_equal : Fun K "_law_equal" "_law_equal" s_law_equal f_law_equal fd_law_equal
  m_law_equal : mg "_law_equal" = some (.ref f_law_equal)
  b_law_equal : Binds K fd_law_equal ["_law_found", "_law_due"] []
  f_law_lists : Addr
  fd_law_lists : FuncData
  F_law_lists : Fun K "_law_lists" "_law_lists" s_law_lists f_law_lists fd_law_lists
  m_law_lists : mg "_law_lists" = some (.ref f_law_lists)
  b_law_lists : Binds K fd_law_lists ["_law_wide", "_law_long"] []
  f_law_all : Addr
  fd_law_all : FuncData
  F_law_all : Fun K "_law_all" "_law_all" s_law_all f_law_all fd_law_all
  m_law_all : mg "_law_all" = some (.ref f_law_all)
  b_law_all : Binds K fd_law_all ["_law_wide", "_law_long"] []
  f_law_holds : Addr
  fd_law_holds : FuncData
  F_law_holds : Fun K "_law_holds" "_law_holds" s_law_holds f_law_holds fd_law_holds
  m_law_holds : mg "_law_holds" = some (.ref f_law_holds)
  b_law_holds : Binds K fd_law_holds ["_law_wide", "_law_long"] []
  f_law : Addr
  fd_law : FuncData
  F_law : Fun K "law" "law" s_law f_law fd_law
  m_law : mg "law" = some (.ref f_law)
  b_law : Binds K fd_law ["_law_script"] []
  k_count_lengths_0_1_0 : KBinds K fd_count_lengths ["many", "times"] ["times", "many"] (kg .none 0 2 [1, 0]) (kg .non 0 2 [1, 0])
  k_lengths_rank_0_1_0 : KBinds K fd_lengths_rank ["many", "lengths"] ["lengths", "many"] (kg .none 0 2 [1, 0]) (kg .non 0 2 [1, 0])
  k_nth_lengths_0_2_1_0 : KBinds K fd_nth_lengths ["many", "times", "index"] ["index", "times", "many"] (kg .none 0 3 [2, 1, 0]) (kg .non 0 3 [2, 1, 0])
  t_MOST_PAGE : Tok
  c_MOST_PAGE : mg "MOST_PAGE" = some (.int 39 t_MOST_PAGE)
  t_MOST_PAGES : Tok
  c_MOST_PAGES : mg "MOST_PAGES" = some (.int 40 t_MOST_PAGES)
  t_MOST_TIMES : Tok
  c_MOST_TIMES : mg "MOST_TIMES" = some (.int 200 t_MOST_TIMES)
  t_MOST_VISITS_lengths : Tok
  c_MOST_VISITS_lengths : mg "MOST_VISITS_lengths" = some (.int 300 t_MOST_VISITS_lengths)
  t_MOST_VISITS_trails : Tok
  c_MOST_VISITS_trails : mg "MOST_VISITS_trails" = some (.int 300 t_MOST_VISITS_trails)
  n_all : mg "all" = none
  n_bool : mg "bool" = none
  n_enumerate : mg "enumerate" = none
  n_int : mg "int" = none
  n_isinstance : mg "isinstance" = none
  n_len : mg "len" = none
  n_list : mg "list" = none
  n_max : mg "max" = none
  n_min : mg "min" = none
  n_range : mg "range" = none
  n_repr : mg "repr" = none
  n_set : mg "set" = none
  n_sorted : mg "sorted" = none
  n_str : mg "str" = none
  n_sum : mg "sum" = none
  n_tuple : mg "tuple" = none
  n_zip : mg "zip" = none
local macro_rules | `(tactic| walk_at "sx") => `(tactic| try simp only [x_seq, x_next, x_brk, x_cnt, x_nev, x_ret, x_retN, x_drop, x_ifS, x_asg, x_gn, x_gsub, x_par, x_par3, x_aug, x_for, x_lc, x_rng1, x_rng2, x_rng3, x_ilist, x_itup, x_ienum, x_izip, x_izipA, x_istr, x_var, x_c, x_op, x_un, x_test, x_b, x_chain, x_and, x_or, x_not, x_andV, x_orV, x_notV, x_ife, x_nil, x_cons, x_lst, x_tup, x_cb, x_call, x_callK, x_bm, x_bm0, x_tru, x_sl, x_nopart, x_part, x_revL, x_I0, x_I, x_U, x_ip, x_ipC, x_eqI, x_neI, x_eqB, x_neB, x_eqS, x_neS, x_isB, x_isNB, x_lrg, x_rg1, x_rg2,
  L2.start, List.map_cons, List.map_nil, List.length_cons, List.length_nil, Nat.reduceAdd, Nat.reduceSub, Nat.sub_self, Nat.zero_add, List.replicate, List.replicate_succ, List.replicate_zero, List.append_nil, List.cons_append, List.nil_append, List.set_cons_zero, List.set_cons_succ, List.getElem?_cons_zero, List.getElem?_cons_succ, Option.some.injEq, V.int.injEq, V.bl.injEq, V.ref.injEq, V.str.injEq, List.cons.injEq, and_true, true_and, exists_eq_left', exists_eq_left, exists_and_left, exists_eq, if_true, if_false, ite_true, ite_false, Bool.true_eq_false, Bool.false_eq_true, reduceIte, reduceCtorEq, Bool.not_true, Bool.not_false, decide_true, decide_false, decide_eq_true_eq, Bool.and_true, Bool.true_and, Bool.and_self, Bool.and_false, Bool.false_and, Bool.or_self, Bool.or_false, Bool.false_or, Bool.or_true, Bool.true_or, eq_self])

section
variable {P : Program} {w : World} {K : PySem.W.Frag} {mg : Str → Option Value} {base : Heap}
def spIsInt : Sp := fun vs H Q _ => ∃ i lo hi : Int, vs = [.int i, .int lo, .int hi] ∧ Q (.bl (decide (lo ≤ i) && decide (i ≤ hi))) H
theorem ok_is_integer (T : Txt K mg) : FnOk P w K mg base CX0 1 T.f_is_integer T.fd_is_integer ["value", "least", "most"] spIsInt := by
  refine T.F_is_integer.ok sc_is_integer (fun vs H Q E h => ?_) (fun cdv A outer s H vs Q E hr h => ?_)
  · obtain ⟨i, lo, hi, rfl, _⟩ := h
    rfl
  · obtain ⟨i, lo, hi, rfl, k⟩ := h
    apply Exists.intro
    apply And.intro
    · apply pss_one
      exact (ps_ret (pe_and (pe_callB (k_isi (K := K) rfl) (by rfl) T.n_isinstance (by decide +kernel) (pa_cons (pv 0) (pa_cons (pe_bltn (v := .ty "int") (by rfl) T.n_int (by decide +kernel) rfl) pa_nil))) (pe_and (pe_not (pe_callB (k_isi (K := K) rfl) (by rfl) T.n_isinstance (by decide +kernel) (pa_cons (pv 0) (pa_cons (pe_bltn (v := .ty "bool") (by rfl) T.n_bool (by decide +kernel) rfl) pa_nil)))) (pe_one (pe_chain op_le op_le (pv 1) (pv 0) (pv 2))))))
    walk_at "sx"
    refine isi_int (b := true) (by decide +kernel) ?_
    walk_at "sx"
    refine isi_int (b := false) (by decide +kernel) ?_
    walk_at "sx"
    by_cases h1 : lo ≤ i
    · simpa [h1] using k
    · simpa [h1] using k
end
section
variable {P : Program} {w : World} {K : PySem.W.Frag} {mg : Str → Option Value} {base : Heap}
def spChk : Sp := fun vs H Q _ => ∃ i lo hi : Int, vs = [.int i, .int lo, .int hi] ∧ lo ≤ i ∧ i ≤ hi ∧ Q .non H
theorem ok_check_number (T : Txt K mg) : FnOk P w K mg base CX0 2 T.f_check_number T.fd_check_number ["value", "least", "most"] spChk := by
  refine T.F_check_number.ok sc_check_number (fun vs H Q E h => ?_) (fun cdv A outer s H vs Q E hr h => ?_)
  · obtain ⟨i, lo, hi, rfl, _⟩ := h
    rfl
  · obtain ⟨i, lo, hi, rfl, h1, h2, k⟩ := h
    apply Exists.intro
    apply And.intro
    · apply pss_one
      apply ps_if
      · exact (pt_not (pt_val (pe_call (ok_is_integer T) (hr.mono (by decide)) (by rfl) T.m_is_integer T.F_is_integer.kp T.b_is_integer .nil pass0 (pa_cons (pv 0) (pa_cons (pv 1) (pa_cons (pv 2) pa_nil))))))
      · apply pss_one
        exact ps_never
      · exact pss_nil
    walk_at "sx"
    refine ⟨i, lo, hi, rfl, ?_⟩
    simp only [h1, h2]
    walk_at "sx"
    exact k
end
/-! ### trails.py and lengths.py -/
section
variable {P : Program} {w : World} {K : PySem.W.Frag} {mg : Str → Option Value} {base : Heap}
theorem ints_at {ns : List Int} {i : Nat} {v : V} (h : (ns.map V.int)[i]? = some v) : ∃ n, ns[i]? = some n ∧ v = .int n := by
  rw [List.getElem?_map] at h
  cases e : ns[i]? with
  | none => rw [e] at h; cases h
  | some n => rw [e] at h; cases h; exact ⟨n, rfl, rfl⟩
theorem at_ints {ns : List Int} {i : Nat} {n : Int} (h : ns[i]? = some n) : (ns.map V.int)[i]? = some (.int n) := by rw [List.getElem?_map, h]; rfl
def spIsPage : Sp := fun vs H Q _ => ∃ i : Int, vs = [.int i] ∧ Q (.bl (decide (0 ≤ i) && decide (i ≤ 39))) H
theorem ok_is_page (T : Txt K mg) : FnOk P w K mg base CX0 2 T.f_is_page T.fd_is_page ["value"] spIsPage := by
  refine T.F_is_page.ok sc_is_page (fun vs H Q E h => ?_) (fun cdv A outer s H vs Q E hr h => ?_)
  · obtain ⟨i, rfl, _⟩ := h
    rfl
  · obtain ⟨i, rfl, k⟩ := h
    apply Exists.intro
    apply And.intro
    · apply pss_one
      exact (ps_ret (pe_call (ok_is_integer T) (hr.mono (by decide)) (by rfl) T.m_is_integer T.F_is_integer.kp T.b_is_integer .nil pass0 (pa_cons (pv 0) (pa_cons pe_int (pa_cons (pe_glob (v := .int 39) rfl T.c_MOST_PAGE ⟨_, rfl⟩) pa_nil)))))
    walk_at "sx"
    exact ⟨i, 0, 39, rfl, k⟩
def spIsVisits (K : PySem.W.Frag) : Sp := fun vs H Q _ => ∃ (a : Addr) (ns : List Int), vs = [.ref a] ∧ SqL K H a (ns.map V.int) ∧ ns.length ≤ 300 ∧ Pg 40 ns ∧ ∀ H', Ex H H' → Q (.bl true) H'
theorem ok_is_visits (T : Txt K mg) : FnOk P w K mg base CX0 3 T.f_is_visits T.fd_is_visits ["value"] (spIsVisits K) := by
  refine T.F_is_visits.ok sc_is_visits (fun vs H Q E h => ?_) (fun cdv A outer s H vs Q E hr h => ?_)
  · obtain ⟨a, ns, rfl, _⟩ := h
    rfl
  · obtain ⟨a, ns, rfl, hA, hl, hp, k⟩ := h
    apply Exists.intro
    apply And.intro
    · apply pss_one
      exact (ps_ret (pe_and (pe_callB (k_isi (K := K) rfl) (by rfl) T.n_isinstance (by decide +kernel) (pa_cons (pv 0) (pa_cons (pe_bltn (v := .ty "list") (by rfl) T.n_list (by decide +kernel) rfl) pa_nil))) (pe_and (pe_cmpR op_le (pe_callB (k_len (K := K) rfl) (by rfl) T.n_len PySem.boot_len (pa_cons (pv 0) pa_nil)) (pe_glob (v := .int 300) rfl T.c_MOST_VISITS_trails ⟨_, rfl⟩) (by rfl)) (pe_one (pe_callB (k_all (K := K) rfl rfl) (by rfl) T.n_all (by decide +kernel) (pa_cons (pe_lc (own := [("page", 1)]) rfl sc_is_visits.nd (k_pi_list (K := K) rfl (pv 0)) (blkOk_by (own := [("page", 1)]) (N := ["value", "page"]) (sc := defScope s_is_visits) (by decide +kernel)) (fun _ _ _ _ _ => by exact (pg_name (i := 1) sc_is_visits.nd rfl (.inl rfl))) (fun _ _ _ _ _ => by exact pts_nil) (fun _ _ _ _ _ => by exact (pe_call (ok_is_page T) (hr.mono (by decide)) (by rfl) T.m_is_page T.F_is_page.kp T.b_is_page .nil pass0 (pa_cons (pv 1) pa_nil)))) pa_nil))))))
    walk_at "sx"
    refine isi_x (b := true) (tyx_l hA) (by decide +kernel) ?_
    walk_at "sx"
    refine lenL hA ?_
    walk_at "sx"
    rw [List.length_map]
    have e1 : ((ns.length : Nat) : Int) ≤ 300 := by omega
    simp only [e1]
    walk_at "sx"
    refine ⟨⟨_, hA⟩, fun D nD => ?_⟩
    refine lc_list (fun _ => true) (fun _ => V.bl true) hA nD (by rw [List.length_map]; omega) (fun u => rfl) (fun i x _ => tyes) (fun i x hx _ => ?_) (fun H2 e2 hD => ?_)
    · obtain ⟨n, hn, rfl⟩ := ints_at hx
      obtain ⟨n0, n1⟩ := hp.at hn
      refine ev_call (vs := [.int n]) (ea_cons (ev_var rfl) ea_nil) (fun H3 e3 Q3 q3 E3 => ⟨n, rfl, ?_⟩)
      have z1 : n ≤ 39 := by omega
      rw [decide_eq_true n0, decide_eq_true z1]
      exact q3 H3 (Ex.refl _)
    · rw [kept_const] at hD
      have e5 : List.replicate (ns.map V.int).length (V.bl true) = (List.replicate ns.length true).map V.bl := by rw [List.map_replicate, List.length_map]
      rw [e5] at hD
      refine allL (.inl (.inl hD)) ?_
      rw [all_true]
      exact k _ e2
def spCheckVisits (K : PySem.W.Frag) : Sp := fun vs H Q _ => ∃ (a : Addr) (ns : List Int), vs = [.ref a] ∧ SqL K H a (ns.map V.int) ∧ ns.length ≤ 300 ∧ Pg 40 ns ∧ ∀ H', Ex H H' → Q .non H'
theorem ok_check_visits (T : Txt K mg) : FnOk P w K mg base CX0 4 T.f_check_visits T.fd_check_visits ["visits"] (spCheckVisits K) := by
  refine T.F_check_visits.ok sc_check_visits (fun vs H Q E h => ?_) (fun cdv A outer s H vs Q E hr h => ?_)
  · obtain ⟨a, ns, rfl, _⟩ := h
    rfl
  · obtain ⟨a, ns, rfl, hA, hl, hp, k⟩ := h
    apply Exists.intro
    apply And.intro
    · apply pss_one
      apply ps_if
      · exact (pt_not (pt_val (pe_call (ok_is_visits T) (hr.mono (by decide)) (by rfl) T.m_is_visits T.F_is_visits.kp T.b_is_visits .nil pass0 (pa_cons (pv 0) pa_nil))))
      · apply pss_one
        exact ps_never
      · exact pss_nil
    walk_at "sx"
    refine ⟨a, ns, rfl, hA, hl, hp, fun H1 e1 => ?_⟩
    walk_at "sx"
    exact k _ e1
def spVisited (K : PySem.W.Frag) : Sp := fun vs H Q _ => ∃ (a : Addr) (t : List Int) (p : Int), vs = [.ref a, .int p] ∧ H a = some (.lst (t.map V.int)) ∧ t.length ≤ 1000 ∧ ∀ r H', H r = none → Ex H H' → H' r = some (.lst ((vis t p).map V.int)) → Q (.ref r) H'
theorem ok_visited (T : Txt K mg) : FnOk P w K mg base CX0 1 T.f_visited T.fd_visited ["trail", "page"] (spVisited K) := by
  refine T.F_visited.ok sc_visited (fun vs H Q E h => ?_) (fun cdv A outer s H vs Q E hr h => ?_)
  · obtain ⟨a, t, p, rfl, _⟩ := h
    rfl
  · obtain ⟨a, t, p, rfl, hA, hl, k⟩ := h
    apply Exists.intro
    apply And.intro
    · apply pss_one
      exact (ps_ret (pe_ifExp (pt_cmpR (k_in (K := K) rfl) (pv 1) (pv 0) (by rfl)) (pe_slice (k_sl_list (K := K) rfl) (pv 0) po_none (po_some (pe_op op_add (k_bm (K := K) rfl (pe_bm PySem.F.plainAttrs_list PySem.F.slot_list_index PySem.F.type_list_index (k_index (K := K) rfl) (pv 0) (pa_cons (pv 1) pa_nil))) pe_int))) (pe_op op_cat (pv 0) (pe_lst (pa_cons (pv 1) pa_nil)))))
    walk_at "sx"
    refine inL (.inl (.inl hA)) ?_
    walk_at "sx"
    by_cases m : p ∈ t
    · have hi := List.idxOf_lt_length_of_mem m
      simp only [m]
      walk_at "sx"
      refine ⟨tyL hA, ?_⟩
      refine idxL (.inl (.inl hA)) m ?_
      walk_at "sx"
      refine slL (.inl (.inl hA)) fun r nr => ?_
      refine k r _ nr (Ex.new nr) ?_
      rw [upd_same, cut_to (j := t.idxOf p + 1) _ (by omega) (by rw [List.length_map]; omega)]
      unfold vis
      rw [if_pos m, List.map_take]
    · simp only [m]
      walk_at "sx"
      refine ⟨sz_ok (by omega), fun z nz => ?_⟩
      have e1 := Ex.new nz (o := .lst [V.int p])
      refine catL (e1 _ _ hA) upd_same (sz_ok (by rw [List.length_map, List.length_singleton]; omega)) fun r nr => ?_
      refine k r _ (fresh_back e1 nr) (e1.trans (Ex.new nr)) ?_
      rw [upd_same]
      unfold vis
      rw [if_neg m, List.map_append]
      rfl
def spLensIn (K : PySem.W.Frag) : Sp := fun vs H Q _ => ∃ (a : Addr) (ns : List Int), vs = [.ref a] ∧ SqL K H a (ns.map V.int) ∧ ns.length ≤ 300 ∧ ∀ r H', H r = none → Ex H H' → H' r = some (.lst ((lens ns).map V.int)) → Q (.ref r) H'
theorem trl_le : ∀ (ns : List Int) (t : List Int), (ns.foldl vis t).length ≤ t.length + ns.length
  | [], t => Nat.le_refl _
  | p :: ns, t => by
    have a := trl_le ns (vis t p)
    have b := vis_le t p
    show (ns.foldl vis (vis t p)).length ≤ _
    rw [List.length_cons]
    omega
def JI (H : Hp) (a : Addr) (ns : List Int) (i : Nat) (σ' : L2.St) (H' : Hp) : Prop := ∃ l1 t q, σ' = [some (.ref a), l1, some (.ref t), some (.ref q)] ∧ H q = none ∧ t ≠ q ∧ Ex H H' ∧ H' t = some (.lst ((trl (ns.take i)).map V.int)) ∧ H' q = some (.lst (((lens ns).map V.int).take i))
theorem ok_lengths_in (T : Txt K mg) : FnOk P w K mg base CX0 2 T.f_lengths_in T.fd_lengths_in ["visits"] (spLensIn K) := by
  refine T.F_lengths_in.ok sc_lengths_in (fun vs H Q E h => ?_) (fun cdv A outer s H vs Q E hr h => ?_)
  · obtain ⟨a, ns, rfl, _⟩ := h
    rfl
  · obtain ⟨a, ns, rfl, hA, hl, k⟩ := h
    apply Exists.intro
    apply And.intro
    · apply pss_cons
      · exact (ps_par (i := 2) (j := 3) (by rfl) sc_lengths_in.nd rfl rfl (by decide) rfl rfl (pa_cons (pe_lst pa_nil) (pa_cons (pe_lst pa_nil) pa_nil)) (by rfl))
      apply pss_cons
      · apply ps_for PassesOwn.never rfl
        · exact (k_pi_list (K := K) rfl (pv 0))
        · exact (pg_name (i := 1) sc_lengths_in.nd rfl (.inl rfl))
        · apply pss_cons
          · exact (ps_set (i := 2) sc_lengths_in.nd rfl (.inl rfl) (pe_call (ok_visited T) (hr.mono (by decide)) (by rfl) T.m_visited T.F_visited.kp T.b_visited .nil pass0 (pa_cons (pv 2) (pa_cons (pv 1) pa_nil))))
          apply pss_one
          exact (ps_expr (k_bm (K := K) rfl (pe_bm PySem.F.plainAttrs_list PySem.F.slot_list_append PySem.F.type_list_append mt_append (pv 3) (pa_cons (pe_callB (k_len (K := K) rfl) (by rfl) T.n_len PySem.boot_len (pa_cons (pv 2) pa_nil)) pa_nil))))
      apply pss_one
      exact (ps_ret (pv 3))
    walk_at "sx"
    refine ⟨sz_ok (by omega), fun t nt => ⟨sz_ok (by omega), fun q nq => ?_⟩⟩
    refine ⟨_, _, ⟨rfl, rfl⟩, ?_⟩
    have e1 := Ex.new nt (o := .lst [])
    have e2 := e1.trans (Ex.new nq (o := .lst []))
    have ntq : t ≠ q := ne_of_none upd_same nq
    refine ⟨⟨_, ex_l e2 hA⟩, ?_⟩
    refine lg_list (xs := ns.map V.int) (JI H a ns) ⟨none, t, q, rfl, fresh_back e1 nq, ntq, e2, by rw [upd_ne ntq, upd_same]; rfl, by rw [upd_same]; rfl⟩ (fun i σ' H' _ hP => by obtain ⟨_, _, _, _, _, _, e, _⟩ := hP; exact ex_l e hA)
      (fun i x σ' H' hx hP => ?_) (fun σ' H' hP => ?_)
    · obtain ⟨l1, t, q, rfl, nq, tq, e, ht, hq⟩ := hP
      obtain ⟨n, hn, rfl⟩ := ints_at hx
      have hi : i < ns.length := by
        rw [List.getElem?_eq_some_iff] at hn
        exact hn.1
      have ht1 : (trl (ns.take i)).length ≤ 300 := by
        have := trl_le (ns.take i) []
        rw [List.length_take] at this
        show ((ns.take i).foldl vis []).length ≤ 300
        simp only [List.length_nil] at this
        omega
      walk_at "sx"
      refine ⟨t, _, n, rfl, ht, by omega, fun r H1 nr e3 hr => ?_⟩
      have hq1 := e3 _ _ hq
      walk_at "sx"
      refine ⟨tyL hq1, ?_⟩
      refine lenL (.inl (.inl hr)) ?_
      refine appL hq1 (BC.sz_lt (by rw [List.length_take]; omega)) ?_
      rw [← trl_snoc hn, List.length_map]
      have hrq : r ≠ q := fun z => by
        subst z
        rw [hq] at nr
        cases nr
      refine ⟨_, r, q, rfl, nq, hrq, (e.trans e3).mut nq, by rw [upd_ne hrq, hr, ← trl_snoc hn], ?_⟩
      rw [upd_same, take_succ (at_ints (lens_at hi))]
    · obtain ⟨l1, t, q, rfl, nq, tq, e, ht, hq⟩ := hP
      walk_at "sx"
      refine k q _ nq e ?_
      rw [hq, List.take_of_length_le (by rw [List.length_map, List.length_map, lens_len]; omega)]
def spLensOf (K : PySem.W.Frag) : Sp := fun vs H Q _ => ∃ (a : Addr) (ns : List Int), vs = [.ref a] ∧ SqL K H a (ns.map V.int) ∧ ns.length ≤ 300 ∧ Pg 40 ns ∧ ∀ r H', H r = none → Ex H H' → H' r = some (.lst ((lens ns).map V.int)) → Q (.ref r) H'
theorem ok_lengths_of (T : Txt K mg) : FnOk P w K mg base CX0 5 T.f_lengths_of T.fd_lengths_of ["visits"] (spLensOf K) := by
  refine T.F_lengths_of.ok sc_lengths_of (fun vs H Q E h => ?_) (fun cdv A outer s H vs Q E hr h => ?_)
  · obtain ⟨a, ns, rfl, _⟩ := h
    rfl
  · obtain ⟨a, ns, rfl, hA, hl, hp, k⟩ := h
    apply Exists.intro
    apply And.intro
    · apply pss_cons
      · exact (ps_expr (pe_call (ok_check_visits T) (hr.mono (by decide)) (by rfl) T.m_check_visits T.F_check_visits.kp T.b_check_visits .nil pass0 (pa_cons (pv 0) pa_nil)))
      apply pss_one
      exact (ps_ret (pe_call (ok_lengths_in T) (hr.mono (by decide)) (by rfl) T.m_lengths_in T.F_lengths_in.kp T.b_lengths_in .nil pass0 (pa_cons (pv 0) pa_nil)))
    walk_at "sx"
    refine ⟨a, ns, rfl, hA, hl, hp, fun H1 e1 => ?_⟩
    walk_at "sx"
    refine ⟨a, ns, rfl, ex_l e1 hA, hl, fun r H2 nr e2 hr => ?_⟩
    exact k r _ (fresh_back e1 nr) (e1.trans e2) hr
end
/-! ### lengths.py: numbers of lists of lengths -/
section
variable {P : Program} {w : World} {K : PySem.W.Frag} {mg : Str → Option Value} {base : Heap}
def prv (p : Nat) (L : List Nat) (i : Nat) : Nat := if i = 0 then p else L.getD (i - 1) 0
theorem prv_succ {p i x : Nat} {L : List Nat} (h : L[i]? = some x) : prv p L (i + 1) = x := by
  unfold prv
  rw [if_neg (by omega), Nat.add_sub_cancel, List.getD_eq_getElem?_getD, h]
  rfl
theorem ok_step {m : Nat} : ∀ {p : Nat} {L : List Nat} {i x : Nat}, Ok m p L → L[i]? = some x → 1 ≤ x ∧ x ≤ min (prv p L i + 1) m
  | _, [], _, _, _, h => by simp at h
  | p, y :: L, 0, x, ⟨h1, h2, h3⟩, h => by
    simp at h
    subst h
    exact ⟨h1, h2⟩
  | p, y :: L, i + 1, x, ⟨h1, h2, h3⟩, h => by
    have h' : L[i]? = some x := by simpa using h
    have ih := ok_step (p := y) (L := L) h3 h'
    have e : prv p (y :: L) (i + 1) = prv y L i := by
      unfold prv
      rw [if_neg (by omega), Nat.add_sub_cancel]
      cases i with
      | zero => rfl
      | succ i => rw [if_neg (by omega)]; rfl
    rw [e]
    exact ih
end
/-! ### lengths.py: numbers of lists of lengths -/
section
variable {P : Program} {w : World} {K : PySem.W.Frag} {mg : Str → Option Value} {base : Heap}
def spOkLens (K : PySem.W.Frag) : Sp := fun vs H Q _ => ∃ (a : Addr) (m : Nat) (L : List Nat), vs = [.ref a] ∧ SqL K H a ((nz L).map V.int) ∧ L.length ≤ 300 ∧ m ≤ 40 ∧ Ok m 0 L ∧ Q (.bl true) H
def JL (H : Hp) (a : Addr) (L : List Nat) (i : Nat) (σ' : L2.St) (H' : Hp) : Prop := ∃ l2, σ' = [some (.ref a), some (.int (prv 0 L i : Nat)), l2] ∧ H' = H
theorem ok_is_lengths (T : Txt K mg) : FnOk P w K mg base CX0 2 T.f_is_lengths T.fd_is_lengths ["value"] (spOkLens K) := by
  refine T.F_is_lengths.ok sc_is_lengths (fun vs H Q E h => ?_) (fun cdv A outer s H vs Q E hr h => ?_)
  · obtain ⟨a, m, L, rfl, _⟩ := h
    rfl
  · obtain ⟨a, m, L, rfl, hA, hl, hm, hp, k⟩ := h
    apply Exists.intro
    apply And.intro
    · apply pss_cons
      · apply ps_if
        · exact (PW.pt (pw_or (pt_not (pt_val (pe_callB (k_isi (K := K) rfl) (by rfl) T.n_isinstance (by decide +kernel) (pa_cons (pv 0) (pa_cons (pe_bltn (v := .ty "list") (by rfl) T.n_list (by decide +kernel) rfl) pa_nil))))) (pw_or1 (pt_cmpR op_gt (pe_callB (k_len (K := K) rfl) (by rfl) T.n_len PySem.boot_len (pa_cons (pv 0) pa_nil)) (pe_glob (v := .int 300) rfl T.c_MOST_VISITS_lengths ⟨_, rfl⟩) (by rfl)))))
        · apply pss_one
          exact (ps_ret pe_bl)
        · exact pss_nil
      apply pss_cons
      · exact (ps_set (i := 1) sc_is_lengths.nd rfl (.inl rfl) pe_int)
      apply pss_cons
      · apply ps_for PassesOwn.never rfl
        · exact (k_pi_list (K := K) rfl (pv 0))
        · exact (pg_name (i := 2) sc_is_lengths.nd rfl (.inl rfl))
        · apply pss_cons
          · apply ps_if
            · exact (pt_not (pt_val (pe_call (ok_is_integer T) (hr.mono (by decide)) (by rfl) T.m_is_integer T.F_is_integer.kp T.b_is_integer .nil pass0 (pa_cons (pv 2) (pa_cons pe_int (pa_cons (pe_callB (call_min2 rfl) (by rfl) T.n_min (by decide +kernel) (pa_cons (pe_glob (v := .int 40) rfl T.c_MOST_PAGES ⟨_, rfl⟩) (pa_cons (pe_op op_add (pv 1) pe_int) pa_nil))) pa_nil))))))
            · apply pss_one
              exact (ps_ret pe_bl)
            · exact pss_nil
          apply pss_one
          exact (ps_set (i := 1) sc_is_lengths.nd rfl (.inl rfl) (pv 2))
      apply pss_one
      exact (ps_ret pe_bl)
    walk_at "sx"
    refine isi_x (b := true) (tyx_l hA) (by decide +kernel) ?_
    walk_at "sx"
    refine lenL hA ?_
    walk_at "sx"
    rw [List.length_map, nz_len]
    have e1 : ¬ ((L.length : Nat) : Int) > 300 := by omega
    simp only [e1]
    walk_at "sx"
    refine ⟨⟨_, hA⟩, ?_⟩
    refine lg_list (xs := (nz L).map V.int) (JL H a L) ⟨none, rfl, rfl⟩ (fun i σ' H' _ hP => by obtain ⟨_, _, rfl⟩ := hP; exact hA)
      (fun i x σ' H' hx hP => ?_) (fun σ' H' hP => ?_)
    · obtain ⟨l2, rfl, rfl⟩ := hP
      obtain ⟨x, hx', rfl⟩ := at_nz hx
      walk_at "sx"
      refine ⟨_, _, ⟨rfl, rfl⟩, ?_⟩
      obtain ⟨v1, v2⟩ := ok_step hp hx'
      refine ⟨_, _, _, rfl, ?_⟩
      have z1 : (1 : Int) ≤ (x : Int) := by omega
      have z2 : (x : Int) ≤ (if ((prv 0 L i : Nat) : Int) + 1 < 40 then ((prv 0 L i : Nat) : Int) + 1 else 40) := by
        split <;> omega
      rw [decide_eq_true z1, decide_eq_true z2]
      walk_at "sx"
      exact ⟨_, by rw [prv_succ hx'], rfl⟩
    · obtain ⟨l2, rfl, rfl⟩ := hP
      walk_at "sx"
      exact k
def spChkLens (K : PySem.W.Frag) : Sp := fun vs H Q _ => ∃ (a : Addr) (m : Nat) (L : List Nat), vs = [.ref a] ∧ SqL K H a ((nz L).map V.int) ∧ L.length ≤ 300 ∧ m ≤ 40 ∧ Ok m 0 L ∧ Q .non H
theorem ok_check_lengths (T : Txt K mg) : FnOk P w K mg base CX0 3 T.f_check_lengths T.fd_check_lengths ["value"] (spChkLens K) := by
  refine T.F_check_lengths.ok sc_check_lengths (fun vs H Q E h => ?_) (fun cdv A outer s H vs Q E hr h => ?_)
  · obtain ⟨a, m, L, rfl, _⟩ := h
    rfl
  · obtain ⟨a, m, L, rfl, hA, hl, hm, hp, k⟩ := h
    apply Exists.intro
    apply And.intro
    · apply pss_one
      apply ps_if
      · exact (pt_not (pt_val (pe_call (ok_is_lengths T) (hr.mono (by decide)) (by rfl) T.m_is_lengths T.F_is_lengths.kp T.b_is_lengths .nil pass0 (pa_cons (pv 0) pa_nil))))
      · apply pss_one
        exact ps_never
      · exact pss_nil
    walk_at "sx"
    refine ⟨a, m, L, rfl, hA, hl, hm, hp, ?_⟩
    walk_at "sx"
    exact k
end
/-! ### lengths.py: numbers of lists of lengths -/
section
variable {P : Program} {w : World} {K : PySem.W.Frag} {mg : Str → Option Value} {base : Heap}
/-- the table of ways lies there -/
def Tab (H : Hp) (r : Addr) (m n : Nat) : Prop := ∃ ps : List Addr, H r = some (.lst (ps.map V.ref)) ∧ ps.length = n + 1 ∧ ∀ t p, ps[t]? = some p → H p = some (.lst ((wrow m t).map V.int))
theorem Tab.ex {H H' : Hp} {r : Addr} {m n : Nat} (h : Tab H r m n) (e : Ex H H') : Tab H' r m n := by
  obtain ⟨ps, h1, h2, h3⟩ := h
  exact ⟨ps, e _ _ h1, h2, fun t p q => e _ _ (h3 t p q)⟩
theorem Tab.get {H : Hp} {r : Addr} {m n : Nat} (h : Tab H r m n) {t : Nat} (ht : t ≤ n) : ∃ p xs, H r = some (.lst xs) ∧ xs[t]? = some (.ref p) ∧ H p = some (.lst ((wrow m t).map V.int)) ∧ xs.length = n + 1 := by
  obtain ⟨ps, h1, h2, h3⟩ := h
  have e : ps[t]? = some ps[t] := List.getElem?_eq_getElem (by omega)
  exact ⟨ps[t], _, h1, by rw [List.getElem?_map, e]; rfl, h3 _ _ e, by rw [List.length_map, h2]⟩
theorem wr_at {m t l : Nat} (h : l ≤ m) : ((wrow m t).map V.int)[l]? = some (.int (W m t l)) := by
  rw [List.getElem?_map, wrow_at h]; rfl
/-- a new row is added -/
theorem Tab.push {H : Hp} {r p : Addr} {m n : Nat} {ps : List Addr} (h1 : H r = some (.lst (ps.map V.ref))) (h2 : ps.length = n + 1) (h3 : ∀ t p, ps[t]? = some p → p ≠ r ∧ H p = some (.lst ((wrow m t).map V.int))) (np : p ≠ r) (hp : H p = some (.lst ((wrow m (n + 1)).map V.int))) :
    (∀ t q, (ps ++ [p])[t]? = some q → q ≠ r ∧ upd H r (.lst ((ps ++ [p]).map V.ref)) q = some (.lst ((wrow m t).map V.int))) := fun t q e => by
  by_cases c : t < ps.length
  · rw [List.getElem?_append_left c] at e
    obtain ⟨a, b⟩ := h3 t q e
    exact ⟨a, by rw [upd_ne a]; exact b⟩
  · rw [List.getElem?_append_right (by omega)] at e
    have : t = n + 1 := by
      have := (List.getElem?_eq_some_iff.mp e).1
      simp at this
      omega
    subst this
    rw [h2, Nat.sub_self] at e
    simp at e
    subst e
    exact ⟨np, by rw [upd_ne np]; exact hp⟩
theorem atI_last {xs : List V} {v : V} (h : xs[xs.length - 1]? = some v) : atI xs (-1) = some v := by
  have hl : xs.length - 1 < xs.length := (List.getElem?_eq_some_iff.mp h).1
  have e : ixN xs.length (-1) = some (xs.length - 1) := by
    unfold ixN
    rw [if_neg (by omega), if_pos (by omega)]
    congr 1
    omega
  unfold atI
  rw [e]
  exact h
def spCont : Sp := fun vs H Q _ => ∃ m n : Nat, vs = [.int m, .int n] ∧ 1 ≤ m ∧ m ≤ 40 ∧ n ≤ 200 ∧ ∀ r H', H r = none → Ex H H' → Tab H' r m n → Q (.ref r) H'
def JC (H : Hp) (m n : Nat) (i : Nat) (σ' : L2.St) (H' : Hp) : Prop := ∃ r l3 l4 l5 l6 l7 ps, σ' = [some (.int m), some (.int n), some (.ref r), l3, l4, l5, l6, l7] ∧ H r = none ∧ Ex H H' ∧ H' r = some (.lst ((ps : List Addr).map V.ref)) ∧ ps.length = i + 1 ∧
  ∀ t p, ps[t]? = some p → p ≠ r ∧ H' p = some (.lst ((wrow m t).map V.int))
def JC2 (H : Hp) (m n i : Nat) (r p q : Addr) (j : Nat) (σ' : L2.St) (H' : Hp) : Prop := ∃ l4, σ' = [some (.int m), some (.int n), some (.ref r), some (.int i), l4, some (.ref p), some (.ref q), some (.int (S m i (min j m)))] ∧ Ex H H' ∧ H' q = some (.lst (((wrow m (i + 1)).map V.int).take j))
theorem ok_continuations (T : Txt K mg) : FnOk P w K mg base CX0 1 T.f_continuations T.fd_continuations ["many", "times"] spCont := by
  refine T.F_continuations.ok sc_continuations (fun vs H Q E h => ?_) (fun cdv A outer s H vs Q E hr h => ?_)
  · obtain ⟨m, n, rfl, _⟩ := h
    rfl
  · obtain ⟨m, n, rfl, h1, h2, h3, k⟩ := h
    apply Exists.intro
    apply And.intro
    · apply pss_cons
      · exact (ps_set (i := 2) sc_continuations.nd rfl (.inl rfl) (pe_lst (pa_cons (pe_op op_rep (pe_lst (pa_cons pe_int pa_nil)) (pe_op op_add (pv 0) pe_int)) pa_nil)))
      apply pss_cons
      · apply ps_for PassesOwn.never rfl
        · exact (pi_range1 (by rfl) T.n_range (pa_cons (pv 1) pa_nil))
        · exact (pg_name (i := 3) sc_continuations.nd rfl (.inl rfl))
        · apply pss_cons
          · exact (ps_par3 (i := 5) (j := 6) (l := 7) (by rfl) sc_continuations.nd rfl rfl rfl (by decide) (by decide) (by decide) rfl rfl rfl (pa_cons (pe_ix (k_ix_list (K := K) rfl) (pv 2) (pe_un un_neg pe_int) (fun _ _ => rfl)) (pa_cons (pe_lst pa_nil) (pa_cons pe_int pa_nil))) (by rfl))
          apply pss_cons
          · apply ps_for PassesOwn.never rfl
            · exact (pi_range1 (by rfl) T.n_range (pa_cons (pe_op op_add (pv 0) pe_int) pa_nil))
            · exact (pg_name (i := 4) sc_continuations.nd rfl (.inl rfl))
            · apply pss_cons
              · apply ps_if
                · exact (pt_cmpR op_lt (pv 4) (pv 0) (by rfl))
                · apply pss_one
                  exact (ps_aug (i := 7) sc_continuations.nd rfl (.inl rfl) (pe_ix (k_ix_list (K := K) rfl) (pv 5) (pe_op op_add (pv 4) pe_int) (fun _ _ => rfl)) ip_add)
                · exact pss_nil
              apply pss_one
              exact (ps_expr (k_bm (K := K) rfl (pe_bm PySem.F.plainAttrs_list PySem.F.slot_list_append PySem.F.type_list_append mt_append (pv 6) (pa_cons (pv 7) pa_nil))))
          apply pss_one
          exact (ps_expr (k_bm (K := K) rfl (pe_bm PySem.F.plainAttrs_list PySem.F.slot_list_append PySem.F.type_list_append mt_append (pv 2) (pa_cons (pv 6) pa_nil))))
      apply pss_one
      exact (ps_ret (pv 2))
    walk_at "sx"
    refine ⟨sz_ok (by omega), fun z nz => ?_⟩
    have e1 := Ex.new nz (o := .lst [V.int 1])
    refine repL upd_same (by omega) (by omega) (sz_ok (by simp; omega)) fun p np => ?_
    have e2 := e1.trans (Ex.new np (o := .lst (List.replicate ((m : Int) + 1).toNat [V.int 1]).flatten))
    refine ⟨sz_ok (by omega), fun r nr => ?_⟩
    have e3 := e2.trans (Ex.new nr (o := .lst [V.ref p]))
    have npr : p ≠ r := ne_of_none upd_same nr
    walk_at "sx"
    refine ⟨by omega, by omega, ?_⟩
    rw [Int.toNat_natCast]
    refine lg_rng (JC H m n) ⟨r, none, none, none, none, none, [p], rfl, fresh_back e2 nr, e3, upd_same, rfl, fun t q e => ?_⟩ (fun i σ' H' hi hP => ?_) (fun σ' H' hP => ?_)
    · have : t = 0 := by
        have := (List.getElem?_eq_some_iff.mp e).1
        simp at this
        omega
      subst this
      cases e
      refine ⟨npr, ?_⟩
      rw [upd_ne npr, upd_same, rep_one, wrow_zero, List.map_replicate]
      congr 3
    · obtain ⟨r, l3, l4, l5, l6, l7, ps, rfl, nr, eH, hr, hps, hrow⟩ := hP
      have hlast : ps[i]? = some ps[i] := List.getElem?_eq_getElem (by omega)
      obtain ⟨nb, hb⟩ := hrow _ _ hlast
      generalize ps[i] = b at hlast nb hb
      walk_at "sx"
      rw [show (0 : Int) + i = (i : Int) by omega]
      refine ixL (.inl (.inl hr)) (show atI (ps.map V.ref) (-1) = some (.ref b) from ?_) ?_
      · exact atI_last (by rw [List.length_map, hps, Nat.add_sub_cancel, List.getElem?_map, hlast]; rfl)
      refine ⟨sz_ok (by omega), fun q nq => ⟨_, _, _, ⟨rfl, rfl, rfl⟩, by omega, by omega, ?_⟩⟩
      have en : ((m : Int) + 1).toNat = m + 1 := by omega
      rw [en]
      have e1 := Ex.new nq (o := .lst [])
      have nqr : q ≠ r := Ne.symm (ne_of_none hr nq)
      refine lg_rng (JC2 H' m n i r b q) ⟨l4, by rw [Nat.zero_min, S_zero], e1, by rw [upd_same]; rfl⟩ (fun j σ2 H2 hj hP => ?_) (fun σ2 H2 hP => ?_)
      · obtain ⟨m4, rfl, e2, hq⟩ := hP
        have hb2 := e2 _ _ hb
        walk_at "sx"
        rw [show (0 : Int) + j = (j : Int) by omega]
        have hlen : (((wrow m (i + 1)).map V.int).take j).length = j := by
          rw [List.length_take, List.length_map, wrow_len]
          omega
        have hnext : ∀ v : Int, v = W m (i + 1) j → ((wrow m (i + 1)).map V.int).take j ++ [V.int v] = ((wrow m (i + 1)).map V.int).take (j + 1) := fun v e => by
          rw [e, take_succ (wr_at (by omega))]
        by_cases c : (j : Int) < (m : Int)
        · simp only [c]
          walk_at "sx"
          refine ixL (.inl (.inl hb2)) (atI_n (j := j + 1) (by omega) (wr_at (by omega))) ?_
          walk_at "sx"
          refine ⟨tyL hq, ?_⟩
          refine appL hq (BC.sz_lt (by rw [hlen]; omega)) ?_
          have es : S m i (min j m) + W m i (j + 1) = S m i (min (j + 1) m) := by
            rw [Nat.min_eq_left (by omega), Nat.min_eq_left (by omega), S_succ]
          rw [hnext _ (by rw [es, W_succ]), es]
          exact ⟨_, rfl, e2.mut nq, upd_same⟩
        · simp only [c]
          walk_at "sx"
          refine ⟨tyL hq, ?_⟩
          refine appL hq (BC.sz_lt (by rw [hlen]; omega)) ?_
          have es : S m i (min j m) = S m i (min (j + 1) m) := by
            rw [Nat.min_eq_right (by omega), Nat.min_eq_right (by omega)]
          rw [hnext _ (by rw [es, W_succ]), es]
          exact ⟨_, rfl, e2.mut nq, upd_same⟩
      · obtain ⟨m4, rfl, e2, hq⟩ := hP
        have hr2 := e2 _ _ hr
        walk_at "sx"
        rw [List.take_of_length_le (by rw [List.length_map, wrow_len]; omega)] at hq
        refine ⟨tyL hr2, ?_⟩
        refine appL hr2 (BC.sz_lt (by rw [List.length_map]; omega)) ?_
        have er : ps.map V.ref ++ [V.ref q] = (ps ++ [q]).map V.ref := by rw [List.map_append]; rfl
        rw [er]
        refine ⟨r, _, _, _, _, _, ps ++ [q], rfl, nr, (eH.trans e2).mut nr, upd_same, by rw [List.length_append, List.length_singleton, hps], ?_⟩
        exact Tab.push hr2 hps (fun t p e => ⟨(hrow t p e).1, e2 _ _ (hrow t p e).2⟩) nqr hq
    · obtain ⟨r, l3, l4, l5, l6, l7, ps, rfl, nr, eH, hr, hps, hrow⟩ := hP
      walk_at "sx"
      exact k r _ nr eH ⟨ps, hr, hps, fun t p q => (hrow t p q).2⟩
def spCount : Sp := fun vs H Q _ => ∃ m n : Nat, vs = [.int m, .int n] ∧ 1 ≤ m ∧ m ≤ 40 ∧ n ≤ 200 ∧ ∀ H', Ex H H' → Q (.int (W m n 0)) H'
theorem ok_count_lengths (T : Txt K mg) : FnOk P w K mg base CX0 3 T.f_count_lengths T.fd_count_lengths ["many", "times"] spCount := by
  refine T.F_count_lengths.ok sc_count_lengths (fun vs H Q E h => ?_) (fun cdv A outer s H vs Q E hr h => ?_)
  · obtain ⟨m, n, rfl, _⟩ := h
    rfl
  · obtain ⟨m, n, rfl, h1, h2, h3, k⟩ := h
    apply Exists.intro
    apply And.intro
    · apply pss_cons
      · exact (ps_expr (pe_call (ok_check_number T) (hr.mono (by decide)) (by rfl) T.m_check_number T.F_check_number.kp T.b_check_number .nil pass0 (pa_cons (pv 0) (pa_cons pe_int (pa_cons (pe_glob (v := .int 40) rfl T.c_MOST_PAGES ⟨_, rfl⟩) pa_nil)))))
      apply pss_cons
      · exact (ps_expr (pe_call (ok_check_number T) (hr.mono (by decide)) (by rfl) T.m_check_number T.F_check_number.kp T.b_check_number .nil pass0 (pa_cons (pv 1) (pa_cons pe_int (pa_cons (pe_glob (v := .int 200) rfl T.c_MOST_TIMES ⟨_, rfl⟩) pa_nil)))))
      apply pss_one
      exact (ps_ret (pe_ix (k_ix_list (K := K) rfl) (pe_ix (k_ix_list (K := K) rfl) (pe_call (ok_continuations T) (hr.mono (by decide)) (by rfl) T.m_continuations T.F_continuations.kp T.b_continuations .nil pass0 (pa_cons (pv 0) (pa_cons (pv 1) pa_nil))) (pv 1) (fun _ _ => rfl)) pe_int (fun _ _ => rfl)))
    walk_at "sx"
    refine ⟨m, 1, 40, rfl, by omega, by omega, ?_⟩
    refine ⟨n, 0, 200, rfl, by omega, by omega, ?_⟩
    walk_at "sx"
    refine ⟨m, n, rfl, h1, h2, h3, fun r H1 nr e1 hT => ?_⟩
    obtain ⟨p, xs, g1, g2, g3, _⟩ := hT.get (Nat.le_refl n)
    refine ixL (.inl (.inl g1)) (atI_n rfl g2) ?_
    walk_at "sx"
    refine ixL (.inl (.inl g3)) (atI_n (j := 0) rfl (wr_at (by omega))) ?_
    exact k _ e1
def spNth : Sp := fun vs H Q _ => ∃ (m n : Nat) (L : List Nat), vs = [.int m, .int n, .int (rank m L)] ∧ 1 ≤ m ∧ m ≤ 40 ∧ n ≤ 200 ∧ Ok m 0 L ∧ L.length = n ∧ ∀ r H', H r = none → Ex H H' → H' r = some (.lst ((nz L).map V.int)) → Q (.ref r) H'
def JN (H1 : Hp) (m n : Nat) (L : List Nat) (wy f : Addr) (i : Nat) (σ' : L2.St) (H' : Hp) : Prop := ∃ l3 l7, σ' = [some (.int m), some (.int n), some (.int (rank m L)), l3, some (.ref wy), some (.int (rank m (L.drop i))), some (.ref f), l7] ∧ Ex H1 H' ∧ H' f = some (.lst (((nz L).map V.int).take i))
def JN2 (H2 : Hp) (m n : Nat) (L : List Nat) (wy f : Addr) (i x : Nat) (k : Nat) (σ' : L2.St) (H' : Hp) : Prop := ∃ j, j + k = x ∧ 1 ≤ j ∧ σ' = [some (.int m), some (.int n), some (.int (rank m L)), some (.int ((n - 1 - i : Nat) : Int)), some (.ref wy), some (.int (rank m (L.drop i) - S m (n - 1 - i) (j - 1))), some (.ref f), some (.int j)] ∧ Ex H2 H'
theorem ok_nth_lengths (T : Txt K mg) : FnOk P w K mg base CX0 4 T.f_nth_lengths T.fd_nth_lengths ["many", "times", "index"] spNth := by
  refine T.F_nth_lengths.ok sc_nth_lengths (fun vs H Q E h => ?_) (fun cdv A outer s H vs Q E hr h => ?_)
  · obtain ⟨m, n, L, rfl, _⟩ := h
    rfl
  · obtain ⟨m, n, L, rfl, h1, h2, h3, hL, hn, k⟩ := h
    apply Exists.intro
    apply And.intro
    · apply pss_cons
      · exact (ps_expr (pe_call (ok_check_number T) (hr.mono (by decide)) (by rfl) T.m_check_number T.F_check_number.kp T.b_check_number .nil pass0 (pa_cons (pv 2) (pa_cons pe_int (pa_cons (pe_op op_sub (pe_call (ok_count_lengths T) (hr.mono (by decide)) (by rfl) T.m_count_lengths T.F_count_lengths.kp T.b_count_lengths .nil pass0 (pa_cons (pv 0) (pa_cons (pv 1) pa_nil))) pe_int) pa_nil)))))
      apply pss_cons
      · exact (ps_par3 (i := 4) (j := 5) (l := 6) (by rfl) sc_nth_lengths.nd rfl rfl rfl (by decide) (by decide) (by decide) rfl rfl rfl (pa_cons (pe_call (ok_continuations T) (hr.mono (by decide)) (by rfl) T.m_continuations T.F_continuations.kp T.b_continuations .nil pass0 (pa_cons (pv 0) (pa_cons (pv 1) pa_nil))) (pa_cons (pv 2) (pa_cons (pe_lst pa_nil) pa_nil))) (by rfl))
      apply pss_cons
      · apply ps_for PassesOwn.never rfl
        · exact (pi_range3 (by rfl) T.n_range (pa_cons (pe_op op_sub (pv 1) pe_int) (pa_cons (pe_un un_neg pe_int) (pa_cons (pe_un un_neg pe_int) pa_nil))))
        · exact (pg_name (i := 3) sc_nth_lengths.nd rfl (.inl rfl))
        · apply pss_cons
          · exact (ps_set (i := 7) sc_nth_lengths.nd rfl (.inl rfl) pe_int)
          apply pss_cons
          · apply ps_while PassesOwn.never
            · exact (pt_cmpR op_ge (pv 5) (pe_ix (k_ix_list (K := K) rfl) (pe_ix (k_ix_list (K := K) rfl) (pv 4) (pv 3) (fun _ _ => rfl)) (pv 7) (fun _ _ => rfl)) (by rfl))
            · apply pss_cons
              · exact (ps_aug (i := 5) sc_nth_lengths.nd rfl (.inl rfl) (pe_ix (k_ix_list (K := K) rfl) (pe_ix (k_ix_list (K := K) rfl) (pv 4) (pv 3) (fun _ _ => rfl)) (pv 7) (fun _ _ => rfl)) ip_sub)
              apply pss_one
              exact (ps_aug (i := 7) sc_nth_lengths.nd rfl (.inl rfl) pe_int ip_add)
          apply pss_one
          exact (ps_expr (k_bm (K := K) rfl (pe_bm PySem.F.plainAttrs_list PySem.F.slot_list_append PySem.F.type_list_append mt_append (pv 6) (pa_cons (pv 7) pa_nil))))
      apply pss_one
      exact (ps_ret (pv 6))
    have rk := rank_lt h1 hL
    rw [hn] at rk
    walk_at "sx"
    refine ⟨m, n, rfl, h1, h2, h3, fun H1 e1 => ?_⟩
    walk_at "sx"
    refine ⟨_, 0, _, rfl, rk.1, by omega, ?_⟩
    walk_at "sx"
    refine ⟨m, n, rfl, h1, h2, h3, fun wy H2 nw e2 hT => ?_⟩
    refine ⟨sz_ok (by omega), fun f nf => ⟨_, _, _, ⟨rfl, rfl, rfl⟩, ?_⟩⟩
    have e3 := Ex.new nf (o := .lst [])
    refine ⟨_, _, _, ⟨rfl, rfl, rfl⟩, _, RgC.neg (by omega) (by omega) (by omega) (by omega), ?_⟩
    have en : ((n : Int) - 1 - -1).toNat = n := by omega
    rw [en]
    refine lg_rngC (JN H2 m n L wy f) ⟨none, none, rfl, e3, by rw [upd_same]; rfl⟩ (fun i σ' H' hi hP => ?_) (fun σ' H' hP => ?_)
    · obtain ⟨l3, l7, rfl, e4, hf⟩ := hP
      have hx : L[i]? = some L[i] := List.getElem?_eq_getElem (by omega)
      obtain ⟨q, o1, o2, o3, o4⟩ := ok_drop hL hx
      have hd := rank_drop (m := m) hx
      generalize L[i] = x at hx o2 o3 o4 hd
      have ej : (n : Int) - 1 + (i : Nat) * (-1) = ((n - 1 - i : Nat) : Int) := by omega
      rw [ej]
      have hd2 : L.length - i - 1 = n - 1 - i := by omega
      rw [hd2] at hd
      have r2 := rank_lt h1 o4
      have hl2 : (L.drop (i + 1)).length = n - 1 - i := by rw [List.length_drop]; omega
      rw [hl2] at r2
      have hT' := hT.ex e4
      walk_at "sx"
      refine ⟨JN2 H' m n L wy f i x, ⟨x - 1, 1, by omega, Nat.le_refl _, by rw [Nat.sub_self, S_zero, Int.sub_zero]; rfl, Ex.refl _⟩, fun c σ5 H5 hP => ?_⟩
      obtain ⟨j, hj, hj1, rfl, e5⟩ := hP
      obtain ⟨p, xs, g1, g2, g3, _⟩ := (hT'.ex e5).get (show n - 1 - i ≤ n by omega)
      walk_at "sx"
      refine ixL (.inl (.inl g1)) (atI_n rfl g2) ?_
      refine ixL (.inl (.inl g3)) (atI_n rfl (wr_at (by omega))) ?_
      walk_at "sx"
      have sj := S_succ m (n - 1 - i) (j - 1)
      rw [Nat.sub_add_cancel hj1] at sj
      by_cases c0 : c = 0
      · have jx : j = x := by omega
        subst jx
        have z : ¬ W m (n - 1 - i) j ≤ rank m (L.drop i) - S m (n - 1 - i) (j - 1) := by omega
        simp only [z]
        walk_at "sx"
        refine ⟨tyL (e5 _ _ hf), ?_⟩
        refine appL (e5 _ _ hf) (BC.sz_lt (by rw [List.length_take]; omega)) ?_
        have hz : rank m (L.drop i) - S m (n - 1 - i) (j - 1) = rank m (L.drop (i + 1)) := by omega
        rw [hz]
        refine ⟨_, _, rfl, (e4.trans e5).mut nf, ?_⟩
        rw [upd_same, take_succ (nz_at hx)]
      · have sm := S_mono h1 (n - 1 - i) (show j ≤ x - 1 by omega)
        have z : W m (n - 1 - i) j ≤ rank m (L.drop i) - S m (n - 1 - i) (j - 1) := by omega
        simp only [z]
        walk_at "sx"
        refine ⟨fun σ' Hx => ∃ c', c' < c ∧ JN2 H' m n L wy f i x c' σ' Hx, fun σ' H' h => h, ?_⟩
        refine ixL (.inl (.inl g1)) (atI_n rfl g2) ?_
        refine ixL (.inl (.inl g3)) (atI_n rfl (wr_at (by omega))) ?_
        walk_at "sx"
        refine ⟨c - 1, by omega, j + 1, by omega, by omega, ?_, e5⟩
        have hz : rank m (L.drop i) - S m (n - 1 - i) (j - 1) - W m (n - 1 - i) j = rank m (L.drop i) - S m (n - 1 - i) j := by omega
        rw [hz]
        rfl
    · obtain ⟨l3, l7, rfl, e4, hf⟩ := hP
      walk_at "sx"
      rw [List.take_of_length_le (by rw [List.length_map, nz_len]; omega)] at hf
      exact k f _ (fresh_back (e1.trans e2) nf) ((e1.trans e2).trans e4) hf
def spRank (K : PySem.W.Frag) : Sp := fun vs H Q _ => ∃ (m : Nat) (a : Addr) (L : List Nat), vs = [.int m, .ref a] ∧ 1 ≤ m ∧ m ≤ 40 ∧ SqL K H a ((nz L).map V.int) ∧ L.length ≤ 200 ∧ Ok m 0 L ∧ ∀ H', Ex H H' → Q (.int (rank m L)) H'
def JR (H1 : Hp) (m : Nat) (a : Addr) (L : List Nat) (wy : Addr) (i : Nat) (σ' : L2.St) (H' : Hp) : Prop := ∃ l4 l5, σ' = [some (.int m), some (.ref a), some (.ref wy), some (.int (rank m L - rank m (L.drop i))), l4, l5] ∧ Ex H1 H'
theorem cut_from (m t x : Nat) (hx : 1 ≤ x) (hm : x ≤ m + 1) : cutV ((wrow m t).map V.int) (some 1) (some (x : Int)) = ((((wrow m t).drop 1).take (x - 1)).map V.int) := by
  unfold cutV
  have e1 : HT.sIx ((wrow m t).map V.int).length 0 (some 1) = 1 := by
    rw [show (1 : Int) = ((1 : Nat) : Int) by rfl, HT.sIx_nat, List.length_map, wrow_len]
    omega
  have e2 : HT.sIx ((wrow m t).map V.int).length ((wrow m t).map V.int).length (some (x : Int)) = x := by
    rw [HT.sIx_nat, List.length_map, wrow_len]
    omega
  rw [e1, e2, List.map_take, List.map_drop]
theorem ok_lengths_rank (T : Txt K mg) : FnOk P w K mg base CX0 4 T.f_lengths_rank T.fd_lengths_rank ["many", "lengths"] (spRank K) := by
  refine T.F_lengths_rank.ok sc_lengths_rank (fun vs H Q E h => ?_) (fun cdv A outer s H vs Q E hr h => ?_)
  · obtain ⟨m, a, L, rfl, _⟩ := h
    rfl
  · obtain ⟨m, a, L, rfl, h1, h2, hA, hl, hL, k⟩ := h
    apply Exists.intro
    apply And.intro
    · apply pss_cons
      · exact (ps_expr (pe_call (ok_check_number T) (hr.mono (by decide)) (by rfl) T.m_check_number T.F_check_number.kp T.b_check_number .nil pass0 (pa_cons (pv 0) (pa_cons pe_int (pa_cons (pe_glob (v := .int 40) rfl T.c_MOST_PAGES ⟨_, rfl⟩) pa_nil)))))
      apply pss_cons
      · exact (ps_expr (pe_call (ok_check_lengths T) (hr.mono (by decide)) (by rfl) T.m_check_lengths T.F_check_lengths.kp T.b_check_lengths .nil pass0 (pa_cons (pv 1) pa_nil)))
      apply pss_cons
      · apply ps_if
        · exact (PW.pt (pw_or (pt_cmpR op_gt (pe_callB (k_len (K := K) rfl) (by rfl) T.n_len PySem.boot_len (pa_cons (pv 1) pa_nil)) (pe_glob (v := .int 200) rfl T.c_MOST_TIMES ⟨_, rfl⟩) (by rfl)) (pw_or1 (pt_not (pt_val (pe_callB (k_all (K := K) rfl rfl) (by rfl) T.n_all (by decide +kernel) (pa_cons (pe_lc (own := [("length", 5)]) rfl sc_lengths_rank.nd (k_pi_list (K := K) rfl (pv 1)) (blkOk_by (own := [("length", 5)]) (N := ["many", "lengths", "ways", "found", "place", "length"]) (sc := defScope s_lengths_rank) (by decide +kernel)) (fun _ _ _ _ _ => by exact (pg_name (i := 5) sc_lengths_rank.nd rfl (.inl rfl))) (fun _ _ _ _ _ => by exact pts_nil) (fun _ _ _ _ _ => by exact (pe_cmpR op_le (pv 5) (pv 0) (by rfl)))) pa_nil)))))))
        · apply pss_one
          exact ps_never
        · exact pss_nil
      apply pss_cons
      · exact (ps_par (i := 2) (j := 3) (by rfl) sc_lengths_rank.nd rfl rfl (by decide) rfl rfl (pa_cons (pe_call (ok_continuations T) (hr.mono (by decide)) (by rfl) T.m_continuations T.F_continuations.kp T.b_continuations .nil pass0 (pa_cons (pv 0) (pa_cons (pe_callB (k_len (K := K) rfl) (by rfl) T.n_len PySem.boot_len (pa_cons (pv 1) pa_nil)) pa_nil))) (pa_cons pe_int pa_nil)) (by rfl))
      apply pss_cons
      · apply ps_for PassesOwn.never rfl
        · exact (k_pi_enum (K := K) rfl (by rfl) T.n_enumerate (pa_cons (pv 1) pa_nil))
        · exact (k_tup (K := K) (n := 2) rfl rfl (pgs_cons (pg_name (i := 4) sc_lengths_rank.nd rfl (.inl rfl)) (pgs_cons (pg_name (i := 5) sc_lengths_rank.nd rfl (.inl rfl)) pgs_nil)))
        · apply pss_one
          exact (ps_aug (i := 3) sc_lengths_rank.nd rfl (.inl rfl) (pe_callB (k_sum (K := K) rfl rfl) (by rfl) T.n_sum (by decide +kernel) (pa_cons (pe_slice (k_sl_list (K := K) rfl) (pe_ix (k_ix_list (K := K) rfl) (pv 2) (pe_op op_sub (pe_op op_sub (pe_callB (k_len (K := K) rfl) (by rfl) T.n_len PySem.boot_len (pa_cons (pv 1) pa_nil)) (pv 4)) pe_int) (fun _ _ => rfl)) (po_some pe_int) (po_some (pv 5))) pa_nil)) ip_add)
      apply pss_one
      exact (ps_ret (pv 3))
    have hin := ok_at hL
    walk_at "sx"
    refine ⟨m, 1, 40, rfl, by omega, by omega, ?_⟩
    walk_at "sx"
    refine ⟨a, m, L, rfl, hA, by omega, by omega, hL, ?_⟩
    refine lenL hA ?_
    walk_at "sx"
    rw [List.length_map, nz_len]
    have e1 : ¬ (200 : Int) < ((L.length : Nat) : Int) := by omega
    simp only [e1]
    walk_at "sx"
    refine ⟨⟨_, hA⟩, fun D nD => ?_⟩
    refine lc_list (fun _ => true) (fun _ => V.bl true) hA nD (by rw [List.length_map, nz_len]; omega) (fun u => rfl) (fun i x _ => tyes) (fun i x hx _ => ?_) (fun H2 e2 hD => ?_)
    · obtain ⟨n, hn, rfl⟩ := at_nz hx
      have := hin n (List.mem_of_getElem? hn)
      refine ev_is (ev_op (ev_var rfl) (ev_var rfl) rv_I0) ?_
      rw [decide_eq_true (by omega)]
    · rw [kept_const] at hD
      have e5 : List.replicate ((nz L).map V.int).length (V.bl true) = (List.replicate L.length true).map V.bl := by rw [List.map_replicate, List.length_map, nz_len]
      rw [e5] at hD
      refine allL (.inl (.inl hD)) ?_
      rw [all_true]
      have hA2 := ex_l e2 hA
      walk_at "sx"
      refine lenL hA2 ?_
      rw [List.length_map, nz_len]
      refine ⟨m, L.length, rfl, h1, h2, hl, fun wy H3 nw e3 hT => ?_⟩
      walk_at "sx"
      have hA3 := ex_l e3 hA2
      refine ⟨_, _, ⟨rfl, rfl⟩, _, hA3, ?_⟩
      refine lg_enum (xs := (nz L).map V.int) (JR H3 m a L wy) ⟨none, none, by rw [List.drop_zero, Int.sub_self], Ex.refl _⟩ (fun i σ' H' hi hP => by obtain ⟨_, _, _, e⟩ := hP; exact ex_l e hA3)
        (fun i x σ' H' T hx hP nT => ?_) (fun σ' H' hP => ?_)
      · obtain ⟨l4, l5, rfl, e⟩ := hP
        obtain ⟨x, hx', rfl⟩ := at_nz hx
        have hi : i < L.length := (List.getElem?_eq_some_iff.mp hx').1
        have hr := rank_drop (m := m) hx'
        obtain ⟨x1, x2⟩ := hin x (List.mem_of_getElem? hx')
        refine g_two upd_same ?_
        walk_at "sx"
        have e4 := e.trans (Ex.new nT (o := .tup [V.int i, V.int x]))
        refine lenL (ex_l e4 hA3) ?_
        rw [List.length_map, nz_len]
        obtain ⟨p, xs, g1, g2, g3, _⟩ := (hT.ex e4).get (show L.length - i - 1 ≤ L.length by omega)
        walk_at "sx"
        refine ixL (.inl (.inl g1)) (atI_n (by omega) g2) ?_
        refine slL (.inl (.inl g3)) fun z nz => ?_
        have e5 := Ex.new nz (o := .lst (cutV ((wrow m (L.length - i - 1)).map V.int) (some 1) (some (x : Int))))
        refine sumL (.inl (.inl (by rw [upd_same, cut_from m _ x x1 (by omega)]))) ?_
        rw [wrow_sum m _ _ (by omega)]
        walk_at "sx"
        have hz : rank m L - rank m (L.drop i) + S m (L.length - i - 1) (x - 1) = rank m L - rank m (L.drop (i + 1)) := by omega
        rw [hz]
        exact ⟨_, _, rfl, e4.trans e5⟩
      · obtain ⟨l4, l5, rfl, e⟩ := hP
        walk_at "sx"
        rw [List.length_map, nz_len, List.drop_length]
        rw [show rank m L - rank m [] = rank m L from Int.sub_zero _]
        exact k _ ((e2.trans e3).trans e)
end
end LW

set_option Elab.async false
set_option linter.all false
set_option maxRecDepth 100000
set_option maxHeartbeats 4000000
namespace LW
open PySem PySem.Spec PyProof.Rows L2 BC Evl TR LN

open F58
local macro_rules | `(tactic| walk_at "sx") => `(tactic| try simp only [x_seq, x_next, x_brk, x_cnt, x_nev, x_ret, x_retN, x_drop, x_ifS, x_asg, x_gn, x_gsub, x_par, x_par3, x_aug, x_for, x_lc, x_rng1, x_rng2, x_rng3, x_ilist, x_itup, x_ienum, x_izip, x_izipA, x_istr, x_var, x_c, x_op, x_un, x_test, x_b, x_chain, x_and, x_or, x_not, x_andV, x_orV, x_notV, x_ife, x_nil, x_cons, x_lst, x_tup, x_cb, x_call, x_callK, x_bm, x_bm0, x_tru, x_sl, x_nopart, x_part, x_revL, x_I0, x_I, x_U, x_ip, x_ipC, x_eqI, x_neI, x_eqB, x_neB, x_eqS, x_neS, x_isB, x_isNB, x_lrg, x_rg1, x_rg2,
  L2.start, List.map_cons, List.map_nil, List.length_cons, List.length_nil, Nat.reduceAdd, Nat.reduceSub, Nat.sub_self, Nat.zero_add, List.replicate, List.replicate_succ, List.replicate_zero, List.append_nil, List.cons_append, List.nil_append, List.set_cons_zero, List.set_cons_succ, List.getElem?_cons_zero, List.getElem?_cons_succ, Option.some.injEq, V.int.injEq, V.bl.injEq, V.ref.injEq, V.str.injEq, List.cons.injEq, and_true, true_and, exists_eq_left', exists_eq_left, exists_and_left, exists_eq, if_true, if_false, ite_true, ite_false, Bool.true_eq_false, Bool.false_eq_true, reduceIte, reduceCtorEq, Bool.not_true, Bool.not_false, decide_true, decide_false, decide_eq_true_eq, Bool.and_true, Bool.true_and, Bool.and_self, Bool.and_false, Bool.false_and, Bool.or_self, Bool.or_false, Bool.false_or, Bool.or_true, Bool.true_or, eq_self])

/-! ### the bag -/
def BagAt (H : Hp) (b : Addr) (c : Nat) : Prop := ∃ x0 x1 x2 : Int, H b = some (.lst [.int x0, .int x1, .int x2]) ∧ 0 ≤ x1 ∧ x1 < 10 ^ 37 + 43 ∧ 0 ≤ x2 ∧ x2 ≤ c
theorem BagAt.ex {H H' : Hp} {b : Addr} {c : Nat} (h : BagAt H b c) (e : Ex H H') : BagAt H' b c := by
  obtain ⟨x0, x1, x2, hb, r⟩ := h
  exact ⟨x0, x1, x2, e _ _ hb, r⟩
theorem BagAt.mono {H : Hp} {b : Addr} {c d : Nat} (h : BagAt H b c) (e : c ≤ d) : BagAt H b d := by
  obtain ⟨x0, x1, x2, hb, h1, h2, h3, h4⟩ := h
  exact ⟨x0, x1, x2, hb, h1, h2, h3, by omega⟩
theorem BagAt.some {H : Hp} {b : Addr} {c : Nat} (h : BagAt H b c) : ∃ o, H b = Option.some o := by
  obtain ⟨x0, x1, x2, hb, _⟩ := h
  exact ⟨_, hb⟩
theorem BagAt.apart {H : Hp} {b z : Addr} {c : Nat} (h : BagAt H b c) (nz : H z = none) : z ≠ b := fun e => by
  obtain ⟨o, ho⟩ := h.some
  subst e
  rw [ho] at nz
  cases nz
theorem BagAt.off {H : Hp} {b z : Addr} {c : Nat} {o : HO} (h : BagAt H b c) (nz : z ≠ b) : BagAt (upd H z o) b c := by
  obtain ⟨x0, x1, x2, hb, r⟩ := h
  exact ⟨x0, x1, x2, by rw [upd_ne (Ne.symm nz)]; exact hb, r⟩
theorem BagAt.ne {H : Hp} {b z : Addr} {c : Nat} (h : BagAt H b c) (nb : H z = none) : b ≠ z := fun e => h.apart nb e.symm
section
variable {P : Program} {w : World} {K : PySem.W.Frag} {mg : Str → Option Value} {base : Heap}
def spBag : Sp := fun vs H Q _ => ∃ n : Int, vs = [.int n] ∧ ∀ p H', H p = none → Ex H H' → BagAt H' p 0 → Q (.ref p) H'
theorem ok_law_bag (T : Txt K mg) : FnOk P w K mg base CX0 1 T.f_law_bag T.fd_law_bag ["_law_cell"] spBag := by
  refine T.F_law_bag.ok sc_law_bag (fun vs H Q E h => ?_) (fun cdv A outer s H vs Q E hr h => ?_)
  · obtain ⟨n, rfl, _⟩ := h
    rfl
  · obtain ⟨n, rfl, k⟩ := h
    apply Exists.intro
    apply And.intro
    · apply pss_one
      exact (ps_ret (pe_lst (pa_cons (pe_callB (call_max2 rfl) (by rfl) T.n_max (by decide +kernel) (pa_cons pe_int (pa_cons (pe_op op_sub (pv 0) (pe_op op_powX pe_int pe_int)) pa_nil))) (pa_cons (pe_op op_modX (pv 0) (pe_op op_add (pe_op op_powX pe_int pe_int) pe_int)) (pa_cons pe_int pa_nil)))))
    walk_at "sx"
    have t18 : Int.toNat 18 = 18 := rfl
    have t37 : Int.toNat 37 = 37 := rfl
    rw [t37]
    refine ⟨⟨by decide, by decide, by decide⟩, _, _, ⟨rfl, rfl⟩, ⟨by decide, by decide, by decide⟩, by decide, sz_ok (by omega), fun p np => ?_⟩
    refine k p _ np (Ex.new np) ⟨_, _, _, upd_same, Int.emod_nonneg _ (by decide), Int.emod_lt_of_pos _ (by decide), by omega, by omega⟩
/-- the greatest number of ways that is drawn from -/
def BIG : Int := 2 ^ 2000
theorem big_of {m : Int} (h : m ≤ 100000) : m ≤ BIG := Int.le_trans h (by decide +kernel)
theorem big_lt {m : Int} (h : 0 < m) (h2 : m ≤ BIG) : m.natAbs < 2 ^ 2001 := by
  have a : m.natAbs ≤ BIG.natAbs := by omega
  exact Nat.lt_of_le_of_lt a (by decide +kernel)
def spDraw : Sp := fun vs H Q _ => ∃ (b : Addr) (m : Int) (c : Nat), vs = [.ref b, .int m] ∧ 0 < m ∧ m ≤ BIG ∧ BagAt H b c ∧ c ≤ 1000000 ∧ ∀ r H', 0 ≤ r → r < m → Fx b H H' → BagAt H' b (c + 1) → Q (.int r) H'
theorem ok_law_draw (T : Txt K mg) : FnOk P w K mg base CX0 1 T.f_law_draw T.fd_law_draw ["_law_bag_here", "_law_most"] spDraw := by
  refine T.F_law_draw.ok sc_law_draw (fun vs H Q E h => ?_) (fun cdv A outer s H vs Q E hr h => ?_)
  · obtain ⟨b, m, c, rfl, _⟩ := h
    rfl
  · obtain ⟨b, m, c, rfl, h1, h2, hB, hc, k⟩ := h
    obtain ⟨x0, x1, x2, hb, h3, h4, h5, h6⟩ := hB
    apply Exists.intro
    apply And.intro
    · apply pss_cons
      · apply ps_if
        · exact (pt_cmpR op_gt (pe_ix (k_ix_list (K := K) rfl) (pv 0) pe_int (fun _ _ => rfl)) pe_int (by rfl))
        · apply pss_cons
          · exact (ps_set (i := 3) sc_law_draw.nd rfl (.inl rfl) (pe_op op_modX (pe_ix (k_ix_list (K := K) rfl) (pv 0) pe_int (fun _ _ => rfl)) (pv 1)))
          apply pss_cons
          · exact (ps_asg (pe_op op_fdivX (pe_ix (k_ix_list (K := K) rfl) (pv 0) pe_int (fun _ _ => rfl)) (pv 1)) (pg_sub (pv 0) pe_int set_list))
          apply pss_one
          exact (ps_ret (pv 3))
        · exact pss_nil
      apply pss_cons
      · exact (ps_asg (pe_op op_add (pe_ix (k_ix_list (K := K) rfl) (pv 0) pe_int (fun _ _ => rfl)) pe_int) (pg_sub (pv 0) pe_int set_list))
      apply pss_cons
      · exact (ps_set (i := 2) sc_law_draw.nd rfl (.inl rfl) (pe_op op_modX (pe_op op_powX (pe_op op_add (pe_ix (k_ix_list (K := K) rfl) (pv 0) pe_int (fun _ _ => rfl)) (pe_op op_mulX pe_int (pe_ix (k_ix_list (K := K) rfl) (pv 0) pe_int (fun _ _ => rfl)))) pe_int) (pe_op op_add (pe_op op_powX pe_int pe_int) pe_int)))
      apply pss_cons
      · exact (ps_set (i := 2) sc_law_draw.nd rfl (.inl rfl) (pe_op op_modX (pe_op op_powX (pe_op op_add (pv 2) (pe_op op_mulX pe_int (pe_ix (k_ix_list (K := K) rfl) (pv 0) pe_int (fun _ _ => rfl)))) pe_int) (pe_op op_add (pe_op op_powX pe_int pe_int) pe_int)))
      apply pss_one
      exact (ps_ret (pe_op op_modX (pe_op op_fdivX (pv 2) pe_int) (pv 1)))
    walk_at "sx"
    refine ixL (.inl (.inl hb)) (atI_n (j := 0) rfl rfl) ?_
    walk_at "sx"
    have hdm : ∀ i, CDivW i m := fun i => wide_div (b := 2001) h1 (big_lt h1 h2) (by omega) (by omega)
    by_cases h0 : 0 < x0
    · simp only [h0, if_true]
      refine ixL (.inl (.inl hb)) (atI_n (j := 0) rfl rfl) ?_
      walk_at "sx"
      refine ⟨h1, ?_⟩
      refine ixL (.inl (.inl hb)) (atI_n (j := 0) rfl rfl) ?_
      walk_at "sx"
      refine ⟨hdm _, ?_⟩
      refine setL hb (ixN_n (j := 0) rfl (by simp)) ?_
      exact k _ _ (Int.emod_nonneg _ (by omega)) (Int.emod_lt_of_pos _ h1) Fx.put ⟨_, _, _, upd_same, h3, h4, h5, by omega⟩
    · simp only [h0, if_false]
      refine ixL (.inl (.inl hb)) (atI_n (j := 2) rfl rfl) ?_
      walk_at "sx"
      refine setL hb (ixN_n (j := 2) rfl (by simp)) ?_
      have hb2 : (upd H b (.lst [V.int x0, V.int x1, V.int (x2 + 1)])) b = some (.lst [V.int x0, V.int x1, V.int (x2 + 1)]) := upd_same
      refine ixL (.inl (.inl hb2)) (atI_n (j := 1) rfl rfl) ?_
      walk_at "sx"
      refine ixL (.inl (.inl hb2)) (atI_n (j := 2) rfl rfl) ?_
      walk_at "sx"
      have c1 : CMulX 236887691 (x2 + 1) := .inl (.inl ⟨by decide, by decide⟩)
      have c2 : CMulX 32452867 (x2 + 1) := .inl (.inl ⟨by decide, by decide⟩)
      have c3 : CPowX (x1 + 236887691 * (x2 + 1)) 3 := ⟨by decide, by decide, Nat.lt_of_lt_of_le (log2_small (k := 200) (by decide) (by omega)) (by decide)⟩
      have t38 : Int.toNat 38 = 38 := rfl
      have t36 : Int.toNat 36 = 36 := rfl
      rw [t38, t36]
      refine ⟨c1, c3, ⟨by decide, by decide, by decide⟩, by decide, ?_⟩
      refine ixL (.inl (.inl hb2)) (atI_n (j := 2) rfl rfl) ?_
      walk_at "sx"
      generalize hz : (x1 + 236887691 * (x2 + 1)) ^ Int.toNat 3 % (10 ^ 38 + 133) = z
      have hz0 : 0 ≤ z := by rw [← hz]; exact Int.emod_nonneg _ (by decide)
      have hz1 : z < 10 ^ 38 + 133 := by rw [← hz]; exact Int.emod_lt_of_pos _ (by decide)
      have c4 : CPowX (z + 32452867 * (x2 + 1)) 5 := ⟨by decide, by decide, Nat.lt_of_lt_of_le (log2_small (k := 200) (by decide) (by omega)) (by decide)⟩
      refine ⟨c2, c4, ⟨by decide, by decide, by decide⟩, by decide, ⟨by decide, by decide⟩, h1, ?_⟩
      exact k _ _ (Int.emod_nonneg _ (by omega)) (Int.emod_lt_of_pos _ h1) Fx.put ⟨_, _, _, hb2, h3, h4, by omega, by omega⟩
end
section
variable {P : Program} {w : World} {K : PySem.W.Frag} {mg : Str → Option Value} {base : Heap}
def spFalse : Sp := fun _ _ _ _ => False
def spEq (K : PySem.W.Frag) (n : Nat) : Sp := fun vs H Q _ => ∃ (x y : V) (d : PyData), vs = [x, y] ∧ Dp K H x d ∧ Dp K H y d ∧ Sh n d ∧ ∀ H', Ex H H' → Q (.bl true) H'
theorem eq_base (T : Txt K mg) : FnOk P w K mg base CX0 0 T.f_law_equal T.fd_law_equal ["_law_found", "_law_due"] spFalse :=
  ⟨fun _ _ _ _ h => h.elim, fun _ _ _ _ _ _ _ _ _ _ _ _ _ h => h.elim⟩
theorem eq_step (T : Txt K mg) {lv n : Nat} {sp0 : Sp} (hsp : n = 0 ∨ ∃ n', n = n' + 1 ∧ sp0 = spEq K n') (G : FnOk P w K mg base CX0 lv T.f_law_equal T.fd_law_equal ["_law_found", "_law_due"] sp0) :
    FnOk P w K mg base CX0 (lv + 1) T.f_law_equal T.fd_law_equal ["_law_found", "_law_due"] (spEq K n) := by
  refine T.F_law_equal.ok sc_law_equal (fun vs H Q E h => ?_) (fun cdv A outer s H vs Q E hr h => ?_)
  · obtain ⟨x, y, d, rfl, _⟩ := h
    rfl
  · obtain ⟨x, y, d, rfl, hx, hy, hs, k⟩ := h
    apply Exists.intro
    apply And.intro
    · apply pss_cons
      · apply ps_if
        · exact (pt_val (pe_callB (k_isiT (K := K) rfl) (by rfl) T.n_isinstance (by decide +kernel) (pa_cons (pv 1) (pa_cons (pe_tup (pa_cons (pe_bltn (v := .ty "list") (by rfl) T.n_list (by decide +kernel) rfl) (pa_cons (pe_bltn (v := .ty "tuple") (by rfl) T.n_tuple (by decide +kernel) rfl) pa_nil))) pa_nil))))
        · apply pss_cons
          · apply ps_if
            · exact (PW.pt (pw_or (pt_cmpR op_ne (pe_callB (k_isi (K := K) rfl) (by rfl) T.n_isinstance (by decide +kernel) (pa_cons (pv 0) (pa_cons (pe_bltn (v := .ty "list") (by rfl) T.n_list (by decide +kernel) rfl) pa_nil))) (pe_callB (k_isi (K := K) rfl) (by rfl) T.n_isinstance (by decide +kernel) (pa_cons (pv 1) (pa_cons (pe_bltn (v := .ty "list") (by rfl) T.n_list (by decide +kernel) rfl) pa_nil))) (by rfl)) (pw_or1 (pt_cmpR op_ne (pe_callB (k_isi (K := K) rfl) (by rfl) T.n_isinstance (by decide +kernel) (pa_cons (pv 0) (pa_cons (pe_bltn (v := .ty "tuple") (by rfl) T.n_tuple (by decide +kernel) rfl) pa_nil))) (pe_callB (k_isi (K := K) rfl) (by rfl) T.n_isinstance (by decide +kernel) (pa_cons (pv 1) (pa_cons (pe_bltn (v := .ty "tuple") (by rfl) T.n_tuple (by decide +kernel) rfl) pa_nil))) (by rfl)))))
            · apply pss_one
              exact (ps_ret pe_bl)
            · exact pss_nil
          apply pss_one
          exact (ps_ret (pe_and (pe_cmpR op_eq (pe_callB (k_len (K := K) rfl) (by rfl) T.n_len PySem.boot_len (pa_cons (pv 0) pa_nil)) (pe_callB (k_len (K := K) rfl) (by rfl) T.n_len PySem.boot_len (pa_cons (pv 1) pa_nil)) (by rfl)) (pe_one (pe_callB (k_all (K := K) rfl rfl) (by rfl) T.n_all (by decide +kernel) (pa_cons (pe_lc (own := [("_law_one", 2), ("_law_two", 3)]) rfl sc_law_equal.nd (k_pi_zipA (K := K) rfl (by rfl) T.n_zip (pa_cons (pv 0) (pa_cons (pv 1) pa_nil))) (blkOk_by (own := [("_law_one", 2), ("_law_two", 3)]) (N := ["_law_found", "_law_due", "_law_one", "_law_two"]) (sc := defScope s_law_equal) (by decide +kernel)) (fun _ _ _ _ _ => by exact (k_tup (K := K) (n := 2) rfl rfl (pgs_cons (pg_name (i := 2) sc_law_equal.nd rfl (.inl rfl)) (pgs_cons (pg_name (i := 3) sc_law_equal.nd rfl (.inl rfl)) pgs_nil)))) (fun _ _ _ _ _ => by exact pts_nil) (fun _ _ _ _ _ => by exact (pe_call G hr (by rfl) T.m_law_equal T.F_law_equal.kp T.b_law_equal .nil pass0 (pa_cons (pv 2) (pa_cons (pv 3) pa_nil))))) pa_nil)))))
        · exact pss_nil
      apply pss_cons
      · apply ps_if
        · exact (PW.pt (pw_or (pt_cmpR op_isN (pv 1) pe_non (by rfl)) (pw_or1 (pt_val (pe_callB (k_isiT (K := K) rfl) (by rfl) T.n_isinstance (by decide +kernel) (pa_cons (pv 1) (pa_cons (pe_tup (pa_cons (pe_bltn (v := .ty "bool") (by rfl) T.n_bool (by decide +kernel) rfl) (pa_cons (pe_bltn (v := .ty "str") (by rfl) T.n_str (by decide +kernel) rfl) pa_nil))) pa_nil)))))))
        · apply pss_one
          exact (ps_ret (pe_and (pe_cmpR op_eq (pv 0) (pv 1) (by rfl)) (pe_one (pe_cmpR op_eq (pe_callB (k_isi (K := K) rfl) (by rfl) T.n_isinstance (by decide +kernel) (pa_cons (pv 0) (pa_cons (pe_bltn (v := .ty "bool") (by rfl) T.n_bool (by decide +kernel) rfl) pa_nil))) (pe_callB (k_isi (K := K) rfl) (by rfl) T.n_isinstance (by decide +kernel) (pa_cons (pv 1) (pa_cons (pe_bltn (v := .ty "bool") (by rfl) T.n_bool (by decide +kernel) rfl) pa_nil))) (by rfl)))))
        · exact pss_nil
      apply pss_one
      exact (ps_ret (pe_and (pe_callB (k_isi (K := K) rfl) (by rfl) T.n_isinstance (by decide +kernel) (pa_cons (pv 0) (pa_cons (pe_bltn (v := .ty "int") (by rfl) T.n_int (by decide +kernel) rfl) pa_nil))) (pe_and (pe_not (pe_callB (k_isi (K := K) rfl) (by rfl) T.n_isinstance (by decide +kernel) (pa_cons (pv 0) (pa_cons (pe_bltn (v := .ty "bool") (by rfl) T.n_bool (by decide +kernel) rfl) pa_nil)))) (pe_one (pe_cmpR op_eq (pv 0) (pv 1) (by rfl))))))
    walk_at "sx"
    refine ⟨sz_ok (by omega), fun p np => ?_⟩
    have e1 := Ex.new np (o := .tup [V.ty "list", V.ty "tuple"])
    have ty := tyx_d (ex_d e1 _ _ hy)
    have tx := tyx_d (ex_d e1 _ _ hx)
    cases hs with
    | non n =>
      simp only [tyn] at ty tx
      cases hx; cases hy
      refine isiT2 (b := false) (c := false) ty upd_same (by decide +kernel) (by decide +kernel) ?_
      walk_at "sx"
      refine eq_same (by rfl) ?_
      walk_at "sx"
      refine isi_x (b := false) tx (by decide +kernel) ?_
      refine isi_x (b := false) ty (by decide +kernel) ?_
      walk_at "sx"
      exact k _ e1
    | bl n b =>
      simp only [tyn] at ty tx
      cases hx; cases hy
      refine isiT2 (b := false) (c := false) ty upd_same (by decide +kernel) (by decide +kernel) ?_
      walk_at "sx"
      refine ⟨sz_ok (by omega), fun p2 np2 => ?_⟩
      have e2 := Ex.new np2 (o := .tup [V.ty "bool", V.ty "str"])
      refine isiT2 (b := true) (c := false) (.base (.bl b)) upd_same (by decide +kernel) (by decide +kernel) ?_
      walk_at "sx"
      refine isi_x (b := true) (.base (.bl b)) (by decide +kernel) ?_
      refine isi_x (b := true) (.base (.bl b)) (by decide +kernel) ?_
      walk_at "sx"
      exact k _ (e1.trans e2)
    | int n i =>
      simp only [tyn] at ty tx
      cases hx; cases hy
      refine isiT2 (b := false) (c := false) ty upd_same (by decide +kernel) (by decide +kernel) ?_
      walk_at "sx"
      refine ⟨sz_ok (by omega), fun p2 np2 => ?_⟩
      have e2 := Ex.new np2 (o := .tup [V.ty "bool", V.ty "str"])
      refine isiT2 (b := false) (c := false) (.base (.int i)) upd_same (by decide +kernel) (by decide +kernel) ?_
      walk_at "sx"
      refine isi_x (b := true) (.base (.int i)) (by decide +kernel) ?_
      walk_at "sx"
      refine isi_x (b := false) (.base (.int i)) (by decide +kernel) ?_
      walk_at "sx"
      exact k _ (e1.trans e2)
    | str n s =>
      simp only [tyn] at ty tx
      cases hx; cases hy
      refine isiT2 (b := false) (c := false) ty upd_same (by decide +kernel) (by decide +kernel) ?_
      walk_at "sx"
      refine ⟨sz_ok (by omega), fun p2 np2 => ?_⟩
      have e2 := Ex.new np2 (o := .tup [V.ty "bool", V.ty "str"])
      refine isiT2 (b := false) (c := true) (.base (.str s)) upd_same (by decide +kernel) (by decide +kernel) ?_
      walk_at "sx"
      refine isi_x (b := false) (.base (.str s)) (by decide +kernel) ?_
      refine isi_x (b := false) (.base (.str s)) (by decide +kernel) ?_
      walk_at "sx"
      exact k _ (e1.trans e2)
    | @lst n' ds hl h =>
      simp only [tyn] at ty tx
      obtain ⟨n2, en, rfl⟩ : ∃ n2, n' + 1 = n2 + 1 ∧ sp0 = spEq K n2 := by
        rcases hsp with q | ⟨n2, q1, q2⟩
        · omega
        · exact ⟨n2, q1, q2⟩
      obtain rfl : n' = n2 := by omega
      cases ex_d e1 _ _ hx with
      | lst hx1 hx2 =>
      cases ex_d e1 _ _ hy with
      | lst hy1 hy2 =>
      refine isiT2 (b := true) (c := false) ty upd_same (by decide +kernel) (by decide +kernel) ?_
      walk_at "sx"
      refine isi_x (b := true) tx (by decide +kernel) ?_
      refine isi_x (b := true) ty (by decide +kernel) ?_
      walk_at "sx"
      refine isi_x (b := false) tx (by decide +kernel) ?_
      refine isi_x (b := false) ty (by decide +kernel) ?_
      walk_at "sx"
      refine lenL hx1 ?_
      refine lenL hy1 ?_
      have lx := dp_len hx2
      have ly := dp_len hy2
      rw [lx, ly]
      walk_at "sx"
      refine ⟨_, _, ⟨rfl, rfl⟩, _, _, .inl ⟨hx1, hy1, fun D nD => ?_⟩⟩
      refine lc_zip (fun _ => true) (fun _ => V.bl true) hx1 hy1 (by omega) nD (by omega) (fun u v => rfl) (fun i u v _ _ => tyes) (fun i u v hu hv _ => ?_) (fun H2 e2 hD => ?_)
      · obtain ⟨d1, f1, g1⟩ := dp_at hx2 hu
        obtain ⟨d2, f2, g2⟩ := dp_at hy2 hv
        rw [f1] at f2
        cases f2
        refine ev_call (vs := [u, v]) (ea_cons (ev_var rfl) (ea_cons (ev_var rfl) ea_nil)) (fun H3 e3 Q3 q3 E3 => ?_)
        exact ⟨u, v, d1, rfl, ex_d e3 _ _ g1, ex_d e3 _ _ g2, h _ (List.mem_of_getElem? f1), q3⟩
      · rw [kept_const] at hD
        have e5 : List.replicate ds.length (V.bl true) = (List.replicate ds.length true).map V.bl := by rw [List.map_replicate]
        rw [lx, e5] at hD
        refine allL (.inl (.inl hD)) ?_
        rw [all_true]
        exact k _ (e1.trans e2)
    | @tup n' ds hl h =>
      simp only [tyn] at ty tx
      obtain ⟨n2, en, rfl⟩ : ∃ n2, n' + 1 = n2 + 1 ∧ sp0 = spEq K n2 := by
        rcases hsp with q | ⟨n2, q1, q2⟩
        · omega
        · exact ⟨n2, q1, q2⟩
      obtain rfl : n' = n2 := by omega
      cases ex_d e1 _ _ hx with
      | tup hx1 hx2 =>
      cases ex_d e1 _ _ hy with
      | tup hy1 hy2 =>
      refine isiT2 (b := false) (c := true) ty upd_same (by decide +kernel) (by decide +kernel) ?_
      walk_at "sx"
      refine isi_x (b := false) tx (by decide +kernel) ?_
      refine isi_x (b := false) ty (by decide +kernel) ?_
      walk_at "sx"
      refine isi_x (b := true) tx (by decide +kernel) ?_
      refine isi_x (b := true) ty (by decide +kernel) ?_
      walk_at "sx"
      refine lenT hx1 ?_
      refine lenT hy1 ?_
      have lx := dp_len hx2
      have ly := dp_len hy2
      rw [lx, ly]
      walk_at "sx"
      refine ⟨_, _, ⟨rfl, rfl⟩, _, _, .inr ⟨hx1, hy1, fun D nD => ?_⟩⟩
      refine lc_zipT (fun _ => true) (fun _ => V.bl true) hx1 hy1 (by omega) nD (by omega) (fun u v => rfl) (fun i u v _ _ => tyes) (fun i u v hu hv _ => ?_) (fun H2 e2 hD => ?_)
      · obtain ⟨d1, f1, g1⟩ := dp_at hx2 hu
        obtain ⟨d2, f2, g2⟩ := dp_at hy2 hv
        rw [f1] at f2
        cases f2
        refine ev_call (vs := [u, v]) (ea_cons (ev_var rfl) (ea_cons (ev_var rfl) ea_nil)) (fun H3 e3 Q3 q3 E3 => ?_)
        exact ⟨u, v, d1, rfl, ex_d e3 _ _ g1, ex_d e3 _ _ g2, h _ (List.mem_of_getElem? f1), q3⟩
      · rw [kept_const] at hD
        have e5 : List.replicate ds.length (V.bl true) = (List.replicate ds.length true).map V.bl := by rw [List.map_replicate]
        rw [lx, e5] at hD
        refine allL (.inl (.inl hD)) ?_
        rw [all_true]
        exact k _ (e1.trans e2)
theorem ok_law_equal (T : Txt K mg) : FnOk P w K mg base CX0 3 T.f_law_equal T.fd_law_equal ["_law_found", "_law_due"] (spEq K 2) :=
  eq_step T (.inr ⟨1, rfl, rfl⟩) (eq_step T (.inr ⟨0, rfl, rfl⟩) (eq_step T (n := 0) (.inl rfl) (eq_base T)))
end
section
variable {P : Program} {w : World} {K : PySem.W.Frag} {mg : Str → Option Value} {base : Heap}
/-- all lists of so many numbers -/
def spLists : Sp := fun vs H Q _ => ∃ (wd n : Nat), vs = [.int wd, .int n] ∧ 1 ≤ wd ∧ n ≤ 100 ∧ wd ^ n ≤ 2000 ∧ ∀ r H', Ex H H' → GridN H H' r (rows wd n) → Q (.ref r) H'
def JLs (H : Hp) (wd n : Nat) (i : Nat) (σ' : L2.St) (H' : Hp) : Prop := ∃ r l3 l4 l5 l6, σ' = [some (.int wd), some (.int n), some (.ref r), l3, l4, l5, l6] ∧ Ex H H' ∧ GridN H H' r (rows wd i)
def JLr (H0 : Hp) (wd n : Nat) (F : Grid) (r g : Addr) (l3 l6 : Option V) (j : Nat) (σ' : L2.St) (H' : Hp) : Prop := ∃ l5, σ' = [some (.int wd), some (.int n), some (.ref r), l3, some (.ref g), l5, l6] ∧ Ex H0 H' ∧ GridN H0 H' g ((F.take j).map fun r => (List.range wd).map fun x => r ++ [x]).flatten
def PvL (H0 : Hp) (D : Addr) (R : List Nat) (i : Nat) (H' : Hp) : Prop := Ex H0 H' ∧ GridN H0 H' D ((List.range i).map fun u => R ++ [u])
theorem ok_law_lists (T : Txt K mg) : FnOk P w K mg base CX0 1 T.f_law_lists T.fd_law_lists ["_law_wide", "_law_long"] spLists := by
  refine T.F_law_lists.ok sc_law_lists (fun vs H Q E h => ?_) (fun cdv A outer s H vs Q E hr h => ?_)
  · obtain ⟨wd, n, rfl, _⟩ := h
    rfl
  · obtain ⟨wd, n, rfl, w1, hn, hb, k⟩ := h
    apply Exists.intro
    apply And.intro
    · apply pss_cons
      · exact (ps_set (i := 2) sc_law_lists.nd rfl (.inl rfl) (pe_lst (pa_cons (pe_lst pa_nil) pa_nil)))
      apply pss_cons
      · apply ps_for PassesOwn.never rfl
        · exact (pi_range1 (by rfl) T.n_range (pa_cons (pv 1) pa_nil))
        · exact (pg_name (i := 3) sc_law_lists.nd rfl (.inl rfl))
        · apply pss_cons
          · exact (ps_set (i := 4) sc_law_lists.nd rfl (.inl rfl) (pe_lst pa_nil))
          apply pss_cons
          · apply ps_for PassesOwn.never rfl
            · exact (k_pi_list (K := K) rfl (pv 2))
            · exact (pg_name (i := 5) sc_law_lists.nd rfl (.inr rfl))
            · apply pss_one
              exact (ps_expr (k_bm (K := K) rfl (pe_bm PySem.F.plainAttrs_list PySem.F.slot_list_extend PySem.F.type_list_extend mt_extend (pv 4) (pa_cons (pe_lc (own := [("_law_one", 6)]) rfl sc_law_lists.nd (pi_range1 (by rfl) T.n_range (pa_cons (pv 0) pa_nil)) (blkOk_by (own := [("_law_one", 6)]) (N := ["_law_wide", "_law_long", "_law_found", "_law_turn", "_law_longer", "_law_row", "_law_one"]) (sc := defScope s_law_lists) (by decide +kernel)) (fun _ _ _ _ _ => by exact (pg_name (i := 6) sc_law_lists.nd rfl (.inl rfl))) (fun _ _ _ _ _ => by exact pts_nil) (fun _ _ _ _ _ => by exact (pe_op op_cat (pv 5) (pe_lst (pa_cons (pv 6) pa_nil))))) pa_nil))))
          apply pss_one
          exact (ps_set (i := 2) sc_law_lists.nd rfl (.inl rfl) (pv 4))
      apply pss_one
      exact (ps_ret (pv 2))
    walk_at "sx"
    refine ⟨sz_ok (by omega), fun z nz1 => ⟨sz_ok (by omega), fun r nr => ⟨by omega, by omega, ?_⟩⟩⟩
    rw [Int.toNat_natCast]
    have e1 := Ex.new nz1 (o := .lst [])
    have e2 := e1.trans (Ex.new nr (o := .lst [V.ref z]))
    have nzr : z ≠ r := ne_of_none upd_same nr
    refine lg_rng (JLs H wd n) ⟨r, none, none, none, none, rfl, e2, fresh_back e1 nr, [z], upd_same, rfl, by simp, by simpa using (Ne.symm nzr), fun i q e => ?_⟩ (fun i σ' H' hi hP => ?_) (fun σ' H' hP => ?_)
    · match i, e with
      | 0, e =>
        cases e
        exact ⟨nz1, by rw [upd_ne nzr, upd_same]; rfl⟩
      | i + 1, e => simp at e
    · obtain ⟨r, l3, l4, l5, l6, rfl, e, gr⟩ := hP
      have wb : wd ^ (i + 1) ≤ 2000 := Nat.le_trans (Nat.pow_le_pow_right w1 (by omega)) hb
      have wl := rows_len wd i
      have wn : (rows wd i).length * wd ≤ 2000 := by rw [wl, ← Nat.pow_succ]; exact wb
      have wn2 : (rows wd i).length ≤ 2000 := Nat.le_trans (Nat.le_mul_of_pos_right _ w1) wn
      simp only [x_gn, List.set_cons_zero, List.set_cons_succ]
      refine seq_asg (fun v H1 => ∃ g, v = .ref g ∧ Ex H' H1 ∧ GridN H' H1 g []) (fun R hR => ?_) (fun v H1 hC => ?_)
      · walk_at "sx"
        exact ⟨sz_ok (by omega), fun g ng => hR _ _ ⟨g, rfl, Ex.new ng, GridN.nil ng⟩⟩
      obtain ⟨g, rfl, e1, gg⟩ := hC
      simp only [List.set_cons_zero, List.set_cons_succ]
      obtain ⟨ps, hr, pl, hrow⟩ := gr.at
      refine seq_cut (fun σ' H2 => ∃ l5, σ' = [some (.int wd), some (.int n), some (.ref r), some (.int (0 + (i : Int))), some (.ref g), l5, l6] ∧ Ex H' H2 ∧ GridN H' H2 g (rows wd (i + 1))) (fun N hN => ?_) (fun σ2 H2 hC => ?_)
      · walk_at "sx"
        refine ⟨⟨_, .inl (.inl (e1 _ _ hr))⟩, ?_⟩
        refine lg_list (xs := ps.map V.ref) (JLr H' wd n (rows wd i) r g (some (.int (0 + (i : Int)))) l6) ⟨l5, rfl, e1, gg⟩ (fun j σ' H3 _ hP => by obtain ⟨_, _, e, _⟩ := hP; exact .inl (.inl (e _ _ hr))) (fun j x σ' H3 hx hP => ?_) (fun σ' H3 hP => ?_)
        · obtain ⟨l5, rfl, e3, g3⟩ := hP
          rw [List.getElem?_map] at hx
          obtain ⟨q, hq, rfl⟩ : ∃ q, ps[j]? = some q ∧ x = .ref q := by
            cases y : ps[j]? with
            | none => rw [y] at hx; cases hx
            | some q => rw [y] at hx; cases hx; exact ⟨q, rfl, rfl⟩
          have hj := (List.getElem?_eq_some_iff.mp hq).1
          have hat : (rows wd i)[j]? = some (row (rows wd i) j) := at_row (by omega)
          have hm := List.mem_of_getElem? hat
          have hqq := e3 _ _ (hrow j q hq)
          have rl := (rows_lt wd i _ hm).2
          have htk : (rows wd i).take (j + 1) = (rows wd i).take j ++ [row (rows wd i) j] := by rw [List.take_add_one, hat]; rfl
          generalize row (rows wd i) j = R at hat hm hqq rl htk
          obtain ⟨gs, hgs⟩ : ∃ xs, H3 g = some (.lst xs) := by obtain ⟨_, qs, h1, _⟩ := g3; exact ⟨_, h1⟩
          have w2 : wd ≤ 2000 := Nat.le_trans (Nat.le_self_pow (Nat.succ_ne_zero i) wd) wb
          walk_at "sx"
          refine ⟨tyL hgs, by omega, by omega, fun D nD => ?_⟩
          refine lc_rngE (PvL H3 D R) ⟨Ex.new nD, GridN.nil nD⟩ (fun u H4 hu hP => ?_) (fun H4 hP => ?_)
          · obtain ⟨e4, g4⟩ := hP
            refine ⟨by rfl, ?_⟩
            simp only [wipe, List.set_cons_zero, List.set_cons_succ]
            walk_at "sx"
            rw [show (0 : Int) + (u : Int) = (u : Int) by omega]
            refine ⟨sz_ok (by omega), fun c nc => ?_⟩
            have ec := Ex.new nc (o := .lst [V.int u])
            refine catL (ec _ _ (e4 _ _ hqq)) upd_same (sz_ok (by rw [List.length_map, nz_len, List.length_singleton]; omega)) fun d nd => ?_
            have ed := Ex.new nd (o := .lst ((nz R).map V.int ++ [V.int u]))
            have e44 := ec.trans ed
            have nd4 : H4 d = none := fresh_back ec nd
            obtain ⟨zs, h1, h2, g5⟩ := g4.push (r := R ++ [u]) (fresh_back e4 nd4) nd4 (Nw.of e44) (by rw [upd_same, nz_v])
            refine ⟨zs, h1, BC.sz_lt (by rw [h2, List.length_map, List.length_range]; omega), (e4.trans e44).mut nD, ?_⟩
            rw [List.range_succ, List.map_append]
            exact g5
          · obtain ⟨e4, g4⟩ := hP
            have g4' : GridN H3 H4 D ((List.range wd).map fun u => R ++ [u]) := by simpa using g4
            obtain ⟨xs, zs, h1, h2, h3, h4, g5⟩ := g3.ext g4' e4 (fun x n => fresh_back e3 n)
            have fl : (((rows wd i).take j).map fun r => (List.range wd).map fun x => r ++ [x]).flatten.length ≤ ((rows wd i).take j).length * wd := flat_le fun x _ => by rw [List.length_map, List.length_range]; exact Nat.le_refl _
            have fl2 : ((rows wd i).take j).length * wd ≤ (rows wd i).length * wd := Nat.mul_le_mul_right _ (by rw [List.length_take]; omega)
            refine ⟨g, D, xs, zs, rfl, rfl, h1, h2, sz_ok (by rw [h3, h4, List.length_map, List.length_range]; omega), ?_⟩
            refine ⟨_, rfl, (e3.trans e4).mut gg.1, ?_⟩
            rw [htk, List.map_append, List.flatten_append]
            show GridN H' _ g (_ ++ (((List.range wd).map fun x => R ++ [x]) ++ []))
            rw [List.append_nil]
            exact g5
        · obtain ⟨l5, rfl, e3, g3⟩ := hP
          rw [List.length_map, pl, List.take_of_length_le (Nat.le_refl _)] at g3
          exact hN _ _ ⟨_, rfl, e3, g3⟩
      obtain ⟨l5', rfl, e2, g2⟩ := hC
      walk_at "sx"
      exact ⟨g, _, _, _, _, rfl, e.trans e2, g2.back e⟩
    · obtain ⟨r, l3, l4, l5, l6, rfl, e, gr⟩ := hP
      walk_at "sx"
      exact k r _ e gr
end
end LW

set_option Elab.async false
set_option linter.all false
set_option maxRecDepth 100000
set_option maxHeartbeats 4000000
namespace LW
open PySem PySem.Spec PyProof.Rows L2 BC Evl TR LN

open F58
local macro_rules | `(tactic| walk_at "sx") => `(tactic| try simp only [x_seq, x_next, x_brk, x_cnt, x_nev, x_ret, x_retN, x_drop, x_ifS, x_asg, x_gn, x_gsub, x_par, x_par3, x_aug, x_for, x_lc, x_rng1, x_rng2, x_rng3, x_ilist, x_itup, x_ienum, x_izip, x_izipA, x_istr, x_var, x_c, x_op, x_un, x_test, x_b, x_chain, x_and, x_or, x_not, x_andV, x_orV, x_notV, x_ife, x_nil, x_cons, x_lst, x_tup, x_cb, x_call, x_callK, x_bm, x_bm0, x_tru, x_sl, x_nopart, x_part, x_revL, x_I0, x_I, x_U, x_ip, x_ipC, x_eqI, x_neI, x_eqB, x_neB, x_eqS, x_neS, x_isB, x_isNB, x_lrg, x_rg1, x_rg2,
  L2.start, List.map_cons, List.map_nil, List.length_cons, List.length_nil, Nat.reduceAdd, Nat.reduceSub, Nat.sub_self, Nat.zero_add, List.replicate, List.replicate_succ, List.replicate_zero, List.append_nil, List.cons_append, List.nil_append, List.set_cons_zero, List.set_cons_succ, List.getElem?_cons_zero, List.getElem?_cons_succ, Option.some.injEq, V.int.injEq, V.bl.injEq, V.ref.injEq, V.str.injEq, List.cons.injEq, and_true, true_and, exists_eq_left', exists_eq_left, exists_and_left, exists_eq, if_true, if_false, ite_true, ite_false, Bool.true_eq_false, Bool.false_eq_true, reduceIte, reduceCtorEq, Bool.not_true, Bool.not_false, decide_true, decide_false, decide_eq_true_eq, Bool.and_true, Bool.true_and, Bool.and_self, Bool.and_false, Bool.false_and, Bool.or_self, Bool.or_false, Bool.false_or, Bool.or_true, Bool.true_or, eq_self])

section
variable {P : Program} {w : World} {K : PySem.W.Frag} {mg : Str → Option Value} {base : Heap}
/-- all lengths, in order -/
def spAll : Sp := fun vs H Q _ => ∃ (wd n : Nat), vs = [.int wd, .int n] ∧ 1 ≤ wd ∧ wd ≤ 5 ∧ n ≤ 7 ∧ ∀ r H', Ex H H' → GridN H H' r (all wd n) → Q (.ref r) H'
def nxt (m : Nat) (r : List Nat) : List (List Nat) := (List.range (topN m r)).map fun u => r ++ [u + 1]
def JAs (H : Hp) (wd n : Nat) (i : Nat) (σ' : L2.St) (H' : Hp) : Prop := ∃ r l3 l4 l5 l6 l7, σ' = [some (.int wd), some (.int n), some (.ref r), l3, l4, l5, l6, l7] ∧ Ex H H' ∧ GridN H H' r (all wd i)
def JAr (H0 : Hp) (wd n : Nat) (F : Grid) (r g : Addr) (l3 : Option V) (j : Nat) (σ' : L2.St) (H' : Hp) : Prop := ∃ l5 l6 l7, σ' = [some (.int wd), some (.int n), some (.ref r), l3, some (.ref g), l5, l6, l7] ∧ Ex H0 H' ∧ GridN H0 H' g ((F.take j).map (nxt wd)).flatten
def PvA (H0 : Hp) (D : Addr) (R : List Nat) (i : Nat) (H' : Hp) : Prop := Ex H0 H' ∧ GridN H0 H' D ((List.range i).map fun u => R ++ [u + 1])
theorem last_at {R : List Nat} (h : R ≠ []) : ((nz R).map V.int)[((nz R).map V.int).length - 1]? = some (.int ((R.getLast?.getD 0 : Nat) : Int)) := by
  rw [List.length_map, nz_len]
  refine nz_at ?_
  rw [← List.getLast?_eq_getElem?]
  cases e : R.getLast? with
  | none => exact absurd (List.getLast?_eq_none_iff.mp e) h
  | some x => rfl
theorem ok_law_all (T : Txt K mg) : FnOk P w K mg base CX0 1 T.f_law_all T.fd_law_all ["_law_wide", "_law_long"] spAll := by
  refine T.F_law_all.ok sc_law_all (fun vs H Q E h => ?_) (fun cdv A outer s H vs Q E hr h => ?_)
  · obtain ⟨wd, n, rfl, _⟩ := h
    rfl
  · obtain ⟨wd, n, rfl, w1, w5, hn, k⟩ := h
    apply Exists.intro
    apply And.intro
    · apply pss_cons
      · exact (ps_set (i := 2) sc_law_all.nd rfl (.inl rfl) (pe_lst (pa_cons (pe_lst pa_nil) pa_nil)))
      apply pss_cons
      · apply ps_for PassesOwn.never rfl
        · exact (pi_range1 (by rfl) T.n_range (pa_cons (pv 1) pa_nil))
        · exact (pg_name (i := 3) sc_law_all.nd rfl (.inl rfl))
        · apply pss_cons
          · exact (ps_set (i := 4) sc_law_all.nd rfl (.inl rfl) (pe_lst pa_nil))
          apply pss_cons
          · apply ps_for PassesOwn.never rfl
            · exact (k_pi_list (K := K) rfl (pv 2))
            · exact (pg_name (i := 5) sc_law_all.nd rfl (.inr rfl))
            · apply pss_cons
              · exact (ps_set (i := 6) sc_law_all.nd rfl (.inl rfl) (pe_callB (call_min2 rfl) (by rfl) T.n_min (by decide +kernel) (pa_cons (pv 0) (pa_cons (pe_op op_add pe_int (pe_ifExp (pt_cmpR (k_neD (K := K) rfl hr.units) (pv 5) (pe_lst pa_nil) (by rfl)) (pe_ix (k_ix_list (K := K) rfl) (pv 5) (pe_un un_neg pe_int) (fun _ _ => rfl)) pe_int)) pa_nil))))
              apply pss_one
              exact (ps_expr (k_bm (K := K) rfl (pe_bm PySem.F.plainAttrs_list PySem.F.slot_list_extend PySem.F.type_list_extend mt_extend (pv 4) (pa_cons (pe_lc (own := [("_law_one", 7)]) rfl sc_law_all.nd (pi_range2 (by rfl) T.n_range (pa_cons pe_int (pa_cons (pe_op op_add (pv 6) pe_int) pa_nil))) (blkOk_by (own := [("_law_one", 7)]) (N := ["_law_wide", "_law_long", "_law_found", "_law_turn", "_law_longer", "_law_row", "_law_top", "_law_one"]) (sc := defScope s_law_all) (by decide +kernel)) (fun _ _ _ _ _ => by exact (pg_name (i := 7) sc_law_all.nd rfl (.inl rfl))) (fun _ _ _ _ _ => by exact pts_nil) (fun _ _ _ _ _ => by exact (pe_op op_cat (pv 5) (pe_lst (pa_cons (pv 7) pa_nil))))) pa_nil))))
          apply pss_one
          exact (ps_set (i := 2) sc_law_all.nd rfl (.inl rfl) (pv 4))
      apply pss_one
      exact (ps_ret (pv 2))
    walk_at "sx"
    refine ⟨sz_ok (by omega), fun z nz1 => ⟨sz_ok (by omega), fun r nr => ⟨by omega, by omega, ?_⟩⟩⟩
    rw [Int.toNat_natCast]
    have e1 := Ex.new nz1 (o := .lst [])
    have e2 := e1.trans (Ex.new nr (o := .lst [V.ref z]))
    have nzr : z ≠ r := ne_of_none upd_same nr
    refine lg_rng (JAs H wd n) ⟨r, none, none, none, none, none, rfl, e2, fresh_back e1 nr, [z], upd_same, rfl, by simp, by simpa using (Ne.symm nzr), fun i q e => ?_⟩ (fun i σ' H' hi hP => ?_) (fun σ' H' hP => ?_)
    · match i, e with
      | 0, e =>
        cases e
        exact ⟨nz1, by rw [upd_ne nzr, upd_same]; rfl⟩
      | i + 1, e => simp at e
    · obtain ⟨r, l3, l4, l5, l6, l7, rfl, e, gr⟩ := hP
      have many := (all_many w1 w5 (show i ≤ 7 by omega)).2
      simp only [x_gn, List.set_cons_zero, List.set_cons_succ]
      refine seq_asg (fun v H1 => ∃ g, v = .ref g ∧ Ex H' H1 ∧ GridN H' H1 g []) (fun R hR => ?_) (fun v H1 hC => ?_)
      · walk_at "sx"
        exact ⟨sz_ok (by omega), fun g ng => hR _ _ ⟨g, rfl, Ex.new ng, GridN.nil ng⟩⟩
      obtain ⟨g, rfl, e1, gg⟩ := hC
      simp only [List.set_cons_zero, List.set_cons_succ]
      obtain ⟨ps, hr, pl, hrow⟩ := gr.at
      refine seq_cut (fun σ' H2 => ∃ l5 l6 l7, σ' = [some (.int wd), some (.int n), some (.ref r), some (.int (0 + (i : Int))), some (.ref g), l5, l6, l7] ∧ Ex H' H2 ∧ GridN H' H2 g (all wd (i + 1))) (fun N hN => ?_) (fun σ2 H2 hC => ?_)
      · walk_at "sx"
        refine ⟨⟨_, .inl (.inl (e1 _ _ hr))⟩, ?_⟩
        refine lg_list (xs := ps.map V.ref) (JAr H' wd n (all wd i) r g (some (.int (0 + (i : Int))))) ⟨l5, l6, l7, rfl, e1, gg⟩ (fun j σ' H3 _ hP => by obtain ⟨_, _, _, _, e, _⟩ := hP; exact .inl (.inl (e _ _ hr))) (fun j x σ' H3 hx hP => ?_) (fun σ' H3 hP => ?_)
        · obtain ⟨l5, l6, l7, rfl, e3, g3⟩ := hP
          rw [List.getElem?_map] at hx
          obtain ⟨q, hq, rfl⟩ : ∃ q, ps[j]? = some q ∧ x = .ref q := by
            cases y : ps[j]? with
            | none => rw [y] at hx; cases hx
            | some q => rw [y] at hx; cases hx; exact ⟨q, rfl, rfl⟩
          have hj := (List.getElem?_eq_some_iff.mp hq).1
          have hat : (all wd i)[j]? = some (row (all wd i) j) := at_row (by omega)
          have hqq := e3 _ _ (hrow j q hq)
          have rl := (all_at w1 w5 (show i ≤ 7 by omega) hat).2.1
          have htk : (all wd i).take (j + 1) = (all wd i).take j ++ [row (all wd i) j] := by rw [List.take_add_one, hat]; rfl
          generalize row (all wd i) j = R at hat hqq rl htk
          obtain ⟨gs, hgs⟩ : ∃ xs, H3 g = some (.lst xs) := by obtain ⟨_, qs, h1, _⟩ := g3; exact ⟨_, h1⟩
          have tn : topN wd R ≤ 5 := Nat.le_trans (Nat.min_le_left _ _) w5
          simp only [x_gn, List.set_cons_zero, List.set_cons_succ]
          refine seq_asg (fun v H4 => v = .int (topN wd R : Nat) ∧ Ex H3 H4) (fun Q2 hQ2 => ?_) (fun v H4 hC => ?_)
          · walk_at "sx"
            refine ⟨sz_ok (by omega), fun z nz2 => ?_⟩
            have ez := Ex.new nz2 (o := .lst [])
            refine neInts (ms := []) (.inl (.inl (ez _ _ hqq))) (.inl (.inl upd_same)) ?_
            refine ⟨_, rfl, ?_⟩
            by_cases c : R = []
            · subst c
              rw [if_neg (show ¬ ((!decide (nz [] = [])) = true) by decide)]
              refine ⟨_, _, ⟨rfl, rfl⟩, hQ2 _ _ ⟨?_, ez⟩⟩
              show V.int _ = V.int ((min wd (1 + 0) : Nat) : Int)
              congr 1
              split <;> omega
            · have c2 : (!decide (nz R = [])) = true := by
                rw [decide_eq_false (p := nz R = []) (fun q => c (List.map_eq_nil_iff.mp q))]; rfl
              rw [if_pos c2]
              refine ixL (.inl (.inl (ez _ _ hqq))) (atI_last (last_at c)) ?_
              walk_at "sx"
              refine ⟨_, _, ⟨rfl, rfl⟩, hQ2 _ _ ⟨?_, ez⟩⟩
              show V.int _ = V.int ((min wd (1 + R.getLast?.getD 0) : Nat) : Int)
              congr 1
              split <;> omega
          obtain ⟨rfl, e4⟩ := hC
          have hqq := e4 _ _ hqq
          have hgs := e4 _ _ hgs
          have g3 := g3.ex e4
          have e3 := e3.trans e4
          walk_at "sx"
          refine ⟨tyL hgs, _, _, ⟨rfl, rfl⟩, ⟨by omega, by omega, by omega, by omega⟩, fun D nD => ?_⟩
          rw [show (((topN wd R : Nat) : Int) + 1 - 1).toNat = topN wd R by omega]
          refine lc_rngE (PvA H4 D R) ⟨Ex.new nD, GridN.nil nD⟩ (fun u H5 hu hP => ?_) (fun H5 hP => ?_)
          · obtain ⟨e5, g5⟩ := hP
            refine ⟨by rfl, ?_⟩
            simp only [wipe, List.set_cons_zero, List.set_cons_succ]
            walk_at "sx"
            rw [show (1 : Int) + (u : Int) = ((u + 1 : Nat) : Int) by omega]
            refine ⟨sz_ok (by omega), fun c nc => ?_⟩
            have ec := Ex.new nc (o := .lst [V.int (u + 1 : Nat)])
            refine catL (ec _ _ (e5 _ _ hqq)) upd_same (sz_ok (by rw [List.length_map, nz_len, List.length_singleton]; omega)) fun d nd => ?_
            have ed := Ex.new nd (o := .lst ((nz R).map V.int ++ [V.int (u + 1 : Nat)]))
            have e55 := ec.trans ed
            have nd4 : H5 d = none := fresh_back ec nd
            obtain ⟨zs, h1, h2, g6⟩ := g5.push (r := R ++ [u + 1]) (fresh_back e5 nd4) nd4 (Nw.of e55) (by rw [upd_same, nz_v])
            refine ⟨zs, h1, BC.sz_lt (by rw [h2, List.length_map, List.length_range]; omega), (e5.trans e55).mut nD, ?_⟩
            rw [List.range_succ, List.map_append]
            exact g6
          · obtain ⟨e5, g5⟩ := hP
            have g5' : GridN H4 H5 D (nxt wd R) := g5
            obtain ⟨xs, zs, h1, h2, h3, h4, g6⟩ := g3.ext g5' e5 (fun x n => fresh_back e3 n)
            have fl : (((all wd i).take j).map (nxt wd)).flatten.length ≤ ((all wd i).take j).length * 5 := by
              refine flat_le fun x _ => ?_
              show (((List.range (topN wd x)).map fun u => x ++ [u + 1])).length ≤ 5
              rw [List.length_map, List.length_range]
              exact Nat.le_trans (Nat.min_le_left _ _) w5
            have fl2 : ((all wd i).take j).length ≤ 429 := by rw [List.length_take]; omega
            refine ⟨g, D, xs, zs, rfl, rfl, h1, h2, sz_ok (by rw [h3, h4]; show _ + (((List.range (topN wd R)).map fun u => R ++ [u + 1])).length ≤ _; rw [List.length_map, List.length_range]; omega), ?_⟩
            refine ⟨_, _, _, rfl, (e3.trans e5).mut gg.1, ?_⟩
            rw [htk, List.map_append, List.flatten_append]
            show GridN H' _ g (_ ++ (nxt wd R ++ []))
            rw [List.append_nil]
            exact g6
        · obtain ⟨l5, l6, l7, rfl, e3, g3⟩ := hP
          rw [List.length_map, pl, List.take_of_length_le (Nat.le_refl _)] at g3
          exact hN _ _ ⟨_, _, _, rfl, e3, g3⟩
      obtain ⟨l5', l6', l7', rfl, e2, g2⟩ := hC
      walk_at "sx"
      exact ⟨g, _, _, _, _, _, rfl, e.trans e2, g2.back e⟩
    · obtain ⟨r, l3, l4, l5, l6, l7, rfl, e, gr⟩ := hP
      walk_at "sx"
      exact k r _ e gr
end
end LW

set_option Elab.async false
set_option linter.all false
set_option maxRecDepth 100000
set_option maxHeartbeats 4000000
namespace LW
open PySem PySem.Spec PyProof.Rows L2 BC Evl TR LN

open F58
local macro_rules | `(tactic| walk_at "sx") => `(tactic| try simp only [x_seq, x_next, x_brk, x_cnt, x_nev, x_ret, x_retN, x_drop, x_ifS, x_asg, x_gn, x_gsub, x_par, x_par3, x_aug, x_for, x_lc, x_rng1, x_rng2, x_rng3, x_ilist, x_itup, x_ienum, x_izip, x_izipA, x_istr, x_var, x_c, x_op, x_un, x_test, x_b, x_chain, x_and, x_or, x_not, x_andV, x_orV, x_notV, x_ife, x_nil, x_cons, x_lst, x_tup, x_cb, x_call, x_callK, x_bm, x_bm0, x_tru, x_sl, x_nopart, x_part, x_revL, x_I0, x_I, x_U, x_ip, x_ipC, x_eqI, x_neI, x_eqB, x_neB, x_eqS, x_neS, x_isB, x_isNB, x_lrg, x_rg1, x_rg2,
  L2.start, List.map_cons, List.map_nil, List.length_cons, List.length_nil, Nat.reduceAdd, Nat.reduceSub, Nat.sub_self, Nat.zero_add, List.replicate, List.replicate_succ, List.replicate_zero, List.append_nil, List.cons_append, List.nil_append, List.set_cons_zero, List.set_cons_succ, List.getElem?_cons_zero, List.getElem?_cons_succ, Option.some.injEq, V.int.injEq, V.bl.injEq, V.ref.injEq, V.str.injEq, List.cons.injEq, and_true, true_and, exists_eq_left', exists_eq_left, exists_and_left, exists_eq, if_true, if_false, ite_true, ite_false, Bool.true_eq_false, Bool.false_eq_true, reduceIte, reduceCtorEq, Bool.not_true, Bool.not_false, decide_true, decide_false, decide_eq_true_eq, Bool.and_true, Bool.true_and, Bool.and_self, Bool.and_false, Bool.false_and, Bool.or_self, Bool.or_false, Bool.false_or, Bool.or_true, Bool.true_or, eq_self])

section
variable {P : Program} {w : World} {K : PySem.W.Frag} {mg : Str → Option Value} {base : Heap}
theorem sh_ints2 {ns : List Int} (h : ns.length ≤ 100000) : Sh 2 (.list (ns.map PyData.int)) := .lst (by rw [List.length_map]; exact h) fun d hd => by
  obtain ⟨n, _, rfl⟩ := List.mem_map.mp hd
  exact .int 1 n
theorem sh_int (i : Int) : Sh 2 (.int i) := .int 2 i
def spHolds : Sp := fun vs H Q _ => ∃ (m t : Nat), vs = [.int m, .int t] ∧ 1 ≤ m ∧ m ≤ 5 ∧ t ≤ 7 ∧ ∀ H', Ex H H' → Q (.bl true) H'
def JH (H1 : Hp) (m t : Nat) (r : Addr) (i : Nat) (σ' : L2.St) (H' : Hp) : Prop := ∃ l3 l4 l5 l6 l7, σ' = [some (.int m), some (.int t), some (.ref r), l3, l4, l5, l6, l7] ∧ Ex H1 H'
theorem ok_law_holds (T : Txt K mg) : FnG P w K mg base CX0 6 T.f_law_holds T.fd_law_holds ["_law_wide", "_law_long"] spHolds := by
  refine fun_okN T.F_law_holds sc_law_holds (fun vs H Q E h => ?_) (fun cdv A outer s H vs Q E hG hr h => ?_)
  · obtain ⟨m, t, rfl, _⟩ := h
    rfl
  · obtain ⟨m, t, rfl, m1, m5, t7, k⟩ := h
    apply Exists.intro
    apply And.intro
    · apply pss_cons
      · exact (ps_set (i := 2) sc_law_holds.nd rfl (.inl rfl) (pe_call (ok_law_all T) (hr.mono (by decide)) (by rfl) T.m_law_all T.F_law_all.kp T.b_law_all .nil pass0 (pa_cons (pv 0) (pa_cons (pv 1) pa_nil))))
      apply pss_cons
      · apply ps_if
        · exact (pt_not (pt_val (pe_call (ok_law_equal T) (hr.mono (by decide)) (by rfl) T.m_law_equal T.F_law_equal.kp T.b_law_equal .nil pass0 (pa_cons (pe_lst (pa_cons (pe_call (ok_count_lengths T) (hr.mono (by decide)) (by rfl) T.m_count_lengths T.F_count_lengths.kp T.b_count_lengths .nil pass0 (pa_cons (pv 0) (pa_cons (pv 1) pa_nil))) (pa_cons (pe_callK0 (ok_count_lengths T) (hr.mono (by decide)) (by rfl) T.m_count_lengths T.F_count_lengths.kp T.k_count_lengths_0_1_0 pass0 (pk_cons (pv 1) (pk_cons (pv 0) pk_nil))) pa_nil))) (pa_cons (pe_op op_rep (pe_lst (pa_cons (pe_callB (k_len (K := K) rfl) (by rfl) T.n_len PySem.boot_len (pa_cons (pv 2) pa_nil)) pa_nil)) pe_int) pa_nil)))))
        · apply pss_one
          exact (ps_ret pe_bl)
        · exact pss_nil
      apply pss_cons
      · apply ps_for PassesOwn.never rfl
        · exact (k_pi_enum (K := K) rfl (by rfl) T.n_enumerate (pa_cons (pv 2) pa_nil))
        · exact (k_tup (K := K) (n := 2) rfl rfl (pgs_cons (pg_name (i := 4) sc_law_holds.nd rfl (.inl rfl)) (pgs_cons (pg_name (i := 5) sc_law_holds.nd rfl (.inl rfl)) pgs_nil)))
        · apply pss_cons
          · exact (ps_par (i := 6) (j := 7) (by rfl) sc_law_holds.nd rfl rfl (by decide) rfl rfl (pa_cons (pe_call (ok_nth_lengths T) (hr.mono (by decide)) (by rfl) T.m_nth_lengths T.F_nth_lengths.kp T.b_nth_lengths .nil pass0 (pa_cons (pv 0) (pa_cons (pv 1) (pa_cons (pv 4) pa_nil)))) (pa_cons (pe_callB (k_repr (K := K) rfl hG hr.units) (by rfl) T.n_repr (by decide +kernel) (pa_cons (pv 5) pa_nil)) pa_nil)) (by rfl))
          apply pss_cons
          · apply ps_if
            · exact (PW.pt (pw_or (pt_not (pt_val (pe_call (ok_law_equal T) (hr.mono (by decide)) (by rfl) T.m_law_equal T.F_law_equal.kp T.b_law_equal .nil pass0 (pa_cons (pv 6) (pa_cons (pv 5) pa_nil))))) (pw_or1 (pt_not (pt_val (pe_call (ok_law_equal T) (hr.mono (by decide)) (by rfl) T.m_law_equal T.F_law_equal.kp T.b_law_equal .nil pass0 (pa_cons (pe_call (ok_lengths_rank T) (hr.mono (by decide)) (by rfl) T.m_lengths_rank T.F_lengths_rank.kp T.b_lengths_rank .nil pass0 (pa_cons (pv 0) (pa_cons (pv 6) pa_nil))) (pa_cons (pv 4) pa_nil))))))))
            · apply pss_one
              exact (ps_ret pe_bl)
            · exact pss_nil
          apply pss_cons
          · exact (ps_expr (k_bm (K := K) rfl (pe_bm PySem.F.plainAttrs_list PySem.F.slot_list_append PySem.F.type_list_append mt_append (pv 6) (pa_cons pe_non pa_nil))))
          apply pss_cons
          · exact (ps_expr (k_bm0 (K := K) rfl (pe_bm0 PySem.F.plainAttrs_list PySem.F.slot_list_reverse PySem.F.type_list_reverse mt_reverse (pv 6))))
          apply pss_cons
          · apply ps_if
            · exact (PW.pt (pw_and (pt_cmpR op_lt (pv 4) pe_int (by rfl)) (pw_and1 (pt_not (pt_val (pe_call (ok_law_equal T) (hr.mono (by decide)) (by rfl) T.m_law_equal T.F_law_equal.kp T.b_law_equal .nil pass0 (pa_cons (pe_callK0 (ok_nth_lengths T) (hr.mono (by decide)) (by rfl) T.m_nth_lengths T.F_nth_lengths.kp T.k_nth_lengths_0_2_1_0 pass0 (pk_cons (pv 4) (pk_cons (pv 1) (pk_cons (pv 0) pk_nil)))) (pa_cons (pv 5) pa_nil))))))))
            · apply pss_one
              exact (ps_ret pe_bl)
            · exact pss_nil
          apply pss_one
          apply ps_if
          · exact (PW.pt (pw_or (PW.pt (pw_and (pt_cmpR op_lt (pv 4) pe_int (by rfl)) (pw_and1 (pt_not (pt_val (pe_call (ok_law_equal T) (hr.mono (by decide)) (by rfl) T.m_law_equal T.F_law_equal.kp T.b_law_equal .nil pass0 (pa_cons (pe_callK0 (ok_lengths_rank T) (hr.mono (by decide)) (by rfl) T.m_lengths_rank T.F_lengths_rank.kp T.k_lengths_rank_0_1_0 pass0 (pk_cons (pv 5) (pk_cons (pv 0) pk_nil))) (pa_cons (pv 4) pa_nil)))))))) (pw_or1 (pt_cmpR op_ne (pe_callB (k_repr (K := K) rfl hG hr.units) (by rfl) T.n_repr (by decide +kernel) (pa_cons (pv 5) pa_nil)) (pv 7) (by rfl)))))
          · apply pss_one
            exact (ps_ret pe_bl)
          · exact pss_nil
      apply pss_cons
      · apply ps_if
        · exact (PW.pt (pw_or (pt_cmpR op_gt (pv 1) pe_int (by rfl)) (pw_or1 (pt_cmpR op_gt (pv 0) pe_int (by rfl)))))
        · apply pss_one
          exact (ps_ret pe_bl)
        · exact pss_nil
      apply pss_cons
      · exact (ps_setLc (i := 3) (own := [("_law_row", 5)]) rfl sc_law_holds.nd rfl rfl (sw_true rfl rfl rfl (by decide +kernel)) (k_pi_list (K := K) rfl (pe_call (ok_law_lists T) (hr.mono (by decide)) (by rfl) T.m_law_lists T.F_law_lists.kp T.b_law_lists .nil pass0 (pa_cons (pv 0) (pa_cons (pv 1) pa_nil)))) (blkOk_by (own := [("_law_row", 5)]) (N := ["_law_wide", "_law_long", "_law_due", "_law_every", "_law_number", "_law_row", "_law_told", "_law_kept"]) (sc := defScope s_law_holds) (by decide +kernel)) (fun _ _ _ _ _ => by exact (pg_name (i := 5) sc_law_holds.nd rfl (.inl rfl))) (fun _ _ _ _ _ => by exact pts_nil) (fun _ _ _ _ _ => by exact (pe_callTy (k_tupOf (K := K) rfl) (by rfl) T.n_tuple (by decide +kernel) (pa_cons (pe_call (ok_lengths_of T) (hr.mono (by decide)) (by rfl) T.m_lengths_of T.F_lengths_of.kp T.b_lengths_of .nil pass0 (pa_cons (pv 5) pa_nil)) pa_nil))))
      apply pss_one
      exact (ps_ret (pe_cmpR (k_eqD (K := K) rfl hr.units) (pe_callB (k_sortedU (K := K) (P := P) (w := w) rfl rfl rfl rfl) (by rfl) T.n_sorted (by decide +kernel) (pa_cons (pe_callTy (k_setOfU (K := K) (P := P) (w := w) rfl rfl rfl rfl hr.units) (by rfl) T.n_set (by decide +kernel) (pa_cons (pv 3) pa_nil)) pa_nil)) (pe_lc (own := [("_law_row", 5)]) rfl sc_law_holds.nd (k_pi_list (K := K) rfl (pv 2)) (blkOk_by (own := [("_law_row", 5)]) (N := ["_law_wide", "_law_long", "_law_due", "_law_every", "_law_number", "_law_row", "_law_told", "_law_kept"]) (sc := defScope s_law_holds) (by decide +kernel)) (fun _ _ _ _ _ => by exact (pg_name (i := 5) sc_law_holds.nd rfl (.inl rfl))) (fun _ _ _ _ _ => by exact pts_nil) (fun _ _ _ _ _ => by exact (pe_callTy (k_tupOf (K := K) rfl) (by rfl) T.n_tuple (by decide +kernel) (pa_cons (pv 5) pa_nil)))) (by rfl)))
    obtain ⟨ln, many⟩ := all_many m1 m5 t7
    refine seq_asg (fun v H1 => ∃ r, v = .ref r ∧ Ex H H1 ∧ GridN H H1 r (all m t)) (fun R hR => ?_) (fun v H1 hC => ?_)
    · walk_at "sx"
      exact ⟨m, t, rfl, m1, m5, t7, fun r H1 e1 g => hR _ _ ⟨r, rfl, e1, g⟩⟩
    obtain ⟨r, rfl, e1, gr⟩ := hC
    obtain ⟨ps, hr, pl, hrow⟩ := gr.at
    refine seq_cut (fun σ' H' => σ' = [some (.int m), some (.int t), some (.ref r), none, none, none, none, none] ∧ Ex H1 H') (fun N hN => ?_) (fun σ2 H2 hC => ?_)
    · walk_at "sx"
      refine ⟨m, t, rfl, m1, by omega, by omega, fun H3 e3 => ?_⟩
      refine ⟨m, t, rfl, m1, by omega, by omega, fun H4 e4 => ?_⟩
      refine ⟨sz_ok (by simp), fun u nu => ?_⟩
      have eu := Ex.new nu (o := .lst [V.int (W m t 0), V.int (W m t 0)])
      refine lenL (.inl (.inl (eu _ _ (e4 _ _ (e3 _ _ hr))))) ?_
      refine ⟨sz_ok (by simp), fun z nz1 => ?_⟩
      have ez := Ex.new nz1 (o := .lst [V.int (((ps.map V.ref).length : Nat) : Int)])
      refine repL upd_same (by omega) (by omega) (sz_ok (by simp)) fun y ny => ?_
      have ey := Ex.new ny (o := .lst (List.replicate (2 : Int).toNat [V.int (((ps.map V.ref).length : Nat) : Int)]).flatten)
      refine ⟨.ref u, .ref y, .list ([W m t 0, W m t 0].map PyData.int), rfl, .lst (.inl (.inl (ey _ _ (ez _ _ upd_same)))) (dp_ints [W m t 0, W m t 0]), ?_, sh_ints2 (by simp), fun H5 e5 => ⟨true, rfl, ?_⟩⟩
      · have er : (List.replicate (2 : Int).toNat [V.int (((ps.map V.ref).length : Nat) : Int)]).flatten = ([W m t 0, W m t 0].map V.int) := by rw [List.length_map, pl, ← ln]; rfl
        refine .lst (.inl (.inl ?_)) (dp_ints [W m t 0, W m t 0])
        rw [upd_same, er]
      walk_at "sx"
      exact hN _ _ ⟨rfl, (((e3.trans e4).trans eu).trans (ez.trans ey)).trans e5⟩
    obtain ⟨rfl, e2⟩ := hC
    have hr2 := e2 _ _ hr
    refine seq_cut (fun σ' H' => JH H2 m t r 0 σ' H') (fun N hN => ?_) (fun σ3 H3 hC => ?_)
    · walk_at "sx"
      refine ⟨_, .inl (.inl hr2), ?_⟩
      refine lg_enum (xs := ps.map V.ref) (JH H2 m t r) ⟨none, none, none, none, none, rfl, Ex.refl H2⟩ (fun i σ' H' hi hP => by obtain ⟨_, _, _, _, _, _, e⟩ := hP; exact .inl (.inl (e _ _ hr2))) (fun i x σ' H' T hx' hP nT => ?_) (fun σ' H' hP => ?_)
      · obtain ⟨l3, l4, l5, l6, l7, rfl, e⟩ := hP
        obtain ⟨q, hq, rfl⟩ : ∃ q, ps[i]? = some q ∧ x = .ref q := by
          rw [List.getElem?_map] at hx'
          cases y : ps[i]? with
          | none => rw [y] at hx'; cases hx'
          | some q => rw [y] at hx'; cases hx'; exact ⟨q, rfl, rfl⟩
        have hi := (List.getElem?_eq_some_iff.mp hq).1
        have hat : (all m t)[i]? = some (row (all m t) i) := at_row (by omega)
        obtain ⟨ok, lt', rk⟩ := all_at m1 m5 t7 hat
        have hqj := e2 _ _ (hrow i q hq)
        generalize row (all m t) i = L at hat ok lt' rk hqj
        have eT := Ex.new nT (o := .tup [V.int i, V.ref q])
        have hq1 := eT _ _ (e _ _ hqj)
        refine g_two upd_same ?_
        walk_at "sx"
        have e5 := e.trans eT
        have small : ∀ n ∈ nz L, n.natAbs < 10 ^ 12 := fun n hn => by
          obtain ⟨x, hx, rfl⟩ := List.mem_map.mp hn
          have := (ok_at ok x hx).2
          omega
        refine ⟨m, t, L, by rw [rk], m1, by omega, by omega, ok, lt', fun f H6 nf e6 hf => ?_⟩
        have hq6 := e6 _ _ hq1
        refine reprInts (.inl (.inl hq6)) small (by rw [nz_len]; omega) ?_
        refine ⟨_, _, ⟨rfl, rfl⟩, ?_⟩
        refine ⟨.ref f, .ref q, .list ((nz L).map PyData.int), rfl, .lst (.inl (.inl hf)) (dp_ints _), .lst (.inl (.inl hq6)) (dp_ints _), sh_ints2 (by rw [nz_len]; omega), fun H7 e7 => ⟨true, rfl, ?_⟩⟩
        walk_at "sx"
        refine ⟨m, f, L, rfl, m1, by omega, .inl (.inl (e7 _ _ hf)), by omega, ok, fun H8 e8 => ?_⟩
        rw [rk]
        refine ⟨_, _, .int (i : Int), rfl, .int _, .int _, sh_int _, fun H9 e9 => ⟨true, rfl, ?_⟩⟩
        have e79 := (e7.trans e8).trans e9
        have hf9 := e79 _ _ hf
        walk_at "sx"
        refine ⟨tyL hf9, appL hf9 (BC.sz_lt (by rw [List.length_map, nz_len]; omega)) ?_⟩
        refine ⟨tyL upd_same, revL upd_same ?_⟩
        generalize hHa : upd (upd H9 f (.lst ((nz L).map V.int ++ [V.non]))) f (.lst ((nz L).map V.int ++ [V.non]).reverse) = Ha
        have ea : Ex (upd H' T (.tup [V.int i, V.ref q])) Ha := by rw [← hHa]; exact ((e6.trans e79).mut nf).mut nf
        have hqa := ea _ _ hq1
        have e5a := e5.trans ea
        by_cases lt9 : (i : Int) < 9
        · simp only [lt9]
          walk_at "sx"
          refine ⟨m, t, L, by rw [rk]; rfl, m1, by omega, by omega, ok, lt', fun f2 Hb nf2 eb hf2 => ?_⟩
          have hqb := eb _ _ hqa
          refine ⟨.ref f2, .ref q, .list ((nz L).map PyData.int), rfl, .lst (.inl (.inl hf2)) (dp_ints _), .lst (.inl (.inl hqb)) (dp_ints _), sh_ints2 (by rw [nz_len]; omega), fun Hc ec => ⟨true, rfl, ?_⟩⟩
          walk_at "sx"
          refine ⟨m, q, L, rfl, m1, by omega, .inl (.inl (ec _ _ hqb)), by omega, ok, fun Hd ed => ?_⟩
          rw [rk]
          refine ⟨_, _, .int (i : Int), rfl, .int _, .int _, sh_int _, fun He ee => ⟨true, rfl, ?_⟩⟩
          walk_at "sx"
          refine reprInts (.inl (.inl ((ec.trans (ed.trans ee)) _ _ hqb))) small (by rw [nz_len]; omega) ?_
          walk_at "sx"
          exact ⟨_, _, _, _, _, rfl, e5a.trans ((eb.trans ec).trans (ed.trans ee))⟩
        · simp only [lt9]
          walk_at "sx"
          refine reprInts (.inl (.inl hqa)) small (by rw [nz_len]; omega) ?_
          walk_at "sx"
          exact ⟨_, _, _, _, _, rfl, e5a⟩
      · obtain ⟨l3, l4, l5, l6, l7, rfl, e⟩ := hP
        exact hN _ _ ⟨_, _, _, _, _, rfl, e⟩
    obtain ⟨l3, l4, l5, l6, l7, rfl, e3⟩ := hC
    have E := (e1.trans e2).trans e3
    have hr3 := e3 _ _ hr2
    walk_at "sx"
    by_cases c1 : (5 : Int) < t
    · rw [if_pos c1]
      exact k _ E
    rw [if_neg c1]
    by_cases c2 : (4 : Int) < m
    · rw [if_pos c2]
      exact k _ E
    rw [if_neg c2]
    have m4 : m ≤ 4 := by omega
    have t5 : t ≤ 5 := by omega
    have pow : m ^ t ≤ 2000 := Nat.le_trans (Nat.pow_le_pow_left m4 t) (Nat.le_trans (Nat.pow_le_pow_right (by omega) t5) (by decide))
    refine ⟨m, t, rfl, m1, by omega, pow, fun g H4 e4 gg => ?_⟩
    obtain ⟨qs, hg, ql, hqs⟩ := gg.at
    refine ⟨g, rfl, ⟨_, .inl (.inl hg)⟩, fun D nD => ?_⟩
    have eD := Ex.new nD (o := .lst [])
    have rl := rows_len m t
    refine lc_listE (xs := qs.map V.ref) (fun i Hi => Ex H4 Hi ∧ ∃ ks, TupsAt Hi D ks ∧ ks.map (·.2) = ((rows m t).take i).map fun R => lens (nz R)) ⟨eD, [], ⟨upd_same, fun p hp => by cases hp⟩, rfl⟩ (fun i Hi _ h => .inl (.inl (h.1 _ _ hg))) (fun i x Hi hx h => ?_) (fun Hi h => ?_)
    · obtain ⟨ei, ks, ht, hk⟩ := h
      obtain ⟨q, hq, rfl⟩ : ∃ q, qs[i]? = some q ∧ x = .ref q := by
        rw [List.getElem?_map] at hx
        cases y : qs[i]? with
        | none => rw [y] at hx; cases hx
        | some q => rw [y] at hx; cases hx; exact ⟨q, rfl, rfl⟩
      have hi := (List.getElem?_eq_some_iff.mp hq).1
      have hat : (rows m t)[i]? = some (row (rows m t) i) := at_row (by omega)
      have htk : (rows m t).take (i + 1) = (rows m t).take i ++ [row (rows m t) i] := by rw [List.take_add_one, hat]; rfl
      have lt2 := rows_lt m t _ (List.mem_of_getElem? hat)
      have hqi := ei _ _ (hqs i q hq)
      generalize row (rows m t) i = R at htk lt2 hqi
      refine ⟨by rfl, ?_⟩
      simp only [wipe, List.set_cons_zero, List.set_cons_succ]
      walk_at "sx"
      refine ⟨q, nz R, rfl, .inl (.inl hqi), by rw [nz_len]; omega, fun n hn => ?_, fun f H6 nf e6 hf => ?_⟩
      · obtain ⟨x, hx, rfl⟩ := List.mem_map.mp hn
        have := lt2.1 x hx
        omega
      · refine ⟨f, _, rfl, .inl ⟨.inl (.inl hf), fun p np => ?_⟩⟩
        have e7 := e6.trans (Ex.new np (o := .tup ((lens (nz R)).map V.int)))
        obtain ⟨h1, h2⟩ := ht.push e7 (p := p) (ns := lens (nz R)) upd_same
        refine ⟨_, h1, BC.sz_lt (by
          have := congrArg List.length hk
          rw [List.length_map, List.length_map, List.length_take] at this
          rw [List.length_map]
          omega), (ei.trans e7).mut nD, ks ++ [(p, lens (nz R))], h2, ?_⟩
        rw [htk, List.map_append, List.map_append, hk]
        rfl
    obtain ⟨e5, ks, ht, hk⟩ := h
    rw [List.length_map, ql, List.take_of_length_le (Nat.le_refl _)] at hk
    obtain ⟨k1, k2⟩ := keys_of m1 m4 t5
    obtain ⟨b1, b2⟩ := keys_bd m1 m4 t5
    have inA : ∀ p ∈ ks, p.2 ∈ (all m t).map nz := fun p hp => by
      have : p.2 ∈ ks.map (·.2) := List.mem_map.mpr ⟨p, hp, rfl⟩
      rw [hk] at this
      obtain ⟨R, hR, e⟩ := List.mem_map.mp this
      rw [← e]
      exact k1 R hR
    have few : ∀ L : List (Addr × List Int), (∀ p ∈ L, p ∈ ks) → (L.map (·.2)).Nodup → L.length ≤ (all m t).length := fun L sub nd => by
      have := nodup_leL (m := (all m t).map nz) nd fun x hx => by
        obtain ⟨p, hp, rfl⟩ := List.mem_map.mp hx
        exact inA p (sub p hp)
      rwa [List.length_map, List.length_map] at this
    refine ⟨D, ks, rfl, .inl (.inl ht.1), fun p hp => .inl (.inl (ht.2 p hp)), fun L sub nd => by have := few L sub nd; omega, fun a L na sub every nd => ?_⟩
    have ea := Ex.new na (o := SetTO P w a L)
    have ht2 := ht.ex ea
    have keysP : (L.map (·.2)).Perm ((all m t).map nz) := (List.perm_ext_iff_of_nodup nd (keys_nodup m1 m4 t5)).mpr fun x => by
      constructor
      · intro hx
        obtain ⟨p, hp, rfl⟩ := List.mem_map.mp hx
        exact inA p (sub p hp)
      · intro hx
        obtain ⟨R, hR, rfl⟩ := k2 x hx
        have : lens (nz R) ∈ ks.map (·.2) := by rw [hk]; exact List.mem_map.mpr ⟨R, hR, rfl⟩
        obtain ⟨p, hp, e⟩ := List.mem_map.mp this
        rw [← e]
        exact every p hp
    have end_ : ∀ (p : Addr) (L' : List (Addr × List Int)), (upd Hi a (SetTO P w a L)) p = none → (∀ q ∈ L', q ∈ ks) → L'.map (·.2) = (all m t).map nz → (∃ xs, SqL K (upd (upd Hi a (SetTO P w a L)) p (.lst (L'.map fun q => V.ref q.1))) r xs) ∧ ∀ (Dl : Addr), (upd (upd Hi a (SetTO P w a L)) p (.lst (L'.map fun q => V.ref q.1))) Dl = none →
        LcG (Itl K r) (gName 5) tYes (tCB (rTupOf K) (tCons (tVar 5) tNil)) [5] [some (V.int m), some (V.int t), some (V.ref r), some (V.ref D), l4, l5, l6, l7] Dl (upd (upd Hi a (SetTO P w a L)) p (.lst (L'.map fun q => V.ref q.1))) fun y H2 => rEqD K (V.ref p) y H2 Q := by
      intro p L' np sub' hkeys
      have ep := Ex.new np (o := .lst (L'.map fun q => V.ref q.1))
      have hp : TupsAt (upd (upd Hi a (SetTO P w a L)) p (.lst (L'.map fun q => V.ref q.1))) p L' := ⟨upd_same, fun q hq => (ht2.ex ep).2 q (sub' q hq)⟩
      generalize upd (upd Hi a (SetTO P w a L)) p (.lst (L'.map fun q => V.ref q.1)) = G at hp ep ⊢
      have e6 := ((e4.trans e5).trans ea).trans ep
      have hrG := e6 _ _ hr3
      refine ⟨⟨_, .inl (.inl hrG)⟩, fun D2 nD2 => ?_⟩
      have eD2 := Ex.new nD2 (o := .lst [])
      refine lc_listE (xs := ps.map V.ref) (fun i Hj => Ex G Hj ∧ ∃ ls, TupsAt Hj D2 ls ∧ ls.map (·.2) = ((all m t).take i).map nz) ⟨eD2, [], ⟨upd_same, fun p hp => by cases hp⟩, rfl⟩ (fun i Hj _ h => .inl (.inl (h.1 _ _ hrG))) (fun i x Hj hx h => ?_) (fun Hj h => ?_)
      · obtain ⟨ei, ls, hl, hkl⟩ := h
        obtain ⟨q, hq, rfl⟩ : ∃ q, ps[i]? = some q ∧ x = .ref q := by
          rw [List.getElem?_map] at hx
          cases y : ps[i]? with
          | none => rw [y] at hx; cases hx
          | some q => rw [y] at hx; cases hx; exact ⟨q, rfl, rfl⟩
        have hi := (List.getElem?_eq_some_iff.mp hq).1
        have hat : (all m t)[i]? = some (row (all m t) i) := at_row (by omega)
        have htk : (all m t).take (i + 1) = (all m t).take i ++ [row (all m t) i] := by rw [List.take_add_one, hat]; rfl
        have hqi := ei _ _ (e6 _ _ (e3 _ _ (e2 _ _ (hrow i q hq))))
        generalize row (all m t) i = R at htk hqi
        refine ⟨by rfl, ?_⟩
        simp only [wipe, List.set_cons_zero, List.set_cons_succ]
        walk_at "sx"
        refine ⟨q, _, rfl, .inl ⟨.inl (.inl hqi), fun y ny => ?_⟩⟩
        have e7 := Ex.new ny (o := .tup ((nz R).map V.int))
        obtain ⟨h1, h2⟩ := hl.push e7 (p := y) (ns := nz R) upd_same
        refine ⟨_, h1, BC.sz_lt (by
          have := congrArg List.length hkl
          rw [List.length_map, List.length_map, List.length_take] at this
          rw [List.length_map]
          omega), (ei.trans e7).mut nD2, ls ++ [(y, nz R)], h2, ?_⟩
        rw [htk, List.map_append, List.map_append, hkl]
        rfl
      · obtain ⟨e7, ls, hl, hkl⟩ := h
        rw [List.length_map, pl, List.take_of_length_le (Nat.le_refl _)] at hkl
        refine eqTups (hp.ex e7) hl (hkeys.trans hkl.symm) ?_
        exact k _ (E.trans (e6.trans e7))
    have sqt : ∀ q ∈ L, SqT K (upd Hi a (SetTO P w a L)) q.1 (q.2.map V.int) := fun q hq => .inl (.inl (ht2.2 q (sub q hq)))
    by_cases t0 : t = 0
    · subst t0
      have kl : (L.map (·.2)) = (all m 0).map nz := List.perm_singleton.mp keysP
      have l1 : L.length ≤ 1 := by
        have := congrArg List.length kl
        rw [List.length_map] at this
        have e9 : ((all m 0).map nz).length = 1 := rfl
        omega
      exact .inr ⟨a, L, rfl, upd_same, sqt, l1, fun p np => end_ p L np sub kl⟩
    · refine .inl ⟨a, L, t, 64, rfl, upd_same, sqt, by omega, fun q hq => ?_, fun L' p pm nd' _ pw np => end_ p L' np (fun q hq => sub q (pm.mem_iff.mp hq)) ?_⟩
      · obtain ⟨A, hA, e⟩ := List.mem_map.mp (inA q (sub q hq))
        obtain ⟨i, hi, rfl⟩ := List.getElem_of_mem hA
        have := (all_at m1 m5 t7 (List.getElem?_eq_getElem hi)).2.1
        rw [← e]
        exact ⟨by rw [nz_len]; exact this, b1 _ (List.getElem_mem hi)⟩
      · refine perm_asc (f := TS.code 64) (keys_asc m1 m4 t5) ?_ ((pm.map (·.2)).trans keysP)
        exact List.pairwise_map.mpr pw
end
end LW

set_option Elab.async false
set_option linter.all false
set_option maxRecDepth 100000
set_option maxHeartbeats 4000000
namespace LW
open PySem PySem.Spec PyProof.Rows L2 BC Evl TR LN

open F58
local macro_rules | `(tactic| walk_at "sx") => `(tactic| try simp only [x_seq, x_next, x_brk, x_cnt, x_nev, x_ret, x_retN, x_drop, x_ifS, x_asg, x_gn, x_gsub, x_par, x_par3, x_aug, x_for, x_lc, x_rng1, x_rng2, x_rng3, x_ilist, x_itup, x_ienum, x_izip, x_izipA, x_istr, x_var, x_c, x_op, x_un, x_test, x_b, x_chain, x_and, x_or, x_not, x_andV, x_orV, x_notV, x_ife, x_nil, x_cons, x_lst, x_tup, x_cb, x_call, x_callK, x_bm, x_bm0, x_tru, x_sl, x_nopart, x_part, x_revL, x_I0, x_I, x_U, x_ip, x_ipC, x_eqI, x_neI, x_eqB, x_neB, x_eqS, x_neS, x_isB, x_isNB, x_lrg, x_rg1, x_rg2,
  L2.start, List.map_cons, List.map_nil, List.length_cons, List.length_nil, Nat.reduceAdd, Nat.reduceSub, Nat.sub_self, Nat.zero_add, List.replicate, List.replicate_succ, List.replicate_zero, List.append_nil, List.cons_append, List.nil_append, List.set_cons_zero, List.set_cons_succ, List.getElem?_cons_zero, List.getElem?_cons_succ, Option.some.injEq, V.int.injEq, V.bl.injEq, V.ref.injEq, V.str.injEq, List.cons.injEq, and_true, true_and, exists_eq_left', exists_eq_left, exists_and_left, exists_eq, if_true, if_false, ite_true, ite_false, Bool.true_eq_false, Bool.false_eq_true, reduceIte, reduceCtorEq, Bool.not_true, Bool.not_false, decide_true, decide_false, decide_eq_true_eq, Bool.and_true, Bool.true_and, Bool.and_self, Bool.and_false, Bool.false_and, Bool.or_self, Bool.or_false, Bool.false_or, Bool.or_true, Bool.true_or, eq_self])

section
variable {P : Program} {w : World} {K : PySem.W.Frag} {mg : Str → Option Value} {base : Heap}
def spLaw (K : PySem.W.Frag) : Sp := fun vs H Q _ => ∃ (a : Addr) (ns : List Int), vs = [.ref a] ∧ SqL K H a (ns.map V.int) ∧ ns.length ≤ 63 ∧ ∀ H', Q (.bl true) H'
def JO (H1 : Hp) (a : Addr) (i : Nat) (σ' : L2.St) (H' : Hp) : Prop := ∃ l1 l2 l3 l4 l5 l6, σ' = [some (.ref a), l1, l2, l3, l4, l5, l6] ∧ Ex H1 H'
def JT (H1 : Hp) (a b : Addr) (l1 l2 : Option V) (bb : Bool) (i : Nat) (σ' : L2.St) (H' : Hp) : Prop := ∃ l5 l6, σ' = [some (.ref a), l1, l2, some (.ref b), some (.bl bb), l5, l6] ∧ Fx b H1 H' ∧ BagAt H' b (2 * i)
theorem ok_law (T : Txt K mg) : FnG P w K mg base CX0 7 T.f_law T.fd_law ["_law_script"] (spLaw K) := by
  refine fun_okN T.F_law sc_law (fun vs H Q E h => ?_) (fun cdv A outer s H vs Q E hG hr h => ?_)
  · obtain ⟨a, ns, rfl, _⟩ := h
    rfl
  · obtain ⟨a, ns, rfl, hA, hn, k⟩ := h
    apply Exists.intro
    apply And.intro
    · apply pss_cons
      · apply ps_for PassesOwn.never rfl
        · exact (k_pi_enum (K := K) rfl (by rfl) T.n_enumerate (pa_cons (pe_op op_cat (pe_slice (k_sl_list (K := K) rfl) (pv 0) po_none (po_some pe_int)) (pe_lst (pa_cons pe_int pa_nil))) pa_nil))
        · exact (k_tup (K := K) (n := 2) rfl rfl (pgs_cons (pg_name (i := 1) sc_law.nd rfl (.inl rfl)) (pgs_cons (pg_name (i := 2) sc_law.nd rfl (.inl rfl)) pgs_nil)))
        · apply pss_cons
          · exact (ps_set (i := 3) sc_law.nd rfl (.inl rfl) (pe_call (ok_law_bag T) (hr.mono (by decide)) (by rfl) T.m_law_bag T.F_law_bag.kp T.b_law_bag .nil pass0 (pa_cons (pv 2) pa_nil)))
          apply pss_cons
          · exact (ps_set (i := 4) sc_law.nd rfl (.inl rfl) (pe_cmpR op_eq (pv 1) (pe_callB (k_len (K := K) rfl) (by rfl) T.n_len PySem.boot_len (pa_cons (pe_slice (k_sl_list (K := K) rfl) (pv 0) po_none (po_some pe_int)) pa_nil)) (by rfl)))
          apply pss_one
          apply ps_for PassesOwn.never rfl
          · exact (pi_range1 (by rfl) T.n_range (pa_cons (pe_ifExp (pt_val (pv 4)) pe_int pe_int) pa_nil))
          · exact (pg_name (i := 5) sc_law.nd rfl (.inl rfl))
          · apply pss_cons
            · exact (ps_set (i := 6) sc_law.nd rfl (.inl rfl) (pe_op op_add pe_int (pe_call (ok_law_draw T) (hr.mono (by decide)) (by rfl) T.m_law_draw T.F_law_draw.kp T.b_law_draw .nil pass0 (pa_cons (pv 3) (pa_cons (pe_ifExp (pt_val (pv 4)) pe_int pe_int) pa_nil)))))
            apply pss_one
            apply ps_if
            · exact (pt_not (pt_val (pe_callG (ok_law_holds T) hG (hr.mono (by decide)) (by rfl) T.m_law_holds T.F_law_holds.kp T.b_law_holds .nil pass0 (pa_cons (pv 6) (pa_cons (pe_call (ok_law_draw T) (hr.mono (by decide)) (by rfl) T.m_law_draw T.F_law_draw.kp T.b_law_draw .nil pass0 (pa_cons (pv 3) (pa_cons (pe_ifExp (pt_val (pv 4)) pe_int pe_int) pa_nil))) pa_nil)))))
            · apply pss_one
              exact (ps_ret pe_bl)
            · exact pss_nil
      apply pss_one
      exact (ps_ret (pe_and (pe_cmpR op_eq (pe_call (ok_count_lengths T) (hr.mono (by decide)) (by rfl) T.m_count_lengths T.F_count_lengths.kp T.b_count_lengths .nil pass0 (pa_cons pe_int (pa_cons pe_int pa_nil))) pe_int (by rfl)) (pe_and (pe_cmpR (k_eqD (K := K) rfl hr.units) (pe_call (ok_nth_lengths T) (hr.mono (by decide)) (by rfl) T.m_nth_lengths T.F_nth_lengths.kp T.b_nth_lengths .nil pass0 (pa_cons pe_int (pa_cons pe_int (pa_cons pe_int pa_nil)))) (pe_lst pa_nil) (by rfl)) (pe_one (pe_cmpR op_eq (pe_call (ok_lengths_rank T) (hr.mono (by decide)) (by rfl) T.m_lengths_rank T.F_lengths_rank.kp T.b_lengths_rank .nil pass0 (pa_cons pe_int (pa_cons (pe_lst pa_nil) pa_nil))) pe_int (by rfl))))))
    walk_at "sx"
    refine slL hA fun c1 n1 => ?_
    refine ⟨sz_ok (by omega), fun c2 n2 => ?_⟩
    have x1 : Ex H (upd H c1 (.lst (cutV (ns.map V.int) none (some 5)))) := Ex.new n1
    have x2 := Ex.new n2 (o := .lst [V.int 0])
    have hl4 : (cutV (ns.map V.int) none (some 5)).length ≤ 63 := Nat.le_trans (cutV_len _ _ _) (by rw [List.length_map]; exact hn)
    refine catL (x2 _ _ upd_same) upd_same (sz_ok (by rw [List.length_cons, List.length_nil]; omega)) fun L nL => ?_
    walk_at "sx"
    refine ⟨_, .inl (.inl upd_same), ?_⟩
    have x3 := (x1.trans x2).trans (Ex.new nL (o := .lst (cutV (ns.map V.int) none (some 5) ++ [V.int 0])))
    generalize hH1 : (upd (upd (upd H c1 (.lst (cutV (ns.map V.int) none (some 5)))) c2 (.lst [V.int 0])) L (.lst (cutV (ns.map V.int) none (some 5) ++ [V.int 0]))) = H1 at x3 ⊢
    have hL : H1 L = some (.lst (cutV (ns.map V.int) none (some 5) ++ [V.int 0])) := by rw [← hH1]; exact upd_same
    have hA1 : SqL K H1 a (ns.map V.int) := ex_l x3 hA
    refine lg_enum (xs := cutV (ns.map V.int) none (some 5) ++ [V.int 0]) (JO H1 a) ⟨none, none, none, none, none, none, rfl, Ex.refl H1⟩ (fun i σ' H' hi hP => by obtain ⟨_, _, _, _, _, _, _, e⟩ := hP; exact .inl (.inl (e _ _ hL)))
      (fun i x σ' H' T hx hP nT => ?_) (fun σ' H' hP => ?_)
    · obtain ⟨l1, l2, l3, l4, l5, l6, rfl, e⟩ := hP
      obtain ⟨n, rfl⟩ : ∃ n, x = .int n := by
        have := List.mem_of_getElem? hx
        rcases List.mem_append.mp this with h | h
        · obtain ⟨n, _, e⟩ := List.mem_map.mp (cutV_mem h)
          exact ⟨n, e.symm⟩
        · exact ⟨0, List.mem_singleton.mp h⟩
      refine g_two upd_same ?_
      walk_at "sx"
      have e1 := e.trans (Ex.new nT (o := .tup [V.int i, V.int n]))
      refine ⟨n, rfl, fun b H2 nb e2 hb => ?_⟩
      walk_at "sx"
      have e3 := e1.trans e2
      refine slL (ex_l e3 hA1) fun z nz => ?_
      refine lenL (.inl (.inl upd_same)) ?_
      have e4 := Ex.new nz (o := .lst (cutV (ns.map V.int) none (some 5)))
      have hb4 := hb.ex e4
      generalize (upd H2 z (.lst (cutV (ns.map V.int) none (some 5)))) = H4 at e4 hb4 ⊢
      generalize (((cutV (ns.map V.int) none (some 5)).length : Nat) : Int) = lv
      have nbH : H' b = none := fresh_back (Ex.new nT) nb
      walk_at "sx"
      have fin : ∀ (bb : Bool) (Hx : Hp) (l5 l6 : Option V), Fx b H4 Hx → JO H1 a (i + 1) [some (.ref a), some (.int i), some (.int n), some (.ref b), some (.bl bb), l5, l6] Hx := fun bb Hx l5 l6 f5 =>
        ⟨_, _, _, _, _, _, rfl, e.trans ((((Fx.of (Ex.new nT)).trans (Fx.of e2)).trans ((Fx.of e4).trans f5)).ex nbH)⟩
      obtain ⟨bb, hbb⟩ : ∃ bb, decide ((i : Int) = lv) = bb := ⟨_, rfl⟩
      have hc : ((i : Int) = lv) = (bb = true) := by rw [← hbb]; simp
      simp only [hc, Bool.decide_eq_true]
      clear hc hbb
      cases bb with
      | true =>
        walk_at "sx"
        refine ⟨by omega, by omega, ?_⟩
        refine lg_rng (JT H4 a b (some (.int i)) (some (.int n)) true) ⟨_, _, rfl, Fx.refl _ _, hb4⟩ (fun j σ' H' hj hP => ?_) (fun σ' H' hP => ?_)
        · obtain ⟨l5, l6, rfl, fx, hB⟩ := hP
          have hj1 : j < 1 := hj
          simp only [x_gn, List.set_cons_zero, List.set_cons_succ]
          refine seq_asg (fun v H5 => ∃ wd : Nat, v = .int wd ∧ 1 ≤ wd ∧ wd ≤ 3 ∧ Fx b H' H5 ∧ BagAt H5 b (2 * j + 1)) (fun R hR => ?_) (fun v H5 hC => ?_)
          · walk_at "sx"
            refine ⟨b, _, _, rfl, by omega, big_of (by omega), hB, by omega, fun r1 H5 r10 r11 f5 b5 => ?_⟩
            refine x_I0.mpr ?_
            exact hR _ _ ⟨(1 + r1).toNat, by rw [Int.toNat_of_nonneg (by omega)], by omega, by omega, f5, b5⟩
          obtain ⟨wd, rfl, w1, w3, f5, b5⟩ := hC
          walk_at "sx"
          refine ⟨b, _, _, rfl, by omega, big_of (by omega), b5, by omega, fun r2 H6 r20 r21 f6 b6 => ?_⟩
          refine ⟨wd, r2.toNat, by rw [Int.toNat_of_nonneg r20], w1, by omega, by omega, fun H7 e7 => ⟨true, rfl, ?_⟩⟩
          walk_at "sx"
          exact ⟨_, _, rfl, ((fx.trans f5).trans f6).trans (Fx.of e7), (b6.ex e7).mono (by omega)⟩
        · obtain ⟨l5, l6, rfl, fx, hB⟩ := hP
          exact fin _ _ _ _ fx
      | false =>
        walk_at "sx"
        refine ⟨by omega, by omega, ?_⟩
        refine lg_rng (JT H4 a b (some (.int i)) (some (.int n)) false) ⟨_, _, rfl, Fx.refl _ _, hb4⟩ (fun j σ' H' hj hP => ?_) (fun σ' H' hP => ?_)
        · obtain ⟨l5, l6, rfl, fx, hB⟩ := hP
          have hj1 : j < 2 := hj
          simp only [x_gn, List.set_cons_zero, List.set_cons_succ]
          refine seq_asg (fun v H5 => ∃ wd : Nat, v = .int wd ∧ 1 ≤ wd ∧ wd ≤ 5 ∧ Fx b H' H5 ∧ BagAt H5 b (2 * j + 1)) (fun R hR => ?_) (fun v H5 hC => ?_)
          · walk_at "sx"
            refine ⟨b, _, _, rfl, by omega, big_of (by omega), hB, by omega, fun r1 H5 r10 r11 f5 b5 => ?_⟩
            refine x_I0.mpr ?_
            exact hR _ _ ⟨(1 + r1).toNat, by rw [Int.toNat_of_nonneg (by omega)], by omega, by omega, f5, b5⟩
          obtain ⟨wd, rfl, w1, w3, f5, b5⟩ := hC
          walk_at "sx"
          refine ⟨b, _, _, rfl, by omega, big_of (by omega), b5, by omega, fun r2 H6 r20 r21 f6 b6 => ?_⟩
          refine ⟨wd, r2.toNat, by rw [Int.toNat_of_nonneg r20], w1, by omega, by omega, fun H7 e7 => ⟨true, rfl, ?_⟩⟩
          walk_at "sx"
          exact ⟨_, _, rfl, ((fx.trans f5).trans f6).trans (Fx.of e7), (b6.ex e7).mono (by omega)⟩
        · obtain ⟨l5, l6, rfl, fx, hB⟩ := hP
          exact fin _ _ _ _ fx
    · obtain ⟨l1, l2, l3, l4, l5, l6, rfl, e⟩ := hP
      walk_at "sx"
      refine ⟨40, 0, rfl, by omega, by omega, by omega, fun H2 e2 => ?_⟩
      have ep : W 40 0 0 = 1 := rfl
      rw [ep]
      walk_at "sx"
      refine ⟨40, 0, [], rfl, by omega, by omega, by omega, trivial, rfl, fun f H3 nf e3 hf => ?_⟩
      refine ⟨sz_ok (by simp), fun z3 n3 => ?_⟩
      have ez3 := Ex.new n3 (o := .lst [])
      refine eqInts (ns := []) (ms := []) (.inl (.inl (ez3 _ _ hf))) (.inl (.inl upd_same)) ?_
      walk_at "sx"
      refine ⟨sz_ok (by simp), fun z4 n4 => ?_⟩
      refine ⟨1, z4, [], rfl, by omega, by omega, .inl (.inl upd_same), by simp, trivial, fun H5 e5 => ?_⟩
      have ev : rank 1 [] = 0 := rfl
      rw [ev]
      walk_at "sx"
      exact k _
end
end LW

set_option Elab.async false
set_option linter.all false
set_option maxRecDepth 100000
set_option maxHeartbeats 4000000
namespace LW
open PySem PySem.Spec PyProof.Rows L2 BC Evl TR LN

theorem all_mk {l : PySem.W.OpenLaw} {w : World} {K : PySem.W.Frag} {h : Heap} {mg : Str → Option Value} {fa : Addr} (X : K.In h) (G : h.Ns mainGlobals mg) (hfa : mg "law" = some (.ref fa))
    {f0 : Addr} {od0 an0 : Option Addr} {sl0 : Array (Option Value)} {oc0 kV0 dc0 pm0 cd0 ct0 : Value}
    {f1 : Addr} {od1 an1 : Option Addr} {sl1 : Array (Option Value)} {oc1 kV1 dc1 pm1 cd1 ct1 : Value}
    {f2 : Addr} {od2 an2 : Option Addr} {sl2 : Array (Option Value)} {oc2 kV2 dc2 pm2 cd2 ct2 : Value}
    {f3 : Addr} {od3 an3 : Option Addr} {sl3 : Array (Option Value)} {oc3 kV3 dc3 pm3 cd3 ct3 : Value}
    {f4 : Addr} {od4 an4 : Option Addr} {sl4 : Array (Option Value)} {oc4 kV4 dc4 pm4 cd4 ct4 : Value}
    {f5 : Addr} {od5 an5 : Option Addr} {sl5 : Array (Option Value)} {oc5 kV5 dc5 pm5 cd5 ct5 : Value}
    {f6 : Addr} {od6 an6 : Option Addr} {sl6 : Array (Option Value)} {oc6 kV6 dc6 pm6 cd6 ct6 : Value}
    {f7 : Addr} {od7 an7 : Option Addr} {sl7 : Array (Option Value)} {oc7 kV7 dc7 pm7 cd7 ct7 : Value}
    {f8 : Addr} {od8 an8 : Option Addr} {sl8 : Array (Option Value)} {oc8 kV8 dc8 pm8 cd8 ct8 : Value}
    {f9 : Addr} {od9 an9 : Option Addr} {sl9 : Array (Option Value)} {oc9 kV9 dc9 pm9 cd9 ct9 : Value}
    {f10 : Addr} {od10 an10 : Option Addr} {sl10 : Array (Option Value)} {oc10 kV10 dc10 pm10 cd10 ct10 : Value}
    {f11 : Addr} {od11 an11 : Option Addr} {sl11 : Array (Option Value)} {oc11 kV11 dc11 pm11 cd11 ct11 : Value}
    {f12 : Addr} {od12 an12 : Option Addr} {sl12 : Array (Option Value)} {oc12 kV12 dc12 pm12 cd12 ct12 : Value}
    {f13 : Addr} {od13 an13 : Option Addr} {sl13 : Array (Option Value)} {oc13 kV13 dc13 pm13 cd13 ct13 : Value}
    {f14 : Addr} {od14 an14 : Option Addr} {sl14 : Array (Option Value)} {oc14 kV14 dc14 pm14 cd14 ct14 : Value}
    {f15 : Addr} {od15 an15 : Option Addr} {sl15 : Array (Option Value)} {oc15 kV15 dc15 pm15 cd15 ct15 : Value}
    {f16 : Addr} {od16 an16 : Option Addr} {sl16 : Array (Option Value)} {oc16 kV16 dc16 pm16 cd16 ct16 : Value}
    {f17 : Addr} {od17 an17 : Option Addr} {sl17 : Array (Option Value)} {oc17 kV17 dc17 pm17 cd17 ct17 : Value}
    {f18 : Addr} {od18 an18 : Option Addr} {sl18 : Array (Option Value)} {oc18 kV18 dc18 pm18 cd18 ct18 : Value}
    {f19 : Addr} {od19 an19 : Option Addr} {sl19 : Array (Option Value)} {oc19 kV19 dc19 pm19 cd19 ct19 : Value}
    {f20 : Addr} {od20 an20 : Option Addr} {sl20 : Array (Option Value)} {oc20 kV20 dc20 pm20 cd20 ct20 : Value}
    {tt_MOST_PAGE : Tok}
    {tt_MOST_PAGES : Tok}
    {tt_MOST_TIMES : Tok}
    {tt_MOST_VISITS_lengths : Tok}
    {tt_MOST_VISITS_trails : Tok}
    (a0 : PySem.W.nsIn K mainGlobals "is_integer" = some (some (.ref f0))) (l0 : K.lookup f0 = some ⟨oc0, od0, .func (PySem.W.fnOf "is_integer" "is_integer" (defArgs s_is_integer) (defBody s_is_integer) (defScope s_is_integer) .none kV0 dc0 pm0 an0 cd0 ct0), sl0⟩) (c0 : PySem.W.codeIn K cd0 "is_integer" = true) (k0 : PySem.W.keepIn K (.ref f0) = true)
    (a1 : PySem.W.nsIn K mainGlobals "check_number" = some (some (.ref f1))) (l1 : K.lookup f1 = some ⟨oc1, od1, .func (PySem.W.fnOf "check_number" "check_number" (defArgs s_check_number) (defBody s_check_number) (defScope s_check_number) .none kV1 dc1 pm1 an1 cd1 ct1), sl1⟩) (c1 : PySem.W.codeIn K cd1 "check_number" = true) (k1 : PySem.W.keepIn K (.ref f1) = true)
    (a2 : PySem.W.nsIn K mainGlobals "is_page" = some (some (.ref f2))) (l2 : K.lookup f2 = some ⟨oc2, od2, .func (PySem.W.fnOf "is_page" "is_page" (defArgs s_is_page) (defBody s_is_page) (defScope s_is_page) .none kV2 dc2 pm2 an2 cd2 ct2), sl2⟩) (c2 : PySem.W.codeIn K cd2 "is_page" = true) (k2 : PySem.W.keepIn K (.ref f2) = true)
    (a3 : PySem.W.nsIn K mainGlobals "is_visits" = some (some (.ref f3))) (l3 : K.lookup f3 = some ⟨oc3, od3, .func (PySem.W.fnOf "is_visits" "is_visits" (defArgs s_is_visits) (defBody s_is_visits) (defScope s_is_visits) .none kV3 dc3 pm3 an3 cd3 ct3), sl3⟩) (c3 : PySem.W.codeIn K cd3 "is_visits" = true) (k3 : PySem.W.keepIn K (.ref f3) = true)
    (a4 : PySem.W.nsIn K mainGlobals "check_visits" = some (some (.ref f4))) (l4 : K.lookup f4 = some ⟨oc4, od4, .func (PySem.W.fnOf "check_visits" "check_visits" (defArgs s_check_visits) (defBody s_check_visits) (defScope s_check_visits) .none kV4 dc4 pm4 an4 cd4 ct4), sl4⟩) (c4 : PySem.W.codeIn K cd4 "check_visits" = true) (k4 : PySem.W.keepIn K (.ref f4) = true)
    (a5 : PySem.W.nsIn K mainGlobals "visited" = some (some (.ref f5))) (l5 : K.lookup f5 = some ⟨oc5, od5, .func (PySem.W.fnOf "visited" "visited" (defArgs s_visited) (defBody s_visited) (defScope s_visited) .none kV5 dc5 pm5 an5 cd5 ct5), sl5⟩) (c5 : PySem.W.codeIn K cd5 "visited" = true) (k5 : PySem.W.keepIn K (.ref f5) = true)
    (a6 : PySem.W.nsIn K mainGlobals "is_lengths" = some (some (.ref f6))) (l6 : K.lookup f6 = some ⟨oc6, od6, .func (PySem.W.fnOf "is_lengths" "is_lengths" (defArgs s_is_lengths) (defBody s_is_lengths) (defScope s_is_lengths) .none kV6 dc6 pm6 an6 cd6 ct6), sl6⟩) (c6 : PySem.W.codeIn K cd6 "is_lengths" = true) (k6 : PySem.W.keepIn K (.ref f6) = true)
    (a7 : PySem.W.nsIn K mainGlobals "check_lengths" = some (some (.ref f7))) (l7 : K.lookup f7 = some ⟨oc7, od7, .func (PySem.W.fnOf "check_lengths" "check_lengths" (defArgs s_check_lengths) (defBody s_check_lengths) (defScope s_check_lengths) .none kV7 dc7 pm7 an7 cd7 ct7), sl7⟩) (c7 : PySem.W.codeIn K cd7 "check_lengths" = true) (k7 : PySem.W.keepIn K (.ref f7) = true)
    (a8 : PySem.W.nsIn K mainGlobals "lengths_in" = some (some (.ref f8))) (l8 : K.lookup f8 = some ⟨oc8, od8, .func (PySem.W.fnOf "lengths_in" "lengths_in" (defArgs s_lengths_in) (defBody s_lengths_in) (defScope s_lengths_in) .none kV8 dc8 pm8 an8 cd8 ct8), sl8⟩) (c8 : PySem.W.codeIn K cd8 "lengths_in" = true) (k8 : PySem.W.keepIn K (.ref f8) = true)
    (a9 : PySem.W.nsIn K mainGlobals "lengths_of" = some (some (.ref f9))) (l9 : K.lookup f9 = some ⟨oc9, od9, .func (PySem.W.fnOf "lengths_of" "lengths_of" (defArgs s_lengths_of) (defBody s_lengths_of) (defScope s_lengths_of) .none kV9 dc9 pm9 an9 cd9 ct9), sl9⟩) (c9 : PySem.W.codeIn K cd9 "lengths_of" = true) (k9 : PySem.W.keepIn K (.ref f9) = true)
    (a10 : PySem.W.nsIn K mainGlobals "continuations" = some (some (.ref f10))) (l10 : K.lookup f10 = some ⟨oc10, od10, .func (PySem.W.fnOf "continuations" "continuations" (defArgs s_continuations) (defBody s_continuations) (defScope s_continuations) .none kV10 dc10 pm10 an10 cd10 ct10), sl10⟩) (c10 : PySem.W.codeIn K cd10 "continuations" = true) (k10 : PySem.W.keepIn K (.ref f10) = true)
    (a11 : PySem.W.nsIn K mainGlobals "count_lengths" = some (some (.ref f11))) (l11 : K.lookup f11 = some ⟨oc11, od11, .func (PySem.W.fnOf "count_lengths" "count_lengths" (defArgs s_count_lengths) (defBody s_count_lengths) (defScope s_count_lengths) .none kV11 dc11 pm11 an11 cd11 ct11), sl11⟩) (c11 : PySem.W.codeIn K cd11 "count_lengths" = true) (k11 : PySem.W.keepIn K (.ref f11) = true)
    (a12 : PySem.W.nsIn K mainGlobals "nth_lengths" = some (some (.ref f12))) (l12 : K.lookup f12 = some ⟨oc12, od12, .func (PySem.W.fnOf "nth_lengths" "nth_lengths" (defArgs s_nth_lengths) (defBody s_nth_lengths) (defScope s_nth_lengths) .none kV12 dc12 pm12 an12 cd12 ct12), sl12⟩) (c12 : PySem.W.codeIn K cd12 "nth_lengths" = true) (k12 : PySem.W.keepIn K (.ref f12) = true)
    (a13 : PySem.W.nsIn K mainGlobals "lengths_rank" = some (some (.ref f13))) (l13 : K.lookup f13 = some ⟨oc13, od13, .func (PySem.W.fnOf "lengths_rank" "lengths_rank" (defArgs s_lengths_rank) (defBody s_lengths_rank) (defScope s_lengths_rank) .none kV13 dc13 pm13 an13 cd13 ct13), sl13⟩) (c13 : PySem.W.codeIn K cd13 "lengths_rank" = true) (k13 : PySem.W.keepIn K (.ref f13) = true)
    (a14 : PySem.W.nsIn K mainGlobals "_law_bag" = some (some (.ref f14))) (l14 : K.lookup f14 = some ⟨oc14, od14, .func (PySem.W.fnOf "_law_bag" "_law_bag" (defArgs s_law_bag) (defBody s_law_bag) (defScope s_law_bag) .none kV14 dc14 pm14 an14 cd14 ct14), sl14⟩) (c14 : PySem.W.codeIn K cd14 "_law_bag" = true) (k14 : PySem.W.keepIn K (.ref f14) = true)
    (a15 : PySem.W.nsIn K mainGlobals "_law_draw" = some (some (.ref f15))) (l15 : K.lookup f15 = some ⟨oc15, od15, .func (PySem.W.fnOf "_law_draw" "_law_draw" (defArgs s_law_draw) (defBody s_law_draw) (defScope s_law_draw) .none kV15 dc15 pm15 an15 cd15 ct15), sl15⟩) (c15 : PySem.W.codeIn K cd15 "_law_draw" = true) (k15 : PySem.W.keepIn K (.ref f15) = true)
    (a16 : PySem.W.nsIn K mainGlobals "_law_equal" = some (some (.ref f16))) (l16 : K.lookup f16 = some ⟨oc16, od16, .func (PySem.W.fnOf "_law_equal" "_law_equal" (defArgs s_law_equal) (defBody s_law_equal) (defScope s_law_equal) .none kV16 dc16 pm16 an16 cd16 ct16), sl16⟩) (c16 : PySem.W.codeIn K cd16 "_law_equal" = true) (k16 : PySem.W.keepIn K (.ref f16) = true)
    (a17 : PySem.W.nsIn K mainGlobals "_law_lists" = some (some (.ref f17))) (l17 : K.lookup f17 = some ⟨oc17, od17, .func (PySem.W.fnOf "_law_lists" "_law_lists" (defArgs s_law_lists) (defBody s_law_lists) (defScope s_law_lists) .none kV17 dc17 pm17 an17 cd17 ct17), sl17⟩) (c17 : PySem.W.codeIn K cd17 "_law_lists" = true) (k17 : PySem.W.keepIn K (.ref f17) = true)
    (a18 : PySem.W.nsIn K mainGlobals "_law_all" = some (some (.ref f18))) (l18 : K.lookup f18 = some ⟨oc18, od18, .func (PySem.W.fnOf "_law_all" "_law_all" (defArgs s_law_all) (defBody s_law_all) (defScope s_law_all) .none kV18 dc18 pm18 an18 cd18 ct18), sl18⟩) (c18 : PySem.W.codeIn K cd18 "_law_all" = true) (k18 : PySem.W.keepIn K (.ref f18) = true)
    (a19 : PySem.W.nsIn K mainGlobals "_law_holds" = some (some (.ref f19))) (l19 : K.lookup f19 = some ⟨oc19, od19, .func (PySem.W.fnOf "_law_holds" "_law_holds" (defArgs s_law_holds) (defBody s_law_holds) (defScope s_law_holds) .none kV19 dc19 pm19 an19 cd19 ct19), sl19⟩) (c19 : PySem.W.codeIn K cd19 "_law_holds" = true) (k19 : PySem.W.keepIn K (.ref f19) = true)
    (a20 : PySem.W.nsIn K mainGlobals "law" = some (some (.ref f20))) (l20 : K.lookup f20 = some ⟨oc20, od20, .func (PySem.W.fnOf "law" "law" (defArgs s_law) (defBody s_law) (defScope s_law) .none kV20 dc20 pm20 an20 cd20 ct20), sl20⟩) (c20 : PySem.W.codeIn K cd20 "law" = true) (k20 : PySem.W.keepIn K (.ref f20) = true)
    (q_MOST_PAGE : PySem.W.nsIn K mainGlobals "MOST_PAGE" = some (some (.int 39 tt_MOST_PAGE)))
    (q_MOST_PAGES : PySem.W.nsIn K mainGlobals "MOST_PAGES" = some (some (.int 40 tt_MOST_PAGES)))
    (q_MOST_TIMES : PySem.W.nsIn K mainGlobals "MOST_TIMES" = some (some (.int 200 tt_MOST_TIMES)))
    (q_MOST_VISITS_lengths : PySem.W.nsIn K mainGlobals "MOST_VISITS_lengths" = some (some (.int 300 tt_MOST_VISITS_lengths)))
    (q_MOST_VISITS_trails : PySem.W.nsIn K mainGlobals "MOST_VISITS_trails" = some (some (.int 300 tt_MOST_VISITS_trails)))
    (z_all : PySem.W.nsIn K mainGlobals "all" = some none)
    (z_bool : PySem.W.nsIn K mainGlobals "bool" = some none)
    (z_enumerate : PySem.W.nsIn K mainGlobals "enumerate" = some none)
    (z_int : PySem.W.nsIn K mainGlobals "int" = some none)
    (z_isinstance : PySem.W.nsIn K mainGlobals "isinstance" = some none)
    (z_len : PySem.W.nsIn K mainGlobals "len" = some none)
    (z_list : PySem.W.nsIn K mainGlobals "list" = some none)
    (z_max : PySem.W.nsIn K mainGlobals "max" = some none)
    (z_min : PySem.W.nsIn K mainGlobals "min" = some none)
    (z_range : PySem.W.nsIn K mainGlobals "range" = some none)
    (z_repr : PySem.W.nsIn K mainGlobals "repr" = some none)
    (z_set : PySem.W.nsIn K mainGlobals "set" = some none)
    (z_sorted : PySem.W.nsIn K mainGlobals "sorted" = some none)
    (z_str : PySem.W.nsIn K mainGlobals "str" = some none)
    (z_sum : PySem.W.nsIn K mainGlobals "sum" = some none)
    (z_tuple : PySem.W.nsIn K mainGlobals "tuple" = some none)
    (z_zip : PySem.W.nsIn K mainGlobals "zip" = some none) :
    ∃ fd : FuncData, (∀ (s : Shared) (v : Value), BindsTo s fd ⟨[v], []⟩ [("_law_script", v)]) ∧ ∀ base : Heap, K.In base → base.Ns mainGlobals mg → FnG l.prog w K mg base CX0 7 fa fd ["_law_script"] (spLaw K) := by
  have e := hfa.symm.trans (PySem.W.mg_of X G a20)
  cases e
  let T : Txt K mg := ⟨f0, _, fun_mk (st := s_is_integer) l0 c0 k0, PySem.W.mg_of X G a0, (fun_mk (st := s_is_integer) l0 c0 k0).binds fun _ _ _ _ _ _ us hl => match us, hl with | [_, _, _], _ => rfl,
    f1, _, fun_mk (st := s_check_number) l1 c1 k1, PySem.W.mg_of X G a1, (fun_mk (st := s_check_number) l1 c1 k1).binds fun _ _ _ _ _ _ us hl => match us, hl with | [_, _, _], _ => rfl,
    f2, _, fun_mk (st := s_is_page) l2 c2 k2, PySem.W.mg_of X G a2, (fun_mk (st := s_is_page) l2 c2 k2).binds fun _ _ _ _ _ _ us hl => match us, hl with | [_], _ => rfl,
    f3, _, fun_mk (st := s_is_visits) l3 c3 k3, PySem.W.mg_of X G a3, (fun_mk (st := s_is_visits) l3 c3 k3).binds fun _ _ _ _ _ _ us hl => match us, hl with | [_], _ => rfl,
    f4, _, fun_mk (st := s_check_visits) l4 c4 k4, PySem.W.mg_of X G a4, (fun_mk (st := s_check_visits) l4 c4 k4).binds fun _ _ _ _ _ _ us hl => match us, hl with | [_], _ => rfl,
    f5, _, fun_mk (st := s_visited) l5 c5 k5, PySem.W.mg_of X G a5, (fun_mk (st := s_visited) l5 c5 k5).binds fun _ _ _ _ _ _ us hl => match us, hl with | [_, _], _ => rfl,
    f6, _, fun_mk (st := s_is_lengths) l6 c6 k6, PySem.W.mg_of X G a6, (fun_mk (st := s_is_lengths) l6 c6 k6).binds fun _ _ _ _ _ _ us hl => match us, hl with | [_], _ => rfl,
    f7, _, fun_mk (st := s_check_lengths) l7 c7 k7, PySem.W.mg_of X G a7, (fun_mk (st := s_check_lengths) l7 c7 k7).binds fun _ _ _ _ _ _ us hl => match us, hl with | [_], _ => rfl,
    f8, _, fun_mk (st := s_lengths_in) l8 c8 k8, PySem.W.mg_of X G a8, (fun_mk (st := s_lengths_in) l8 c8 k8).binds fun _ _ _ _ _ _ us hl => match us, hl with | [_], _ => rfl,
    f9, _, fun_mk (st := s_lengths_of) l9 c9 k9, PySem.W.mg_of X G a9, (fun_mk (st := s_lengths_of) l9 c9 k9).binds fun _ _ _ _ _ _ us hl => match us, hl with | [_], _ => rfl,
    f10, _, fun_mk (st := s_continuations) l10 c10 k10, PySem.W.mg_of X G a10, (fun_mk (st := s_continuations) l10 c10 k10).binds fun _ _ _ _ _ _ us hl => match us, hl with | [_, _], _ => rfl,
    f11, _, fun_mk (st := s_count_lengths) l11 c11 k11, PySem.W.mg_of X G a11, (fun_mk (st := s_count_lengths) l11 c11 k11).binds fun _ _ _ _ _ _ us hl => match us, hl with | [_, _], _ => rfl,
    f12, _, fun_mk (st := s_nth_lengths) l12 c12 k12, PySem.W.mg_of X G a12, (fun_mk (st := s_nth_lengths) l12 c12 k12).binds fun _ _ _ _ _ _ us hl => match us, hl with | [_, _, _], _ => rfl,
    f13, _, fun_mk (st := s_lengths_rank) l13 c13 k13, PySem.W.mg_of X G a13, (fun_mk (st := s_lengths_rank) l13 c13 k13).binds fun _ _ _ _ _ _ us hl => match us, hl with | [_, _], _ => rfl,
    f14, _, fun_mk (st := s_law_bag) l14 c14 k14, PySem.W.mg_of X G a14, (fun_mk (st := s_law_bag) l14 c14 k14).binds fun _ _ _ _ _ _ us hl => match us, hl with | [_], _ => rfl,
    f15, _, fun_mk (st := s_law_draw) l15 c15 k15, PySem.W.mg_of X G a15, (fun_mk (st := s_law_draw) l15 c15 k15).binds fun _ _ _ _ _ _ us hl => match us, hl with | [_, _], _ => rfl,
    f16, _, fun_mk (st := s_law_equal) l16 c16 k16, PySem.W.mg_of X G a16, (fun_mk (st := s_law_equal) l16 c16 k16).binds fun _ _ _ _ _ _ us hl => match us, hl with | [_, _], _ => rfl,
    f17, _, fun_mk (st := s_law_lists) l17 c17 k17, PySem.W.mg_of X G a17, (fun_mk (st := s_law_lists) l17 c17 k17).binds fun _ _ _ _ _ _ us hl => match us, hl with | [_, _], _ => rfl,
    f18, _, fun_mk (st := s_law_all) l18 c18 k18, PySem.W.mg_of X G a18, (fun_mk (st := s_law_all) l18 c18 k18).binds fun _ _ _ _ _ _ us hl => match us, hl with | [_, _], _ => rfl,
    f19, _, fun_mk (st := s_law_holds) l19 c19 k19, PySem.W.mg_of X G a19, (fun_mk (st := s_law_holds) l19 c19 k19).binds fun _ _ _ _ _ _ us hl => match us, hl with | [_, _], _ => rfl,
    fa, _, fun_mk (st := s_law) l20 c20 k20, PySem.W.mg_of X G a20, (fun_mk (st := s_law) l20 c20 k20).binds fun _ _ _ _ _ _ us hl => match us, hl with | [_], _ => rfl,
    BC.Fun.kb (fun_mk (st := s_count_lengths) l11 c11 k11) fun _ _ _ _ _ _ us ws h1 h2 => match us, h1, ws, h2 with | [], _, [_, _], _ => rfl,
    BC.Fun.kb (fun_mk (st := s_lengths_rank) l13 c13 k13) fun _ _ _ _ _ _ us ws h1 h2 => match us, h1, ws, h2 with | [], _, [_, _], _ => rfl,
    BC.Fun.kb (fun_mk (st := s_nth_lengths) l12 c12 k12) fun _ _ _ _ _ _ us ws h1 h2 => match us, h1, ws, h2 with | [], _, [_, _, _], _ => rfl,
    tt_MOST_PAGE, PySem.W.mg_of X G q_MOST_PAGE,
    tt_MOST_PAGES, PySem.W.mg_of X G q_MOST_PAGES,
    tt_MOST_TIMES, PySem.W.mg_of X G q_MOST_TIMES,
    tt_MOST_VISITS_lengths, PySem.W.mg_of X G q_MOST_VISITS_lengths,
    tt_MOST_VISITS_trails, PySem.W.mg_of X G q_MOST_VISITS_trails,
    PySem.W.mg_none_of X G z_all,
    PySem.W.mg_none_of X G z_bool,
    PySem.W.mg_none_of X G z_enumerate,
    PySem.W.mg_none_of X G z_int,
    PySem.W.mg_none_of X G z_isinstance,
    PySem.W.mg_none_of X G z_len,
    PySem.W.mg_none_of X G z_list,
    PySem.W.mg_none_of X G z_max,
    PySem.W.mg_none_of X G z_min,
    PySem.W.mg_none_of X G z_range,
    PySem.W.mg_none_of X G z_repr,
    PySem.W.mg_none_of X G z_set,
    PySem.W.mg_none_of X G z_sorted,
    PySem.W.mg_none_of X G z_str,
    PySem.W.mg_none_of X G z_sum,
    PySem.W.mg_none_of X G z_tuple,
    PySem.W.mg_none_of X G z_zip⟩
  exact ⟨T.fd_law, fun s v => .of_eq rfl, fun base _ _ => ok_law T⟩

end LW
open PySem PySem.W PyProof.Rows
set_option maxHeartbeats 0 in
theorem PySem.Challenge.cw_breadcrumbs_k64_few_lengths_listed_holds : PySem.Challenge.rw_breadcrumbs_k64_few_lengths_listed.Holds := by
  w_on; o_law; k_head; (case hw => w_witness2)
  k_fill
  refine BC.walk_G (l := PySem.Challenge.rw_breadcrumbs_k64_few_lengths_listed) (n := 63) (k := 7) (x := "_law_script") (sp := fun w => LW.spLaw _) rfl (by decide) rfl ⟨rfl, by decide, by decide⟩ (fun w h Y => PySem.W.kIn_of Y) ?F (fun w H a ns hl hS => ⟨a, ns, rfl, hS, hl, fun _ => rfl⟩)
  case F =>
    intro w mg fa h KX G hmg
    refine' LW.all_mk KX G hmg ?a0 ?l0 ?c0 ?k0 ?a1 ?l1 ?c1 ?k1 ?a2 ?l2 ?c2 ?k2 ?a3 ?l3 ?c3 ?k3 ?a4 ?l4 ?c4 ?k4 ?a5 ?l5 ?c5 ?k5 ?a6 ?l6 ?c6 ?k6 ?a7 ?l7 ?c7 ?k7 ?a8 ?l8 ?c8 ?k8 ?a9 ?l9 ?c9 ?k9 ?a10 ?l10 ?c10 ?k10 ?a11 ?l11 ?c11 ?k11 ?a12 ?l12 ?c12 ?k12 ?a13 ?l13 ?c13 ?k13 ?a14 ?l14 ?c14 ?k14 ?a15 ?l15 ?c15 ?k15 ?a16 ?l16 ?c16 ?k16 ?a17 ?l17 ?c17 ?k17 ?a18 ?l18 ?c18 ?k18 ?a19 ?l19 ?c19 ?k19 ?a20 ?l20 ?c20 ?k20 ?q_MOST_PAGE ?q_MOST_PAGES ?q_MOST_TIMES ?q_MOST_VISITS_lengths ?q_MOST_VISITS_trails ?z_all ?z_bool ?z_enumerate ?z_int ?z_isinstance ?z_len ?z_list ?z_max ?z_min ?z_range ?z_repr ?z_set ?z_sorted ?z_str ?z_sum ?z_tuple ?z_zip
    (case a0 => k_is); (case l0 => k_is); (case c0 => k_is); (case k0 => k_is); (case a1 => k_is); (case l1 => k_is); (case c1 => k_is); (case k1 => k_is); (case a2 => k_is); (case l2 => k_is); (case c2 => k_is); (case k2 => k_is); (case a3 => k_is); (case l3 => k_is); (case c3 => k_is); (case k3 => k_is); (case a4 => k_is); (case l4 => k_is); (case c4 => k_is); (case k4 => k_is); (case a5 => k_is); (case l5 => k_is); (case c5 => k_is); (case k5 => k_is); (case a6 => k_is); (case l6 => k_is); (case c6 => k_is); (case k6 => k_is); (case a7 => k_is); (case l7 => k_is); (case c7 => k_is); (case k7 => k_is); (case a8 => k_is); (case l8 => k_is); (case c8 => k_is); (case k8 => k_is); (case a9 => k_is); (case l9 => k_is); (case c9 => k_is); (case k9 => k_is); (case a10 => k_is); (case l10 => k_is); (case c10 => k_is); (case k10 => k_is); (case a11 => k_is); (case l11 => k_is); (case c11 => k_is); (case k11 => k_is); (case a12 => k_is); (case l12 => k_is); (case c12 => k_is); (case k12 => k_is); (case a13 => k_is); (case l13 => k_is); (case c13 => k_is); (case k13 => k_is); (case a14 => k_is); (case l14 => k_is); (case c14 => k_is); (case k14 => k_is); (case a15 => k_is); (case l15 => k_is); (case c15 => k_is); (case k15 => k_is); (case a16 => k_is); (case l16 => k_is); (case c16 => k_is); (case k16 => k_is); (case a17 => k_is); (case l17 => k_is); (case c17 => k_is); (case k17 => k_is); (case a18 => k_is); (case l18 => k_is); (case c18 => k_is); (case k18 => k_is); (case a19 => k_is); (case l19 => k_is); (case c19 => k_is); (case k19 => k_is); (case a20 => k_is); (case l20 => k_is); (case c20 => k_is); (case k20 => k_is); (case q_MOST_PAGE => k_is); (case q_MOST_PAGES => k_is); (case q_MOST_TIMES => k_is); (case q_MOST_VISITS_lengths => k_is); (case q_MOST_VISITS_trails => k_is); (case z_all => k_is); (case z_bool => k_is); (case z_enumerate => k_is); (case z_int => k_is); (case z_isinstance => k_is); (case z_len => k_is); (case z_list => k_is); (case z_max => k_is); (case z_min => k_is); (case z_range => k_is); (case z_repr => k_is); (case z_set => k_is); (case z_sorted => k_is); (case z_str => k_is); (case z_sum => k_is); (case z_tuple => k_is); (case z_zip => k_is)

