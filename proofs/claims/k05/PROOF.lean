import PyProof.Rows.All
import Wide.All
import OpenK.AllK
import Wide.FinOn
import HandS.ForMost
import HandS.IsInst
import HandS.Style
import HandS.Wide
import HandS.Evl
import HandS.Zip
import HandS.SortKw
import HandS.Conv
import HandS.TupLe
import HandS.RaiseMore
import HandS.Defaults
import HandS.SetFor
import HandS.Strs
import PySem.Challenge.RW_breadcrumbs_k05_sites_without_pages
set_option Elab.async false
set_option linter.all false
set_option maxRecDepth 100000
set_option maxHeartbeats 4000000
namespace BC
open PySem PySem.Spec PyProof.Rows L2
section
variable {X : Cx}
/-- a power of a number of any size that matters here -/
def CPowX (i j : Int) : Prop := 0 ≤ j ∧ j ≤ 1000 ∧ i.natAbs.log2 < 100000
theorem op_powX : OpR X (binaryOp .Pow) (rI CPowX fun i j => .int (i ^ j.toNat)) := opI fun i j _ _ _ _ _ hc q => by
  obtain ⟨h0, h1, h2⟩ := hc
  refine pow_int h0 ?_ q
  have hb : Builtin.Int.intBits i ≤ 100000 := by
    unfold Builtin.Int.intBits
    split <;> omega
  have h3 : (Builtin.Int.intBits i : Int) * j ≤ 100000 * j := Int.mul_le_mul_of_nonneg_right (by omega) h0
  omega
/-- a product: one factor small, or both of bounded size -/
def CMulX (i j : Int) : Prop := CMul i j ∨ CMulW i j
theorem op_mulX : OpR X (binaryOp .Mult) (rI CMulX fun i j => .int (i * j)) := opI fun _ _ _ _ _ _ _ hc q => by
  rcases hc with hc | hc
  · exact mul_int q hc.ok
  · exact mul_int q hc.ok
theorem op_fdivX : OpR X (binaryOp .FloorDiv) (rI CDivW fun i j => .int (i / j)) := op_fdivW
theorem op_modX : OpR X (binaryOp .Mod) (rI (fun _ j => 0 < j) fun i j => .int (i % j)) := opI fun i j _ _ _ _ _ hc q => by
  refine mod_int' (show j ≠ 0 by omega) ?_
  rw [Int.fmod_eq_emod_of_nonneg i (by omega)]
  exact q
def ipC (C : Int → Int → Prop) (f : Int → Int → Int) : TIp := fun x y H Q => ∃ i j, x = .int i ∧ y = .int j ∧ C i j ∧ Q (.int (f i j)) H
theorem ip_mulX : PIp X .Mult (ipC CMulX fun i j => i * j) := by
  intro pins s σ H x y v u Q I r1 r2 h
  obtain ⟨i, j, rfl, rfl, hc, q⟩ := h
  obtain ⟨t, rfl⟩ := r1
  obtain ⟨t', rfl⟩ := r2
  have ok : IntMulOk i j := by
    rcases hc with hc | hc
    · exact hc.ok
    · exact hc.ok
  exact imul_int ⟨.int (i * j), H, I.tok _, ⟨_, rfl⟩, q⟩ ok
end
end BC

/-! ### readings opened one construct at a time: full applications alone, so that what stands in a loop is left closed -/
namespace BC
open PySem PySem.Spec PyProof.Rows L2
section
variable {K : PySem.W.Frag} {σ : L2.St} {H : Hp} {Q : VK} {QT : Bool → Hp → Prop} {QA : List V → Hp → Prop} {D : Ends} {ta tb tc : TE} {t u : TT} {a : TA} {r r' : R2} {i j : Nat} {v x y : V} {s1 s2 : TS} {g : TG} {QG : L2.St → Hp → Prop}
def LoopG (J : It) (g : TG) (tb : TS) : TS := fun D σ H => ∃ W : Nat → Nat → L2.St → Hp → Prop, (∃ m, W 0 m σ H) ∧ ∀ i m σ H, W i m σ H →
  (J.stop i H ∧ D.nx σ H) ∨ (J.go i H ∧ ∃ N : L2.St → Hp → Prop, (∀ σ' H', N σ' H' → ∃ m', m' < m ∧ W (i + 1) m' σ' H') ∧ ∀ x H', J.yld i H x H' → g x σ H' fun σ2 H2 => tb { D with nx := N, ct := N, bk := D.nx } σ2 H2)
def LcG (J : It) (g : TG) (tt : TT) (te : TE) (vs : List Nat) (σ : L2.St) (Dl : Addr) (H1 : Hp) (Q : VK) : Prop := ∃ W : Nat → Nat → Hp → Prop, (∃ m, W 0 m (upd H1 Dl (.lst []))) ∧ ∀ i m H, W i m H →
  (J.stop i H ∧ Q (.ref Dl) H) ∨ (J.go i H ∧ ∃ Nx : Hp → Prop, (∀ H', Nx H' → ∃ m', m' < m ∧ W (i + 1) m' H') ∧ ∀ x H', J.yld i H x H' → g x (wipe σ vs) H' fun σ2 H2 => wipe σ2 vs = wipe σ vs ∧ tt σ2 H2 fun b H3 =>
    if b = true then te σ2 H3 fun y H4 => ∃ acc, H4 Dl = some (.lst acc) ∧ acc.length < sizeLine ∧ Nx (upd H4 Dl (.lst (acc ++ [y]))) else Nx H3)
theorem x_seq : tSeq s1 s2 D σ H = s1 { D with nx := s2 D } σ H := rfl
theorem x_next : tNext D σ H = D.nx σ H := rfl
theorem x_brk : tBreak D σ H = D.bk σ H := rfl
theorem x_cnt : tCont D σ H = D.ct σ H := rfl
theorem x_nev : tNever D σ H = False := rfl
theorem x_ret : tRet ta D σ H = ta σ H D.rt := rfl
theorem x_retN : tRetN D σ H = D.rt .non H := rfl
theorem x_drop : tDrop ta D σ H = ta σ H (fun _ H1 => D.nx σ H1) := rfl
theorem x_ifS : tIfS t s1 s2 D σ H = t σ H (fun b H1 => if b = true then s1 D σ H1 else s2 D σ H1) := rfl
theorem x_asg : tAsg ta g D σ H = ta σ H (fun x H1 => g x σ H1 D.nx) := rfl
theorem x_gn : gName i v σ H QG = QG (σ.set i (some v)) H := rfl
theorem x_gsub {o ix : TE} {st : TSet} : gSub o ix st v σ H QG = o σ H (fun o H1 => ix σ H1 fun i H2 => st o i v H2 fun H3 => QG σ H3) := rfl
theorem x_par : tPar i j a D σ H = a σ H (fun vs H1 => ∃ v w, vs = [v, w] ∧ D.nx ((σ.set i (some v)).set j (some w)) H1) := rfl
theorem x_par3 {l : Nat} : tPar3 i j l a D σ H = a σ H (fun vs H1 => ∃ u v w, vs = [u, v, w] ∧ D.nx (((σ.set i (some u)).set j (some v)).set l (some w)) H1) := rfl
theorem x_aug {ti : TIp} : tAug i ta ti D σ H = ∃ x, σ[i]? = some (some x) ∧ ta σ H fun y H1 => ti x y H1 fun z H2 => D.nx (σ.set i (some z)) H2 := rfl
theorem x_for {wi : TI} : tFor wi g s1 D σ H = wi σ H (fun J H1 => LoopG J g s1 D σ H1) := rfl
theorem x_lc {wi : TI} {vs : List Nat} : tLc wi g t ta vs σ H Q = wi σ H (fun J H1 => ∀ Dl, H1 Dl = none → LcG J g t ta vs σ Dl H1 Q) := rfl
theorem x_rng1 {R : It → Hp → Prop} : iRng1 a σ H R = a σ H (fun vs H1 => ∃ j : Int, vs = [.int j] ∧ -(2 ^ 62) ≤ j ∧ j < 2 ^ 62 ∧ R (Itr 0 j.toNat) H1) := rfl
theorem x_rng2 {R : It → Hp → Prop} : iRng2 a σ H R = a σ H (fun vs H1 => ∃ i j : Int, vs = [.int i, .int j] ∧ (-(2 ^ 62) ≤ i ∧ i < 2 ^ 62 ∧ -(2 ^ 62) ≤ j ∧ j < 2 ^ 62) ∧ R (Itr i (j - i).toNat) H1) := rfl
theorem x_rng3 {R : It → Hp → Prop} : iRng3 a σ H R = a σ H (fun vs H1 => ∃ (i j c : Int) (n : Nat), vs = [.int i, .int j, .int c] ∧ RgC i j c n ∧ R (Itc i c n) H1) := rfl
theorem x_ilist {R : It → Hp → Prop} : iList K ta σ H R = ta σ H (fun x H1 => ∃ a, x = .ref a ∧ (∃ xs, SqL K H1 a xs) ∧ R (Itl K a) H1) := rfl
theorem x_itup {R : It → Hp → Prop} : iTup K ta σ H R = ta σ H (fun x H1 => ∃ a, x = .ref a ∧ (∃ xs, SqT K H1 a xs) ∧ R (Itt K a) H1) := rfl
theorem x_ienum {R : It → Hp → Prop} : iEnum K a σ H R = a σ H (fun vs H1 => ∃ a xs, vs = [.ref a] ∧ SqL K H1 a xs ∧ R (Ite K a) H1) := rfl
theorem x_izip {R : It → Hp → Prop} : iZip K a σ H R = a σ H (fun vs H1 => ∃ a b xs ys, vs = [.ref a, .ref b] ∧ SqL K H1 a xs ∧ SqL K H1 b ys ∧ R (Itz K a b) H1) := rfl
theorem x_istr {R : It → Hp → Prop} : iStr ta σ H R = ta σ H (fun v H1 => ∃ x, v = .str x ∧ R (Its x) H1) := rfl
theorem x_var : tVar i σ H Q = ∃ v, σ[i]? = some (some v) ∧ Q v H := rfl
theorem x_c : tC v σ H Q = Q v H := rfl
theorem x_op : tOp r ta tb σ H Q = ta σ H (fun x H1 => tb σ H1 fun y H2 => r x y H2 Q) := rfl
theorem x_un {ru : V → Hp → VK → Prop} : tUn ru ta σ H Q = ta σ H (fun x H1 => ru x H1 Q) := rfl
theorem x_test : tTest ta σ H QT = ta σ H (fun x H' => ∃ k, x = .bl k ∧ QT k H') := rfl
theorem x_b : tB ta σ H QT = ta σ H (fun x H' => ∃ k, x = .bl k ∧ QT k H') := rfl
theorem x_chain : tChain r r' ta tb tc σ H Q = ta σ H (fun x H1 => tb σ H1 fun y H2 => r x y H2 fun z H3 => ∃ k, z = .bl k ∧ (if k = true then tc σ H3 fun w' H4 => r' y w' H4 Q else Q (.bl false) H3)) := rfl
theorem x_and : tAnd t u σ H QT = t σ H (fun c H1 => if c = true then u σ H1 QT else QT false H1) := rfl
theorem x_or : tOr t u σ H QT = t σ H (fun c H1 => if c = true then QT true H1 else u σ H1 QT) := rfl
theorem x_not : tNot t σ H QT = t σ H (fun c H1 => QT (!c) H1) := rfl
theorem x_andV : tAndV ta tb σ H Q = ta σ H (fun x H1 => ∃ c, x = .bl c ∧ if c = true then tb σ H1 Q else Q (.bl false) H1) := rfl
theorem x_orV : tOrV ta tb σ H Q = ta σ H (fun x H1 => ∃ c, x = .bl c ∧ if c = true then Q (.bl true) H1 else tb σ H1 Q) := rfl
theorem x_notV : tNotV ta σ H Q = ta σ H (fun x H1 => ∃ c, x = .bl c ∧ Q (.bl (!c)) H1) := rfl
theorem x_ife : tIf t ta tb σ H Q = t σ H (fun c H1 => if c = true then ta σ H1 Q else tb σ H1 Q) := rfl
theorem x_nil : tNil σ H QA = QA [] H := rfl
theorem x_cons {rest : TA} : tCons ta rest σ H QA = ta σ H (fun x H1 => rest σ H1 fun xs H2 => QA (x :: xs) H2) := rfl
theorem x_lst : tLst a σ H Q = a σ H (fun xs H1 => xs.length ≤ sizeLine ∧ ∀ p, H1 p = none → Q (.ref p) (upd H1 p (.lst xs))) := rfl
theorem x_tup : tTup a σ H Q = a σ H (fun xs H1 => xs.length ≤ sizeLine ∧ ∀ p, H1 p = none → Q (.ref p) (upd H1 p (.tup xs))) := rfl
theorem x_cb {rc : List V → Hp → VK → Prop} : tCB rc a σ H Q = a σ H (fun vs H1 => rc vs H1 Q) := rfl
theorem x_call {sp : Sp} {dvs : List V} {E : XK} : tCall sp dvs E a σ H Q = a σ H (fun vs H1 => sp (vs ++ dvs) H1 Q E) := rfl
theorem x_callK {sp : Sp} {gV : List V → List V → List V} {E : XK} {b : TA} : tCallK sp gV E a b σ H Q = a σ H (fun vs H1 => b σ H1 fun zs H2 => sp (gV vs zs) H2 Q E) := rfl
theorem x_bm {T : String} {rm : V → List V → Hp → VK → Prop} : tBM K T rm ta a σ H Q = ta σ H (fun x H1 => tyV K T x H1 ∧ a σ H1 fun xs H2 => rm x xs H2 Q) := rfl
theorem x_bm0 {T : String} {rm : V → List V → Hp → VK → Prop} : tBM0 K T rm ta σ H Q = ta σ H (fun x H1 => tyV K T x H1 ∧ rm x [] H1 Q) := rfl
theorem x_sl {rs : V → Option Int → Option Int → Hp → VK → Prop} {tl th : TO} : tSl rs ta tl th σ H Q = ta σ H (fun x H1 => tl σ H1 fun l H2 => th σ H2 fun u H3 => rs x l u H3 Q) := rfl
theorem x_nopart {QO : Option Int → Hp → Prop} : tNoPart σ H QO = QO none H := rfl
theorem x_part {QO : Option Int → Hp → Prop} : tPart ta σ H QO = ta σ H (fun x H1 => ∃ i, x = .int i ∧ QO (some i) H1) := rfl
theorem x_revL : tRevL K ta σ H Q = ta σ H (fun x H1 => ∃ a xs, x = .ref a ∧ SqL K H1 a xs ∧ ∀ p, H1 p = none → Q (.ref p) (upd H1 p (.lst xs.reverse))) := rfl
theorem x_I0 {f : Int → Int → V} {m n : Int} : rI0 f (.int m) (.int n) H Q ↔ Q (f m n) H := ⟨fun ⟨i, j, e1, e2, q⟩ => by cases e1; cases e2; exact q, fun q => ⟨m, n, rfl, rfl, q⟩⟩
theorem x_I {C : Int → Int → Prop} {f : Int → Int → V} {m n : Int} : rI C f (.int m) (.int n) H Q ↔ C m n ∧ Q (f m n) H := ⟨fun ⟨i, j, e1, e2, q⟩ => by cases e1; cases e2; exact q, fun q => ⟨m, n, rfl, rfl, q⟩⟩
theorem x_U {f : Int → V} {m : Int} : rU f (.int m) H Q ↔ Q (f m) H := ⟨fun ⟨i, e1, q⟩ => by cases e1; exact q, fun q => ⟨m, rfl, q⟩⟩
theorem x_ip {f : Int → Int → Int} {m n : Int} : ipI f (.int m) (.int n) H Q ↔ Q (.int (f m n)) H := ⟨fun ⟨i, j, e1, e2, q⟩ => by cases e1; cases e2; exact q, fun q => ⟨m, n, rfl, rfl, q⟩⟩
theorem x_ipC {C : Int → Int → Prop} {f : Int → Int → Int} {m n : Int} : ipC C f (.int m) (.int n) H Q ↔ C m n ∧ Q (.int (f m n)) H := ⟨fun ⟨i, j, e1, e2, q⟩ => by cases e1; cases e2; exact q, fun q => ⟨m, n, rfl, rfl, q⟩⟩
theorem x_eqI {m n : Int} : rEq (.int m) (.int n) H Q ↔ Q (.bl (decide (m = n))) H := by
  unfold rEq
  rw [show scal (V.int m) (V.int n) = true from rfl]
  by_cases e : m = n
  · subst e; simp
  · simp [e]
theorem x_neI {m n : Int} : rNe (.int m) (.int n) H Q ↔ Q (.bl (!decide (m = n))) H := by
  unfold rNe
  rw [show scal (V.int m) (V.int n) = true from rfl]
  by_cases e : m = n
  · subst e; simp
  · simp [e]
end
/-! ### the rules that speak of the written part, by its own name -/
section
variable {X : Cx} {K : PySem.W.Frag}
theorem k_pi_list {tg l : Expr} {tl : TE} (hK : X.K = K) (hl : PE X l tl) : PI X tg l (iList K tl) := by subst hK; exact pi_list hl
theorem k_pi_tup {tg l : Expr} {tl : TE} (hK : X.K = K) (hl : PE X l tl) : PI X tg l (iTup K tl) := by subst hK; exact pi_tup hl
theorem k_pi_enum {e : Expr} {ta : TA} {p pos tpos : Pos} {elts : List Expr} {kk : Nat} (hK : X.K = K) (hg : Gl X "enumerate") (hm : X.mg "enumerate" = none) (ha : PA X [e] ta) (hs : starEach [e] X.env = [(false, eval e X.env)] := by rfl) : PI X (.Tuple elts kk tpos) (.Call (.Name "enumerate" p) [e] [] pos) (iEnum K ta) := by subst hK; exact pi_enum hg hm ha hs
theorem k_pi_zip {e e2 : Expr} {ta : TA} {p pos tpos : Pos} {elts : List Expr} {kk : Nat} (hK : X.K = K) (hg : Gl X "zip") (hm : X.mg "zip" = none) (ha : PA X [e, e2] ta)
    (hs : starEach [e, e2] X.env = (false, eval e X.env) :: starEach [e2] X.env := by rfl) (hpl : (backTo pos (starEach [e2] X.env)).any (·.1) = false := by rfl) : PI X (.Tuple elts kk tpos) (.Call (.Name "zip" p) [e, e2] [] pos) (iZip K ta) := by subst hK; exact pi_zip hg hm ha hs hpl
theorem k_ix_list (hK : X.K = K) : IxR X (rIxL K) := by subst hK; exact ix_list
theorem k_ix_tup (hK : X.K = K) : IxR X (rIxT K) := by subst hK; exact ix_tup
theorem k_sl_list (hK : X.K = K) : SlR X (rSlL K) := by subst hK; exact sl_list
theorem k_in (hK : X.K = K) : OpR X (compareOp .In) (rIn K false) := by subst hK; exact op_in_seq
theorem k_notIn (hK : X.K = K) : OpR X (compareOp .NotIn) (rIn K true) := by subst hK; exact op_notIn_seq
theorem k_eqD (hK : X.K = K) (hu : X.A.units + 64 < cLine) : OpR X (compareOp .Eq) (rEqD K) := by subst hK; exact op_eqD hu
theorem k_neD (hK : X.K = K) (hu : X.A.units + 64 < cLine) : OpR X (compareOp .NotEq) (rNeD K) := by subst hK; exact op_neD hu
def rLen (K : PySem.W.Frag) : List V → Hp → VK → Prop := fun xs H Q => ∃ p ys, xs = [.ref p] ∧ (SqL K H p ys ∨ SqT K H p ys) ∧ Q (.int ys.length) H
def rListOf (K : PySem.W.Frag) : List V → Hp → VK → Prop := fun xs H Q => ∃ p ys, xs = [.ref p] ∧ (SqL K H p ys ∨ SqT K H p ys) ∧ ∀ l, H l = none → Q (.ref l) (upd H l (.lst ys))
def rTupOf (K : PySem.W.Frag) : List V → Hp → VK → Prop := fun xs H Q => ∃ p ys, xs = [.ref p] ∧ ((SqL K H p ys ∧ ∀ l, H l = none → Q (.ref l) (upd H l (.tup ys))) ∨ (SqT K H p ys ∧ Q (.ref p) H))
theorem k_len (hK : X.K = K) : CallR X (.builtin "len") (rLen K) := by subst hK; exact call_len_seq
theorem k_listOf (hK : X.K = K) : CallR X (.type "list") (rListOf K) := by subst hK; exact call_list_of
theorem k_tupOf (hK : X.K = K) : CallR X (.type "tuple") (rTupOf K) := by subst hK; exact call_tuple_of
theorem k_isi (hK : X.K = K) : CallR X (.builtin "isinstance") (rIsi K) := by subst hK; exact call_isi
theorem k_sum (hK : X.K = K) (hc : X.calm = true) : CallR X (.builtin "sum") (rSum K) := by subst hK; exact cr_sum hc
theorem k_all (hK : X.K = K) (hc : X.calm = true) : CallR X (.builtin "all") (rAll K) := by subst hK; exact cr_all hc
theorem k_any (hK : X.K = K) (hc : X.calm = true) : CallR X (.builtin "any") (rAny K) := by subst hK; exact cr_any hc
theorem k_sorted (hK : X.K = K) : CallR X (.builtin "sorted") (rSorted K) := by subst hK; exact cr_sorted
def tTruK (K : PySem.W.Frag) (ta : TE) : TT := fun σ H Q => ta σ H fun x H' => ∃ k, TruV K x H' k ∧ Q k H'
theorem k_truth {a : Expr} {ta : TE} (hK : X.K = K) (ha : PE X a ta) (he : ∀ whole, isTrue a X.env whole = (do let v ← whole; standAt a.pos; holding [v] (truthy v))) : PT X a (tTruK K ta) := by subst hK; exact pt_truth ha he
theorem k_tup {es : List Expr} {k n : Nat} {pos : Pos} {t : TGs} (hK : X.K = K) (hc : X.calm = true) (h : PGs X es t)
    (hn : (assignEach es X.env).length = n := by rfl) (hst : (assignEach es X.env).findIdx? (·.1) = none := by rfl) : PG X (.Tuple es k pos) (gTup K n t) := by subst hK; exact pg_tup hc h hn hst
theorem k_bm0 {T : String} {to : TE} {r : V → List V → Hp → VK → Prop} {e : Expr} (hK : X.K = K) (h : PE X e (tBM0 X.K T r to)) : PE X e (tBM0 K T r to) := by subst hK; exact h
theorem k_bm {T : String} {to : TE} {ta : TA} {r : V → List V → Hp → VK → Prop} {e : Expr} (hK : X.K = K) (h : PE X e (tBM X.K T r to ta)) : PE X e (tBM K T r to ta) := by subst hK; exact h
theorem k_rev {e : Expr} {te : TE} {k : Nat} {p1 p2 p3 pos : Pos} (hK : X.K = K) (he : PE X e te) : PE X (.Subscript e (.Slice none none (some (.UnaryOp .USub (.Constant (.int 1) k p1) p2)) p3) pos) (tRevL K te) := by subst hK; exact pe_revL he
theorem k_index (hK : X.K = K) : MtR X "list.index" (rIndex K) := by subst hK; exact mt_index
end
section
variable {K : PySem.W.Frag} {σ : L2.St} {H : Hp} {ta : TE} {QT : Bool → Hp → Prop}
theorem x_tru : tTruK K ta σ H QT = ta σ H (fun x H' => ∃ k, TruV K x H' k ∧ QT k H') := rfl
end
/-! ### loops -/
section
variable {K : PySem.W.Frag} {σ : L2.St} {H : Hp} {D : Ends} {g : TG} {tb : TS}
theorem lg_rng {lo : Int} {n : Nat} (Pv : Nat → L2.St → Hp → Prop) (h0 : Pv 0 σ H)
    (hs : ∀ i σ H, i < n → Pv i σ H → g (.int (lo + i)) σ H fun σ2 H2 => tb { D with nx := Pv (i + 1), ct := Pv (i + 1), bk := D.nx } σ2 H2) (hd : ∀ σ H, Pv n σ H → D.nx σ H) : LoopG (Itr lo n) g tb D σ H := for_range Pv h0 hs hd
theorem lg_rngC {lo c : Int} {n : Nat} (Pv : Nat → L2.St → Hp → Prop) (h0 : Pv 0 σ H)
    (hs : ∀ i σ H, i < n → Pv i σ H → g (.int (lo + (i : Nat) * c)) σ H fun σ2 H2 => tb { D with nx := Pv (i + 1), ct := Pv (i + 1), bk := D.nx } σ2 H2) (hd : ∀ σ H, Pv n σ H → D.nx σ H) : LoopG (Itc lo c n) g tb D σ H := for_rangeC Pv h0 hs hd
theorem lg_list {a : Addr} {xs : List V} (Pv : Nat → L2.St → Hp → Prop) (h0 : Pv 0 σ H) (hl : ∀ i σ H, i ≤ xs.length → Pv i σ H → SqL K H a xs)
    (hs : ∀ i x σ H, xs[i]? = some x → Pv i σ H → g x σ H fun σ2 H2 => tb { D with nx := Pv (i + 1), ct := Pv (i + 1), bk := D.nx } σ2 H2) (hd : ∀ σ H, Pv xs.length σ H → D.nx σ H) : LoopG (Itl K a) g tb D σ H := for_list Pv h0 hl hs hd
/-- enumerate over a list that stands still: each pair is a new tuple -/
theorem lg_enum {a : Addr} {xs : List V} (Pv : Nat → L2.St → Hp → Prop) (h0 : Pv 0 σ H) (hl : ∀ i σ H, i ≤ xs.length → Pv i σ H → SqL K H a xs)
    (hs : ∀ i x σ H T, xs[i]? = some x → Pv i σ H → H T = none → g (.ref T) σ (upd H T (.tup [.int (i : Nat), x])) fun σ2 H2 => tb { D with nx := Pv (i + 1), ct := Pv (i + 1), bk := D.nx } σ2 H2) (hd : ∀ σ H, Pv xs.length σ H → D.nx σ H) : LoopG (Ite K a) g tb D σ H := by
  refine ⟨fun i m σ H => m = xs.length - i ∧ i ≤ xs.length ∧ Pv i σ H, ⟨xs.length, by simp, Nat.zero_le _, h0⟩, ?_⟩
  rintro i m σ H ⟨rfl, hi, p⟩
  have q := hl i σ H hi p
  by_cases hlt : i < xs.length
  · refine .inr ⟨⟨xs, xs[i], q, by simp [hlt]⟩, Pv (i + 1), fun σ' H' p' => ⟨xs.length - (i + 1), by omega, rfl, hlt, p'⟩, fun x H' y => ?_⟩
    obtain ⟨T, x', rfl, hT, rfl, f⟩ := y
    exact hs i x' σ H T (f xs q) p hT
  · have e : i = xs.length := by omega
    subst e
    exact .inl ⟨⟨xs, q, Nat.le_refl _⟩, hd σ H p⟩
/-- a pair unpacked -/
theorem g_two {i j : Nat} {T : Addr} {x y : V} {QG : L2.St → Hp → Prop} (h : H T = some (.tup [x, y])) (q : QG ((σ.set i (some x)).set j (some y)) H) : gTup K 2 (gCons (gName i) (gCons (gName j) gNil)) (.ref T) σ H QG :=
  ⟨T, [x, y], rfl, .inl (.inl h), rfl, x, [y], rfl, y, [], rfl, rfl, q⟩
end
/-! ### comprehensions over lists whose elements are given by a function of the turn -/
section
variable {K : PySem.W.Frag} {σ : L2.St} {H1 : Hp} {g : TG} {tt : TT} {te : TE} {vs : List Nat} {Dl : Addr} {Q : VK}
theorem lc_g (n : Nat) {J : It} (Pv : Nat → Hp → Prop) (h0 : Pv 0 (upd H1 Dl (.lst []))) (hst : ∀ H, Pv n H → J.stop n H) (hgo : ∀ i H, i < n → Pv i H → J.go i H)
    (hs : ∀ i H x H', i < n → Pv i H → J.yld i H x H' → g x (wipe σ vs) H' fun σ2 H2 => wipe σ2 vs = wipe σ vs ∧ tt σ2 H2 fun b H3 =>
      if b = true then te σ2 H3 fun y H4 => ∃ acc, H4 Dl = some (.lst acc) ∧ acc.length < sizeLine ∧ Pv (i + 1) (upd H4 Dl (.lst (acc ++ [y]))) else Pv (i + 1) H3) (hd : ∀ H, Pv n H → Q (.ref Dl) H) : LcG J g tt te vs σ Dl H1 Q := by
  refine ⟨fun i m H => m = n - i ∧ i ≤ n ∧ Pv i H, ⟨n, by simp, Nat.zero_le _, h0⟩, ?_⟩
  rintro i m H ⟨rfl, hi, p⟩
  by_cases hlt : i < n
  · exact .inr ⟨hgo i H hlt p, Pv (i + 1), fun H' p' => ⟨n - (i + 1), by omega, rfl, hlt, p'⟩, fun x H' y => hs i H x H' hlt p y⟩
  · have e : i = n := by omega
    subst e
    exact .inl ⟨hst H p, hd H p⟩
end
/-! ### comprehensions that change nothing -/
section
variable {K : PySem.W.Frag} {σ : L2.St} {H1 : Hp} {g : TG} {tt : TT} {te : TE} {vs : List Nat} {Dl : Addr} {Q : VK}
def kept (n : Nat) (keep : Nat → Bool) (f : Nat → V) : List V := ((List.range n).filter keep).map f
theorem kept_yes {n : Nat} {k : Nat → Bool} {f : Nat → V} (h : k n = true) : kept (n + 1) k f = kept n k f ++ [f n] := by
  unfold kept
  rw [List.range_succ, List.filter_append, List.map_append]
  simp [h]
theorem kept_no {n : Nat} {k : Nat → Bool} {f : Nat → V} (h : k n = false) : kept (n + 1) k f = kept n k f := by
  unfold kept
  rw [List.range_succ, List.filter_append, List.map_append]
  simp [h]
theorem kept_len (n : Nat) (k : Nat → Bool) (f : Nat → V) : (kept n k f).length ≤ n := by
  unfold kept
  rw [List.length_map]
  exact Nat.le_trans (List.length_filter_le _ _) (by rw [List.length_range]; exact Nat.le_refl _)
theorem kept_all (n : Nat) (f : Nat → V) : kept n (fun _ => true) f = (List.range n).map f := by
  unfold kept
  rw [List.filter_eq_self.mpr (by simp)]
theorem lc_pure {J : It} (n : Nat) (item : Nat → L2.St) (keep : Nat → Bool) (f : Nat → V) (hD : H1 Dl = none) (hn : n ≤ 100000)
    (hst : ∀ H', Evl.Ex H1 H' → J.stop n H') (hgo : ∀ i H', i < n → Evl.Ex H1 H' → J.go i H')
    (hy : ∀ i H' x H'' (QG : L2.St → Hp → Prop), i < n → Evl.Ex H1 H' → J.yld i H' x H'' → (Evl.Ex H' H'' → QG (item i) H'') → g x (wipe σ vs) H'' QG)
    (hw : ∀ i, i < n → wipe (item i) vs = wipe σ vs) (ht : ∀ i, i < n → Evl.EvT tt (item i) H1 (keep i)) (he : ∀ i, i < n → keep i = true → Evl.Ev te (item i) H1 (f i))
    (hd : ∀ H', Evl.Ex H1 H' → H' Dl = some (.lst (kept n keep f)) → Q (.ref Dl) H') : LcG J g tt te vs σ Dl H1 Q := by
  refine lc_g n (fun i H' => Evl.Ex H1 H' ∧ H' Dl = some (.lst (kept i keep f))) ⟨Evl.Ex.new hD, upd_same⟩ (fun H' h => hst H' h.1) (fun i H' hi h => hgo i H' hi h.1) (fun i H' x H'' hi h y => ?_) (fun H' h => hd H' h.1 h.2)
  obtain ⟨e, hl⟩ := h
  refine hy i H' x H'' _ hi e y fun e2 => ⟨hw i hi, ht i hi H'' (e.trans e2) _ fun H3 e3 => ?_⟩
  have hl3 := e3 _ _ (e2 _ _ hl)
  cases hk : keep i with
  | false =>
    show (if false = true then _ else _)
    rw [if_neg Bool.false_ne_true, kept_no hk]
    exact ⟨(e.trans e2).trans e3, hl3⟩
  | true =>
    show (if true = true then _ else _)
    rw [if_pos rfl]
    refine he i hi hk H3 ((e.trans e2).trans e3) _ fun H4 e4 => ⟨_, e4 _ _ hl3, Nat.lt_of_lt_of_le (Nat.lt_of_le_of_lt (kept_len i keep f) hi) (Nat.le_trans hn (by decide)), ?_⟩
    rw [kept_yes hk]
    exact ⟨(((e.trans e2).trans e3).trans e4).mut hD, upd_same⟩
theorem tyes {σ : L2.St} {H : Hp} : Evl.EvT tYes σ H true := fun H1 _ _ q => q H1 (Evl.Ex.refl H1)
theorem lc_enum {a : Addr} {xs : List V} {j k : Nat} (keep : Nat → Bool) (f : Nat → V) (hx : SqL K H1 a xs) (hD : H1 Dl = none) (hn : xs.length ≤ 100000)
    (hw : ∀ u v : V, wipe (((wipe σ vs).set j (some u)).set k (some v)) vs = wipe σ vs)
    (ht : ∀ i x, xs[i]? = some x → Evl.EvT tt (((wipe σ vs).set j (some (.int (i : Nat)))).set k (some x)) H1 (keep i))
    (he : ∀ i x, xs[i]? = some x → keep i = true → Evl.Ev te (((wipe σ vs).set j (some (.int (i : Nat)))).set k (some x)) H1 (f i))
    (hd : ∀ H', Evl.Ex H1 H' → H' Dl = some (.lst (kept xs.length keep f)) → Q (.ref Dl) H') : LcG (Ite K a) (gTup K 2 (gCons (gName j) (gCons (gName k) gNil))) tt te vs σ Dl H1 Q := by
  refine lc_pure xs.length (fun i => ((wipe σ vs).set j (some (.int (i : Nat)))).set k (some (xs.getD i .non))) keep f hD hn (fun H' e => ⟨xs, Evl.ex_l e hx, Nat.le_refl _⟩) (fun i H' hi e => ⟨xs, xs[i], Evl.ex_l e hx, List.getElem?_eq_getElem hi⟩)
    (fun i H' x H'' QG hi e y q => ?_) (fun i hi => hw _ _) (fun i hi => ht i _ (by rw [List.getD_eq_getElem?_getD, List.getElem?_eq_getElem hi]; rfl)) (fun i hi => he i _ (by rw [List.getD_eq_getElem?_getD, List.getElem?_eq_getElem hi]; rfl)) hd
  obtain ⟨T, v, rfl, hT, rfl, hf⟩ := y
  have hv := hf xs (Evl.ex_l e hx)
  have e1 : xs.getD i .non = v := by rw [List.getD_eq_getElem?_getD, hv]; rfl
  refine g_two upd_same ?_
  have q2 := q (Evl.Ex.new hT)
  rw [e1] at q2
  exact q2
theorem lc_list {a : Addr} {xs : List V} {j : Nat} (keep : Nat → Bool) (f : Nat → V) (hx : SqL K H1 a xs) (hD : H1 Dl = none) (hn : xs.length ≤ 100000)
    (hw : ∀ u : V, wipe ((wipe σ vs).set j (some u)) vs = wipe σ vs)
    (ht : ∀ i x, xs[i]? = some x → Evl.EvT tt ((wipe σ vs).set j (some x)) H1 (keep i))
    (he : ∀ i x, xs[i]? = some x → keep i = true → Evl.Ev te ((wipe σ vs).set j (some x)) H1 (f i))
    (hd : ∀ H', Evl.Ex H1 H' → H' Dl = some (.lst (kept xs.length keep f)) → Q (.ref Dl) H') : LcG (Itl K a) (gName j) tt te vs σ Dl H1 Q := by
  refine lc_pure xs.length (fun i => (wipe σ vs).set j (some (xs.getD i .non))) keep f hD hn (fun H' e => ⟨xs, Evl.ex_l e hx, Nat.le_refl _⟩) (fun i H' hi e => ⟨xs, xs[i], Evl.ex_l e hx, List.getElem?_eq_getElem hi⟩)
    (fun i H' x H'' QG hi e y q => ?_) (fun i hi => hw _) (fun i hi => ht i _ (by rw [List.getD_eq_getElem?_getD, List.getElem?_eq_getElem hi]; rfl)) (fun i hi => he i _ (by rw [List.getD_eq_getElem?_getD, List.getElem?_eq_getElem hi]; rfl)) hd
  obtain ⟨rfl, hf⟩ := y
  have hv := hf xs (Evl.ex_l e hx)
  have e1 : xs.getD i .non = x := by rw [List.getD_eq_getElem?_getD, hv]; rfl
  show QG _ _
  rw [← e1]
  exact q (Evl.Ex.refl _)
theorem lc_rng {lo : Int} {n j : Nat} (keep : Nat → Bool) (f : Nat → V) (hD : H1 Dl = none) (hn : n ≤ 100000)
    (hw : ∀ u : V, wipe ((wipe σ vs).set j (some u)) vs = wipe σ vs)
    (ht : ∀ i, i < n → Evl.EvT tt ((wipe σ vs).set j (some (.int (lo + i)))) H1 (keep i))
    (he : ∀ i, i < n → keep i = true → Evl.Ev te ((wipe σ vs).set j (some (.int (lo + i)))) H1 (f i))
    (hd : ∀ H', Evl.Ex H1 H' → H' Dl = some (.lst (kept n keep f)) → Q (.ref Dl) H') : LcG (Itr lo n) (gName j) tt te vs σ Dl H1 Q := by
  refine lc_pure n (fun i => (wipe σ vs).set j (some (.int (lo + i)))) keep f hD hn (fun H' e => Nat.le_refl _) (fun i H' hi e => hi)
    (fun i H' x H'' QG hi e y q => ?_) (fun i hi => hw _) ht he hd
  obtain ⟨rfl, rfl⟩ := y
  exact q (Evl.Ex.refl _)
end
/-! ### operations on values -/
section
variable {K : PySem.W.Frag} {H : Hp} {Q : VK}
theorem isi_int {i : Int} {T : String} {b : Bool} (h : kitB "int" T = some b) (q : Q (.bl b) H) : rIsi K [.int i, .ty T] H Q :=
  ⟨.int i, .ty T, .type "int", .type T, b, rfl, .ty T, .base (.int i), kit_ty h, q⟩
theorem ixL {p : Addr} {xs : List V} {i : Int} {v : V} (h : SqL K H p xs) (hi : atI xs i = some v) (q : Q v H) : rIxL K (.ref p) (.int i) H Q := ⟨p, xs, i, v, rfl, rfl, h, hi, q⟩
theorem setL {p : Addr} {xs : List V} {i : Int} {j : Nat} {v : V} {R : Hp → Prop} (h : H p = some (.lst xs)) (hj : ixN xs.length i = some j) (q : R (upd H p (.lst (xs.set j v)))) : rSetL (.ref p) (.int i) v H R := ⟨p, xs, i, j, rfl, rfl, h, hj, q⟩
theorem repL {p : Addr} {xs : List V} {k : Int} (h : H p = some (.lst xs)) (h1 : -(2 ^ 63) ≤ k) (h2 : k < 2 ^ 63) (hz : xs.length * k.toNat ≤ sizeLine) (q : ∀ l, H l = none → Q (.ref l) (upd H l (.lst (List.replicate k.toNat xs).flatten))) : rRep (.ref p) (.int k) H Q := ⟨p, k, xs, rfl, rfl, h, h1, h2, hz, q⟩
theorem catL {p b : Addr} {xs ys : List V} (h : H p = some (.lst xs)) (hb : H b = some (.lst ys)) (hz : xs.length + ys.length ≤ sizeLine) (q : ∀ l, H l = none → Q (.ref l) (upd H l (.lst (xs ++ ys)))) : rCat (.ref p) (.ref b) H Q := ⟨p, b, xs, ys, rfl, rfl, h, hb, hz, q⟩
theorem sumL {p : Addr} {ns : List Int} (h : SqL K H p (ns.map V.int)) (q : Q (.int ns.sum) H) : rSum K [.ref p] H Q := ⟨p, ns, rfl, h, q⟩
theorem appL {p : Addr} {xs : List V} {y : V} (h : H p = some (.lst xs)) (hz : xs.length < sizeLine) (q : Q .non (upd H p (.lst (xs ++ [y])))) : rAppend (.ref p) [y] H Q := ⟨p, xs, y, rfl, rfl, h, hz, q⟩
theorem tyL {p : Addr} {xs : List V} (h : H p = some (.lst xs)) : tyV K "list" (.ref p) H := Or.inl ⟨rfl, _, Or.inl (Or.inl h)⟩
theorem atI_n {xs : List V} {i : Int} {j : Nat} {v : V} (e : i = (j : Int)) (h : xs[j]? = some v) : atI xs i = some v := by
  subst e
  have hj := (List.getElem?_eq_some_iff.mp h).1
  unfold atI ixN
  rw [if_pos (by omega), if_pos (by omega)]
  exact h
theorem ixN_n {n : Nat} {i : Int} {j : Nat} (e : i = (j : Int)) (h : j < n) : ixN n i = some j := by
  subst e
  unfold ixN
  rw [if_pos (by omega), if_pos (by omega)]
  rfl
theorem sz_ok {n : Nat} (h : n ≤ 100000) : n ≤ sizeLine := Nat.le_trans h (by decide)
theorem sz_lt {n : Nat} (h : n < 100000) : n < sizeLine := Nat.lt_of_lt_of_le h (by decide)
end
end BC

set_option Elab.async false
set_option linter.all false
set_option maxRecDepth 100000
set_option maxHeartbeats 4000000
namespace BC
open PySem PySem.Spec PyProof.Rows L2 Evl RZ
/-! ### all but the object at b stands -/
def Fx (b : Addr) (H H' : Hp) : Prop := ∀ a o, a ≠ b → H a = some o → H' a = some o
theorem Fx.refl (b : Addr) (H : Hp) : Fx b H H := fun _ _ _ h => h
theorem Fx.trans {b : Addr} {H H1 H2 : Hp} (x : Fx b H H1) (y : Fx b H1 H2) : Fx b H H2 := fun a o n h => y a o n (x a o n h)
theorem Fx.of {b : Addr} {H H' : Hp} (e : Ex H H') : Fx b H H' := fun a o _ h => e a o h
theorem Fx.put {b : Addr} {H : Hp} {o : HO} : Fx b H (upd H b o) := fun a u n h => by rw [upd_ne n]; exact h
theorem Fx.ex {b : Addr} {H H' : Hp} (x : Fx b H H') (h : H b = none) : Ex H H' := fun a o e => x a o (ne_of_none e h) e
theorem Fx.l {K : PySem.W.Frag} {b a : Addr} {H H' : Hp} {xs : List V} (x : Fx b H H') (n : a ≠ b) (h : SqL K H a xs) : SqL K H' a xs := by
  rcases h with h | h
  · rcases h with h | ⟨o, h⟩
    · exact .inl (.inl (x a _ n h))
    · exact .inl (.inr ⟨o, x a _ n h⟩)
  · exact .inr h
/-! ### lists -/
theorem cutV_mem {xs : List V} {lo hi : Option Int} {x : V} (h : x ∈ cutV xs lo hi) : x ∈ xs := by
  unfold cutV at h
  exact List.mem_of_mem_drop (List.mem_of_mem_take h)
theorem cutV_len (xs : List V) (lo hi : Option Int) : (cutV xs lo hi).length ≤ xs.length := by
  unfold cutV
  rw [List.length_take, List.length_drop]
  omega
theorem two_at0 {x y r : Int} {n : Nat} (h0 : 0 ≤ r) (h1 : r < 2) (hx0 : 0 ≤ x) (hx1 : x ≤ n) (hy0 : 0 ≤ y) (hy1 : y ≤ n) : ∃ m : Nat, m ≤ n ∧ atI [V.int x, V.int y] r = some (.int m) := by
  by_cases e : r = 0
  · exact ⟨x.toNat, by omega, by rw [Int.toNat_of_nonneg hx0]; exact atI_n (j := 0) e rfl⟩
  · exact ⟨y.toNat, by omega, by rw [Int.toNat_of_nonneg hy0]; exact atI_n (j := 1) (by omega) rfl⟩
theorem two_at {x y r : Int} {n : Nat} (h0 : 0 ≤ r) (h1 : r < 2) (hx0 : 1 ≤ x) (hx1 : x ≤ n) (hy0 : 1 ≤ y) (hy1 : y ≤ n) : ∃ m : Nat, 1 ≤ m ∧ m ≤ n ∧ atI [V.int x, V.int y] r = some (.int m) := by
  by_cases e : r = 0
  · exact ⟨x.toNat, by omega, by omega, by rw [Int.toNat_of_nonneg (by omega)]; exact atI_n (j := 0) e rfl⟩
  · exact ⟨y.toNat, by omega, by omega, by rw [Int.toNat_of_nonneg (by omega)]; exact atI_n (j := 1) (by omega) rfl⟩
/-- a written list read at a drawn place -/
theorem pick {xs : List V} {r : Int} (h0 : 0 ≤ r) (h1 : r < xs.length) : ∃ v, v ∈ xs ∧ atI xs r = some v := by
  have hj : r.toNat < xs.length := by omega
  exact ⟨xs[r.toNat], List.getElem_mem hj, atI_n (j := r.toNat) (by omega) (List.getElem?_eq_getElem hj)⟩
theorem rep_one (n : Nat) (v : V) : (List.replicate n [v]).flatten = List.replicate n v := by
  induction n with
  | zero => rfl
  | succ n ih => rw [List.replicate_succ, List.flatten_cons, ih]; rfl
theorem take_succ {xs : List V} {i : Nat} {v : V} (h : xs[i]? = some v) : xs.take (i + 1) = xs.take i ++ [v] := by
  rw [List.take_add_one, h]
  rfl
theorem log2_small {i : Int} {k : Nat} (hk : 0 < k) (h : i.natAbs < 2 ^ k) : i.natAbs.log2 < k := PySem.Flt.log2_lt_of hk h
/-! ### kinds -/
section
variable {X : Cx} {K : PySem.W.Frag} {H : Hp} {Q : VK}
theorem k_pi_zipA {e e2 : Expr} {ta : TA} {p pos tpos : Pos} {elts : List Expr} {kk : Nat} (hK : X.K = K) (hg : Gl X "zip") (hm : X.mg "zip" = none) (ha : PA X [e, e2] ta)
    (hs : starEach [e, e2] X.env = (false, eval e X.env) :: starEach [e2] X.env := by rfl) (hpl : (backTo pos (starEach [e2] X.env)).any (·.1) = false := by rfl) : PI X (.Tuple elts kk tpos) (.Call (.Name "zip" p) [e, e2] [] pos) (iZipA K ta) := by subst hK; exact pi_zipA hg hm ha hs hpl
theorem k_isiT (hK : X.K = K) : CallR X (.builtin "isinstance") (rIsiT K) := by subst hK; exact call_isiT
theorem tyx_l {a : Addr} {xs : List V} (h : SqL K H a xs) : TyX K H (.ref a) (.type "list") := by
  rcases h with (h | ⟨o, h⟩) | ⟨o, its, n, h, c, _⟩
  · exact .base (.lst h)
  · exact .base (.frz h)
  · exact .kList h c
theorem tyx_t {a : Addr} {xs : List V} (h : SqT K H a xs) : TyX K H (.ref a) (.type "tuple") := by
  rcases h with (h | ⟨o, h⟩) | ⟨o, its, n, h, c, _⟩
  · exact .base (.tup h)
  · exact .fTuple h
  · exact .kTuple h c
def tyn : PyData → String
  | .none => "NoneType"
  | .bool _ => "bool"
  | .int _ => "int"
  | .str _ => "str"
  | .list _ => "list"
  | .tuple _ => "tuple"
  | .dict _ => "dict"
theorem tyx_d {v : V} {d : PyData} (h : Dp K H v d) : TyX K H v (.type (tyn d)) := by
  cases h with
  | non => exact .base .non
  | bl b => exact .base (.bl b)
  | int i => exact .base (.int i)
  | str x => exact .base (.str x)
  | lst h _ => exact tyx_l h
  | tup h _ => exact tyx_t h
theorem isi_x {v : V} {A T : String} {b : Bool} (h : TyX K H v (.type A)) (hk : kitB A T = some b) (q : Q (.bl b) H) : rIsi K [v, .ty T] H Q :=
  ⟨v, .ty T, .type A, .type T, b, rfl, .ty T, h, kit_ty hk, q⟩
theorem kit_two {A B C : String} {b c : Bool} (h1 : kitB A B = some b) (h2 : kitB A C = some c) : PySem.W.kitAny K (.type A) [.type B, .type C] = some (b || c) := by
  refine kitAny_cons (kit_ty h1) (fun e => ?_) (fun e => by rw [e]; rfl)
  subst e
  refine kitAny_cons (kit_ty h2) (fun e => ?_) (fun e => by rw [e]; rfl)
  subst e
  exact kitAny_nil
theorem isiT2 {v : V} {p : Addr} {A B C : String} {b c : Bool} (h : TyX K H v (.type A)) (hp : H p = some (.tup [.ty B, .ty C])) (h1 : kitB A B = some b) (h2 : kitB A C = some c) (q : Q (.bl (b || c)) H) : rIsiT K [v, .ref p] H Q :=
  ⟨v, p, [.ty B, .ty C], .type A, [.type B, .type C], b || c, rfl, hp, .cons (.ty B) (.cons (.ty C) .nil), h, kit_two h1 h2, q⟩
theorem ex_d {H H' : Hp} (e : Ex H H') : ∀ (d : PyData) (v : V), Dp K H v d → Dp K H' v d
  | .none, _, h => by cases h; exact .non
  | .bool _, _, h => by cases h; exact .bl _
  | .int _, _, h => by cases h; exact .int _
  | .str _, _, h => by cases h; exact .str _
  | .dict _, _, h => by cases h
  | .list ds, _, h => by
    cases h with
    | lst h1 h2 => exact .lst (ex_l e h1) (all ds _ h2)
  | .tuple ds, _, h => by
    cases h with
    | tup h1 h2 => exact .tup (ex_t e h1) (all ds _ h2)
where
  all : ∀ (ds : List PyData) (vs : List V), DpAll K H vs ds → DpAll K H' vs ds
  | [], _, h => by cases h; exact .nil
  | d :: ds, _, h => by
    cases h with
    | cons h1 h2 => exact .cons (ex_d e d _ h1) (all ds _ h2)
theorem dp_len : ∀ {vs : List V} {ds : List PyData}, DpAll K H vs ds → vs.length = ds.length
  | _, _, .nil => rfl
  | _, _, .cons _ h => by rw [List.length_cons, List.length_cons, dp_len h]
theorem dp_at : ∀ {vs : List V} {ds : List PyData} {i : Nat} {v : V}, DpAll K H vs ds → vs[i]? = some v → ∃ d, ds[i]? = some d ∧ Dp K H v d
  | _, _, _, _, .nil, e => by simp at e
  | _, _, 0, _, .cons h _, e => by simp at e; subst e; exact ⟨_, rfl, h⟩
  | _, _, i + 1, _, .cons _ h, e => by
    obtain ⟨d, e1, e2⟩ := dp_at (i := i) h (by simpa using e)
    exact ⟨d, by simpa using e1, e2⟩
theorem dp_ints : ∀ ns : List Int, DpAll K H (ns.map V.int) (ns.map PyData.int)
  | [] => .nil
  | n :: ns => .cons (.int n) (dp_ints ns)
/-- data of so many levels, of moderate size -/
inductive Sh : Nat → PyData → Prop
  | non (n : Nat) : Sh n .none
  | bl (n : Nat) (b : Bool) : Sh n (.bool b)
  | int (n : Nat) (i : Int) : Sh n (.int i)
  | str (n : Nat) (x : Str) : Sh n (.str x)
  | lst {n : Nat} {ds : List PyData} (hl : ds.length ≤ 100000) (h : ∀ d ∈ ds, Sh n d) : Sh (n + 1) (.list ds)
  | tup {n : Nat} {ds : List PyData} (hl : ds.length ≤ 100000) (h : ∀ d ∈ ds, Sh n d) : Sh (n + 1) (.tuple ds)
theorem sh_ints (ns : List Int) (h : ns.length ≤ 100000) : Sh 1 (.list (ns.map PyData.int)) := .lst (by rw [List.length_map]; exact h) fun d hd => by
  obtain ⟨n, _, rfl⟩ := List.mem_map.mp hd
  exact .int 0 n
end
/-! ### more readings -/
section
variable {K : PySem.W.Frag} {σ : L2.St} {H H1 : Hp} {g : TG} {tt : TT} {te : TE} {vs : List Nat} {Dl : Addr} {Q : VK}
theorem x_eqB {m n : Bool} : rEq (.bl m) (.bl n) H Q ↔ Q (.bl (decide (m = n))) H := by
  unfold rEq
  rw [show scal (V.bl m) (V.bl n) = true from rfl]
  cases m <;> cases n <;> simp
theorem x_neB {m n : Bool} : rNe (.bl m) (.bl n) H Q ↔ Q (.bl (!decide (m = n))) H := by
  unfold rNe
  rw [show scal (V.bl m) (V.bl n) = true from rfl]
  cases m <;> cases n <;> simp
theorem x_eqS {m n : Str} : rEq (.str m) (.str n) H Q ↔ Q (.bl (decide (m = n))) H := by
  unfold rEq
  rw [show scal (V.str m) (V.str n) = true from rfl]
  by_cases e : m = n
  · subst e; simp
  · simp [e]
theorem x_neS {m n : Str} : rNe (.str m) (.str n) H Q ↔ Q (.bl (!decide (m = n))) H := by
  unfold rNe
  rw [show scal (V.str m) (V.str n) = true from rfl]
  by_cases e : m = n
  · subst e; simp
  · simp [e]
theorem allL {p : Addr} {bs : List Bool} (h : SqL K H p (bs.map V.bl)) (q : Q (.bl (bs.all id)) H) : rAll K [.ref p] H Q := ⟨p, bs, rfl, h, q⟩
theorem anyL {p : Addr} {bs : List Bool} (h : SqL K H p (bs.map V.bl)) (q : Q (.bl (bs.any id)) H) : rAny K [.ref p] H Q := ⟨p, bs, rfl, h, q⟩
theorem lenL {p : Addr} {xs : List V} (h : SqL K H p xs) (q : Q (.int (xs.length : Nat)) H) : rLen K [.ref p] H Q := ⟨p, xs, rfl, .inl h, q⟩
theorem lenT {p : Addr} {xs : List V} (h : SqT K H p xs) (q : Q (.int (xs.length : Nat)) H) : rLen K [.ref p] H Q := ⟨p, xs, rfl, .inr h, q⟩
theorem x_izipA {a : TA} {R : It → Hp → Prop} : iZipA K a σ H R = a σ H (fun vs H1 => ∃ a b xs ys, vs = [.ref a, .ref b] ∧ ((SqL K H1 a xs ∧ SqL K H1 b ys ∧ R (Itz K a b) H1) ∨ (SqT K H1 a xs ∧ SqT K H1 b ys ∧ R (ItzT K a b) H1))) := rfl
theorem eq_same {v : V} (h : scal v v = true) (q : Q (.bl true) H) : rEq v v H Q := ⟨h, by rw [decide_eq_true rfl]; exact q⟩
theorem g_three {i j l : Nat} {T : Addr} {x y z : V} {QG : L2.St → Hp → Prop} (h : H T = some (.tup [x, y, z])) (q : QG (((σ.set i (some x)).set j (some y)).set l (some z)) H) : gTup K 3 (gCons (gName i) (gCons (gName j) (gCons (gName l) gNil))) (.ref T) σ H QG :=
  ⟨T, [x, y, z], rfl, .inl (.inl h), rfl, x, [y, z], rfl, y, [z], rfl, z, [], rfl, rfl, q⟩
theorem lc_zip {a b : Addr} {xs ys : List V} {j k : Nat} (keep : Nat → Bool) (f : Nat → V) (hx : SqL K H1 a xs) (hy : SqL K H1 b ys) (he0 : xs.length = ys.length) (hD : H1 Dl = none) (hn : xs.length ≤ 100000)
    (hw : ∀ u v : V, wipe (((wipe σ vs).set j (some u)).set k (some v)) vs = wipe σ vs)
    (ht : ∀ i x y, xs[i]? = some x → ys[i]? = some y → Evl.EvT tt (((wipe σ vs).set j (some x)).set k (some y)) H1 (keep i))
    (he : ∀ i x y, xs[i]? = some x → ys[i]? = some y → keep i = true → Evl.Ev te (((wipe σ vs).set j (some x)).set k (some y)) H1 (f i))
    (hd : ∀ H', Evl.Ex H1 H' → H' Dl = some (.lst (kept xs.length keep f)) → Q (.ref Dl) H') : LcG (Itz K a b) (gTup K 2 (gCons (gName j) (gCons (gName k) gNil))) tt te vs σ Dl H1 Q := by
  have gx : ∀ i, i < xs.length → xs[i]? = some (xs.getD i .non) := fun i hi => by rw [List.getD_eq_getElem?_getD, List.getElem?_eq_getElem hi]; rfl
  have gy : ∀ i, i < xs.length → ys[i]? = some (ys.getD i .non) := fun i hi => by rw [List.getD_eq_getElem?_getD, List.getElem?_eq_getElem (by omega)]; rfl
  refine lc_pure xs.length (fun i => ((wipe σ vs).set j (some (xs.getD i .non))).set k (some (ys.getD i .non))) keep f hD hn (fun H' e => ⟨xs, ys, Evl.ex_l e hx, Evl.ex_l e hy, .inl (Nat.le_refl _)⟩)
    (fun i H' hi e => ⟨xs, ys, _, _, Evl.ex_l e hx, Evl.ex_l e hy, gx i hi, gy i hi⟩)
    (fun i H' x H'' QG hi e y q => ?_) (fun i hi => hw _ _) (fun i hi => ht i _ _ (gx i hi) (gy i hi)) (fun i hi => he i _ _ (gx i hi) (gy i hi)) hd
  obtain ⟨T, u, v, rfl, hT, rfl, hf, hf2⟩ := y
  have hu := hf xs (Evl.ex_l e hx)
  have hv := hf2 ys (Evl.ex_l e hy)
  have e1 : xs.getD i .non = u := by rw [List.getD_eq_getElem?_getD, hu]; rfl
  have e2 : ys.getD i .non = v := by rw [List.getD_eq_getElem?_getD, hv]; rfl
  refine g_two upd_same ?_
  have q2 := q (Evl.Ex.new hT)
  rw [e1, e2] at q2
  exact q2
theorem lc_zipT {a b : Addr} {xs ys : List V} {j k : Nat} (keep : Nat → Bool) (f : Nat → V) (hx : SqT K H1 a xs) (hy : SqT K H1 b ys) (he0 : xs.length = ys.length) (hD : H1 Dl = none) (hn : xs.length ≤ 100000)
    (hw : ∀ u v : V, wipe (((wipe σ vs).set j (some u)).set k (some v)) vs = wipe σ vs)
    (ht : ∀ i x y, xs[i]? = some x → ys[i]? = some y → Evl.EvT tt (((wipe σ vs).set j (some x)).set k (some y)) H1 (keep i))
    (he : ∀ i x y, xs[i]? = some x → ys[i]? = some y → keep i = true → Evl.Ev te (((wipe σ vs).set j (some x)).set k (some y)) H1 (f i))
    (hd : ∀ H', Evl.Ex H1 H' → H' Dl = some (.lst (kept xs.length keep f)) → Q (.ref Dl) H') : LcG (ItzT K a b) (gTup K 2 (gCons (gName j) (gCons (gName k) gNil))) tt te vs σ Dl H1 Q := by
  have gx : ∀ i, i < xs.length → xs[i]? = some (xs.getD i .non) := fun i hi => by rw [List.getD_eq_getElem?_getD, List.getElem?_eq_getElem hi]; rfl
  have gy : ∀ i, i < xs.length → ys[i]? = some (ys.getD i .non) := fun i hi => by rw [List.getD_eq_getElem?_getD, List.getElem?_eq_getElem (by omega)]; rfl
  refine lc_pure xs.length (fun i => ((wipe σ vs).set j (some (xs.getD i .non))).set k (some (ys.getD i .non))) keep f hD hn (fun H' e => ⟨xs, ys, Evl.ex_t e hx, Evl.ex_t e hy, .inl (Nat.le_refl _)⟩)
    (fun i H' hi e => ⟨xs, ys, _, _, Evl.ex_t e hx, Evl.ex_t e hy, gx i hi, gy i hi⟩)
    (fun i H' x H'' QG hi e y q => ?_) (fun i hi => hw _ _) (fun i hi => ht i _ _ (gx i hi) (gy i hi)) (fun i hi => he i _ _ (gx i hi) (gy i hi)) hd
  obtain ⟨T, u, v, rfl, hT, rfl, hf, hf2⟩ := y
  have hu := hf xs (Evl.ex_t e hx)
  have hv := hf2 ys (Evl.ex_t e hy)
  have e1 : xs.getD i .non = u := by rw [List.getD_eq_getElem?_getD, hu]; rfl
  have e2 : ys.getD i .non = v := by rw [List.getD_eq_getElem?_getD, hv]; rfl
  refine g_two upd_same ?_
  have q2 := q (Evl.Ex.new hT)
  rw [e1, e2] at q2
  exact q2
theorem all_true (n : Nat) : ((List.replicate n true).all id) = true := by
  induction n with
  | zero => rfl
  | succ n ih => rw [List.replicate_succ, List.all_cons, ih]; rfl
theorem kept_const (n : Nat) (v : V) : kept n (fun _ => true) (fun _ => v) = List.replicate n v := by
  rw [kept_all]
  apply List.ext_getElem?
  intro j
  rw [List.getElem?_map]
  by_cases h : j < n
  · rw [List.getElem?_range h, List.getElem?_replicate, if_pos h]
    rfl
  · rw [List.getElem?_eq_none (by rw [List.length_range]; omega), List.getElem?_eq_none (by rw [List.length_replicate]; omega)]
    rfl
end
end BC

set_option Elab.async false
set_option linter.all false
set_option maxRecDepth 100000
set_option maxHeartbeats 4000000
/-! repr of lists wants to know that no repr is under way around: promises that hold where nothing is guarded -/
namespace BC
open PySem PySem.Spec PyProof.Rows L2 Evl
/-- nothing is guarded around -/
def G0 (A : Around) : Prop := A.guards = some []
theorem G0.deeper {A : Around} (g : G0 A) (env : Env) : G0 (A.deeper env) := g
/-- FnOk where nothing is guarded around -/
structure FnG (P : Program) (w : World) (K : PySem.W.Frag) (mg : Str → Option Value) (base : Heap) (CX : CXT) (k : Nat) (f : Addr) (fd : FuncData) (ps : List Str) (sp : Sp) : Prop where
  size : ∀ vs H Q E, sp vs H Q E → vs.length = ps.length
  go : ∀ (A : Around) (outer : List Env) (s : Shared) (H : Hp) (args : Args) (us : List Value) (vs : List V) (Q : VK) (E : XK), G0 A → Room k A → Env0 P w K mg base A outer s H →
    BindsTo s fd args (ps.zip us) → Vals vs us → sp vs H Q E → codeAny (model P w) A (.call (.ref f) args) (CR CX outer P w H s Q E) s
section
variable {P : Program} {w : World} {K : PySem.W.Frag} {mg : Str → Option Value} {base : Heap} {CX : CXT} {k : Nat} {f : Addr} {fd : FuncData} {ps : List Str} {sp : Sp}
theorem FnG.of (F : FnOk P w K mg base CX k f fd ps sp) : FnG P w K mg base CX k f fd ps sp :=
  ⟨F.len, fun A outer s H args us vs Q E _ => F.run A outer s H args us vs Q E⟩
theorem FnG.up (F : FnG P w K mg base CX k f fd ps sp) {j : Nat} (h : k ≤ j) : FnG P w K mg base CX j f fd ps sp :=
  ⟨F.size, fun A outer s H args us vs Q E g hr => F.go A outer s H args us vs Q E g (hr.mono h)⟩
/-- the rule for a def -/
theorem fun_okG {x qual : Str} {st : Stmt} {N : List Str} (F : Fun K x qual st f fd) (S : FnScope N ps (defScope st)) (size : ∀ vs H Q E, sp vs H Q E → vs.length = ps.length)
    (body : ∀ (cdv : Value) (A : Around) (outer : List Env) (s : Shared) (H : Hp) (vs : List V) (Q : VK) (E : XK), G0 (A.deeper (envOfC qual (defScope st) s.heap.objs.size f cdv)) → Room k (A.deeper (envOfC qual (defScope st) s.heap.objs.size f cdv)) → sp vs H Q E →
      ∃ t, PSs (cxOf CX P w K mg base N qual (defScope st) f cdv A outer s H E) (defBody st) t ∧ t { nx := fun _ H' => Q .non H', rt := Q } (start N vs) H) : FnG P w K mg base CX (k + 1) f fd ps sp := by
  obtain ⟨oc, od, kV, doc, pm, an, cdv, ct, osl, rfl, lk, hcd⟩ := F.ex
  refine ⟨size, fun A outer s H args us vs Q E g room env bind vals prom => ?_⟩
  have inK : K.In s.heap := env.mod.kin.keeps fun b o q => (env.bs b o q).1
  have loose : s.heap.NoLimit := env.mod.nolimit.keeps fun b o q => (env.bs b o q).1
  have kinds : ∀ z ∈ ps.zip us, (defScope st).names.lookup z.1 = some .local ∨ ((defScope st).names.lookup z.1 = some .cell ∧ ((cellsFrom (s.heap.objs.size + 1) (defScope st).names []).lookup z.1).isSome = true) := by
    rintro ⟨n, v⟩ hz
    have hn := (List.of_mem_zip hz).1
    rcases S.par n hn with h | h
    · exact Or.inl h
    · exact Or.inr ⟨h, PySem.W.cellsFrom_some _ _ _ (Or.inl h)⟩
  refine codeAny_call_function room.depth (inK _ _ lk) rfl S.co S.gen rfl (PySem.W.codeRec_of inK hcd) (bind _ _ _ _ ?_)
  refine wpAny_newFunctionEnv_cells S.kind kinds fun env' e1 s1 into => ?_
  subst e1
  refine ⟨loose.keeps into.toInCall.keep, codeAny_func ?_⟩
  obtain ⟨t, deriv, read⟩ := body cdv A outer s H vs Q E (g.deeper _) (room.deeper _) prom
  have I := inv_start (CX := CX) (E := E) S room.hd env (size _ _ _ _ prom) vals into
  refine wpAny_mono (deriv.run [] s1 (start N vs) H _ I read) (fun flow s' ends => ?_) fun _ _ q => q
  have done : ∀ {σ2 : L2.St} {H2 : Hp} {v : V} {u : Value}, Inv (cxOf CX P w K mg base N qual (defScope st) f cdv A outer s H E) [] σ2 H2 s' → RelV v u → Q v H2 → CE outer P w H s Q u s' := by
    intro σ2 H2 v u J rel q
    exact ⟨v, H2, J.os, J.bare, J.base, J.hok, rel, q⟩
  match flow, ends with
  | .ret u, ends =>
    obtain ⟨v, σ2, H2, J, rel, q⟩ := ends
    exact done J rel q
  | .next, ends =>
    obtain ⟨σ2, H2, J, q⟩ := ends
    exact done (v := V.non) (u := Value.none) J rfl q
  | .brk, ends =>
    obtain ⟨_, _, _, q⟩ := ends
    exact q.elim
  | .cont, ends =>
    obtain ⟨_, _, _, q⟩ := ends
    exact q.elim
end
section
variable {X : Cx} {CX : CXT} {k : Nat} {f : Addr} {fd : FuncData} {ps : List Str} {sp : Sp} {dvs : List V} {ds : List Value} {E : XK} {x : Str} {p pos : Pos} {e : Expr} {es : List Expr} {t : TA}
theorem call_G {pins : List (Addr × Obj)} {σ : L2.St} {H : Hp} {s : Shared} {Q : VK} {us : List Value} {vs : List V} (F : FnG X.prog X.w X.K X.mg X.base CX k f fd ps sp) (g : G0 X.A) (hr : Room k X.A) (hb : Binds X.K fd ps ds) (hd : Vals dvs ds)
    (hx : Passes CX X E) (I : Inv X pins σ H s) (r : Vals vs us) (h : sp (vs ++ dvs) H Q E) : wpAny (model X.prog X.w) X.A (call (.ref f) us) (EP X pins σ Q) X.xe s := by
  have both : Vals (vs ++ dvs) (us ++ ds) := r.append hd
  have many : (us ++ ds).length = ps.length := both.length.symm.trans (F.size _ _ _ _ h)
  have run := F.go X.A X.stack s H ⟨us, []⟩ (us ++ ds) (vs ++ dvs) Q E g hr I.env0 (hb s us I.kIn many) both h
  refine wpAny_call (codeAny_mono run fun res s' q => ?_)
  match res, q with
  | .error err, q => exact hx pins σ H s err s' I q
  | .ok (.ret u), q => exact I.after q
theorem pe_callG (F : FnG X.prog X.w X.K X.mg X.base CX k f fd ps sp) (g : G0 X.A) (hr : Room k X.A) (hg : Gl X x) (hm : X.mg x = some (.ref f)) (hk : PySem.W.keepIn X.K (.ref f) = true) (hb : Binds X.K fd ps ds) (hd : Vals dvs ds) (hx : Passes CX X E)
    (ha : PA X (e :: es) t) (hdb : (x == ("__debug__" : Str)) = false := by decide) (he : starEach (e :: es) X.env = (false, eval e X.env) :: starEach es X.env := by rfl) (hpl : (backTo pos (starEach es X.env)).any (·.1) = false := by rfl) :
    PE X (.Call (.Name x p) (e :: es) [] pos) (tCall sp dvs E t) := by
  constructor
  intro pins s σ H Q I h
  have args := ha.run pos pins s σ H _ I h
  refine wpAny_Call_Name_kw (ld_glob I hg hm (PySem.W.callWith_K (h₀ := X.base) I.ok.mod.kin hk (thn args ?_) he hpl) hdb)
  rintro us s1 ⟨vs, H1, I1, r, q⟩
  exact ⟨I1.kIn, call_G F g hr hb hd hx I1 r q⟩
end

/-! ### the law's own call, for a promise of this kind -/
section
variable {P : Program} {w : World} {K : PySem.W.Frag} {mg mb : Str → Option Value} {k : Nat} {fa a : Addr} {fd : FuncData} {x : Str} {sp : Sp} {s : Shared} {vs : List Value} {ns : List Int}
/-- the abstract heap at the entry: the script alone, locked; or nothing, where the script is the module's own -/
def entryH (a : Addr) (vs : List Value) (ns : List Int) (own : Bool) : Hp := fun b => if own = false ∧ b = a then some (.frz { cls := .type "list", data := .seq vs.toArray } (.lst (ns.map V.int))) else none
theorem entry_other {own : Bool} {b : Addr} (h : b ≠ a) : entryH a vs ns own b = none := if_neg fun z => h z.2
theorem entry_own {b : Addr} : entryH a vs ns true b = none := if_neg fun z => nomatch z.1
theorem entry_at : entryH a vs ns false a = some (.frz { cls := .type "list", data := .seq vs.toArray } (.lst (ns.map V.int))) := if_pos ⟨rfl, rfl⟩
theorem entry_case {own : Bool} {b : Addr} {o : HO} (h : entryH a vs ns own b = some o) : own = false ∧ b = a ∧ o = .frz { cls := .type "list", data := .seq vs.toArray } (.lst (ns.map V.int)) := by
  unfold entryH at h
  by_cases q : own = false ∧ b = a
  · rw [if_pos q] at h
    exact ⟨q.1, q.2, (Option.some.inj h).symm⟩
  · rw [if_neg q] at h
    cases h
theorem law_goG (hK : K.In s.heap) (hns : s.heap.Ns mainGlobals mg) (hb : s.heap.Ns builtinsNs mb) (hbb : ∀ x : Str, x ≠ "__name__" → mb x = bootBuiltins x) (hlim : s.heap.NoLimit) (hg : s.gens = #[])
    (ha : s.heap.get? a = some { cls := .type "list", data := .seq vs.toArray }) (hi : IntsAre vs ns) (hl : ns.length ≤ sizeLine) (hr : Room k callerA)
    (F : ∀ base : Heap, K.In base → base.Ns mainGlobals mg → FnG P w K mg base CX0 k fa fd [x] sp) (bind : ∀ (s : Shared) (u : Value), BindsTo s fd ⟨[u], []⟩ [(x, u)])
    (prom : ∀ H : Hp, SqL K H a (ns.map V.int) → sp [.ref a] H (fun v _ => v = .bl true) fun _ _ _ => False) :
    codeAny (model P w) callerA (.call (.ref fa) ⟨[.ref a], []⟩) (fun r s' => r = .ok (.ret (.bool true)) ∧ OldK s.heap s'.heap ∧ s'.os = s.os ∧ AllBare s'.gens) s := by
  have rv := vals_ints hi
  have many := hi.length
  obtain ⟨own, hown⟩ : ∃ own : Bool, own = (K.lookup a).isSome := ⟨_, rfl⟩
  let H : Hp := entryH a vs ns own
  have reads : SqL K H a (ns.map V.int) := by
    cases q : K.lookup a with
    | none =>
      have e : own = false := by rw [hown, q]; rfl
      exact Or.inl (Or.inr ⟨_, by show entryH a vs ns own a = _; rw [e]; exact entry_at⟩)
    | some o =>
      have z := hK a o q
      rw [ha] at z
      cases z
      refine Or.inr ⟨_, vs.toArray, _, q, rfl, rfl, rfl, ?_, ?_⟩
      · rw [List.size_toArray, many]
        exact hl
      · exact rv
  have held : HOk P w H s.heap := fun b o q => by
    obtain ⟨_, rfl, rfl⟩ := entry_case q
    exact ⟨ha, by rw [List.length_map]; exact hl, vs, _, rv, ha⟩
  have spare : ∀ {b : Addr} {o : Obj}, s.heap.get? b = some o → (∀ u n, o.data ≠ .seq u n) → H b = none := fun {b o} e d => by
    cases q : H b with
    | none => rfl
    | some u =>
      obtain ⟨_, rfl, _⟩ := entry_case q
      rw [ha] at e
      cases e
      exact absurd rfl (d _ _)
  have nsT : ∀ {b : Addr} {m : Str → Option Value}, s.heap.Ns b m → (hidT s.heap H).Ns b m := by
    rintro b m ⟨o, es, ep, e, d, r⟩
    exact ⟨o, es, ep, hidT_get e (spare e fun u n z => by rw [d] at z; cases z), d, r⟩
  have kT : K.In (hidT s.heap H) := fun b o e => hidT_get (hK b o e) (by
    cases q : H b with
    | none => rfl
    | some u =>
      obtain ⟨z, rfl, _⟩ := entry_case q
      rw [hown, e] at z
      cases z)
  have module : Mod K mg (hidT s.heap H) := ⟨kT, nsT hns, ⟨mb, nsT hb, hbb⟩, by obtain ⟨mc, h1, h2⟩ := hlim; exact ⟨mc, nsT h1, h2⟩⟩
  have entry : Env0 P w K mg (hidT s.heap H) callerA [] s H :=
    ⟨rfl, module, fun b o e => of_hidT e, Nat.le_of_eq (hidT_size _ _), trivial, fun b z => (List.not_mem_nil z).elim, held, .of_eq hg⟩
  have ran := (F _ kT (nsT hns)).go callerA [] s H ⟨[.ref a], []⟩ [.ref a] [.ref a] _ _ rfl hr entry (bind s (.ref a)) (.cons rfl .nil) (prom H reads)
  refine codeAny_mono ran fun r s' q => ?_
  match r, q with
  | .ok (.ret u), q =>
    obtain ⟨v, H', os, bare, un, held', rel, fin⟩ := q
    obtain rfl : v = .bl true := fin
    obtain rfl : u = Value.bool true := rel
    refine ⟨rfl, OldK.of_keep fun b o e => ?_, os, bare⟩
    cases q : H b with
    | none => exact un.keep b o e q (fun z => (List.not_mem_nil z).elim) List.not_mem_nil
    | some u =>
      obtain ⟨_, rfl, rfl⟩ := entry_case q
      have z := (held' _ _ (un.frzs _ _ _ q)).1
      rw [ha] at e
      cases e
      exact z
theorem walk_G {l : PySem.W.OpenLaw} {n k : Nat} {q : Program} {loose : List Str} {XP : (Str → Option Value) → Heap → Prop} {YP : World → Heap → Prop} {d : DefRec} {K : Params → PySem.W.Frag} {sp : World → Sp} {x : Str}
    (hn : l.most = some n) (hn2 : n ≤ sizeLine) (hdf : d.params.defaults = []) (hr : Room k callerA) (hY : ∀ (w : World) (h : Heap), YP w h → (K w.params).In h)
    (F : ∀ (w : World) (mg : Str → Option Value) (fa : Addr) (h : Heap), (K w.params).In h → h.Ns mainGlobals mg → mg d.name = some (.ref fa) →
      ∃ fd : FuncData, (∀ (s : Shared) (u : Value), BindsTo s fd ⟨[u], []⟩ [(x, u)]) ∧ ∀ base : Heap, (K w.params).In base → base.Ns mainGlobals mg → FnG l.prog w (K w.params) mg base CX0 k fa fd [x] (sp w))
    (prom : ∀ (w : World) (H : Hp) (a : Addr) (ns : List Int), ns.length ≤ n → SqL (K w.params) H a (ns.map V.int) → sp w [.ref a] H (fun v _ => v = .bl true) fun _ _ _ => False) :
    PySem.W.WalkO q loose XP YP l.row.toRowW d [] (fun f vs => PySem.call f vs) := by
  refine Att.attach_call hn hdf ?_
  intro w s0 s1 mg mb fa o pm cd doc a vs ns G Y _ hd hcd hmg hobj hints hlen hg
  have inK := hY w _ Y
  obtain ⟨fd, bind, keep⟩ := F w mg fa _ inK G.T.g hmg
  exact law_goG inK G.T.g G.T.b G.T.builtins G.T.nolimit hg hobj hints (Nat.le_trans hlen hn2) hr keep bind fun H hS => prom w H a ns hlen hS
end
end BC

set_option Elab.async false
set_option linter.all false
set_option maxRecDepth 100000
set_option maxHeartbeats 4000000
/-! repr, keywords, more readings -/
namespace BC
open PySem PySem.Spec PyProof.Rows L2 Evl
section
variable {X : Cx} {K : PySem.W.Frag} {σ : L2.St} {H : Hp} {Q : VK}
/-- repr of lists, tuples and what lies in them -/
def rRepr (K : PySem.W.Frag) : List V → Hp → VK → Prop := fun xs H Q => ∃ a d, xs = [.ref a] ∧ Dp K H (.ref a) d ∧ d.showable = true ∧ d.depth ≤ 60 ∧ d.hasDict = false ∧ d.shown.length ≤ sizeLine ∧ Q (.str d.shown) H
theorem k_repr (hK : X.K = K) (g : G0 X.A) (hu : X.A.units + 64 < cLine) : CallR X (.builtin "repr") (rRepr K) := by
  subst hK
  intro pins s σ H xs us Q I r h
  obtain ⟨a, d, rfl, hd, h1, h2, h3, h4, q⟩ := h
  obtain ⟨u, rfl, rfl⟩ := vals1 r
  obtain ⟨as, rd⟩ := Dp.reads I d (.ref a) (.ref a) hd rfl
  exact repr_of_reads' rd h1 (PyData.noDict_hsm h3) g (by omega) (fun _ _ e => e) (fun h' u tk hk => ⟨.str _, H, I.kept hk, ⟨_, rfl⟩, q⟩) h4
def rIsB : R2 := fun x y H Q => ∃ a b, x = .bl a ∧ y = .bl b ∧ Q (.bl (decide (a = b))) H
def rIsNB : R2 := fun x y H Q => ∃ a b, x = .bl a ∧ y = .bl b ∧ Q (.bl (!decide (a = b))) H
theorem op_isB : OpR X (compareOp .Is) rIsB := op_is_bl
theorem op_isNB : OpR X (compareOp .IsNot) rIsNB := op_isnot_bl
theorem x_isB {a b : Bool} : rIsB (.bl a) (.bl b) H Q ↔ Q (.bl (decide (a = b))) H := ⟨fun ⟨i, j, e1, e2, q⟩ => by cases e1; cases e2; exact q, fun q => ⟨a, b, rfl, rfl, q⟩⟩
theorem x_isNB {a b : Bool} : rIsNB (.bl a) (.bl b) H Q ↔ Q (.bl (!decide (a = b))) H := ⟨fun ⟨i, j, e1, e2, q⟩ => by cases e1; cases e2; exact q, fun q => ⟨a, b, rfl, rfl, q⟩⟩
theorem x_lrg {te : L2.St → Hp → (Int → Int → Hp → Prop) → Prop} : tLstRg te σ H Q = te σ H fun a b H1 => RgOk a b ∧ ∀ q, H1 q = none → Q (.ref q) (upd H1 q (.lst (rgV a b))) := rfl
theorem x_rg1 {ta : TE} {R : Int → Int → Hp → Prop} : tRg1 ta σ H R = ta σ H fun x H1 => ∃ n, x = .int n ∧ R 0 n H1 := rfl
theorem x_rg2 {ta tb : TE} {R : Int → Int → Hp → Prop} : tRg2 ta tb σ H R = ta σ H fun x H1 => tb σ H1 fun y H2 => ∃ i j, x = .int i ∧ y = .int j ∧ R i j H2 := rfl
end
theorem Fx.mut {b r : Addr} {H H' : Hp} {o : HO} (f : Fx b H H') (n : H r = none) : Fx b H (upd H' r o) := fun a u na h => by rw [upd_ne (ne_of_none h n)]; exact f a u na h
theorem fx_none {b x : Addr} {H H' : Hp} (h : Fx b H H') (n : H' x = none) (nb : x ≠ b) : H x = none := by
  cases e : H x with
  | none => rfl
  | some o => rw [h _ _ nb e] at n; cases n
/-- a promise that asks for more -/
theorem weak {P : Program} {w : World} {K : PySem.W.Frag} {mg : Str → Option Value} {base : Heap} {CX : CXT} {k : Nat} {f : Addr} {fd : FuncData} {ps : List Str} {sp sp' : Sp} (F : FnOk P w K mg base CX k f fd ps sp) (h : ∀ vs H Q E, sp' vs H Q E → sp vs H Q E) : FnOk P w K mg base CX k f fd ps sp' :=
  ⟨fun vs H Q E q => F.len vs H Q E (h _ _ _ _ q), fun A outer s H args us vs Q E hr env bind vals q => F.run A outer s H args us vs Q E hr env bind vals (h _ _ _ _ q)⟩
/-! ### a cut: what stands after one statement -/
section
variable {σ : L2.St} {H : Hp} {D : Ends} {ta : TE} {s1 s2 : TS} {i : Nat}
theorem seq_asg (C : V → Hp → Prop) (h1 : ∀ R : VK, (∀ v H', C v H' → R v H') → ta σ H R) (h2 : ∀ v H', C v H' → s2 D (σ.set i (some v)) H') : tSeq (tAsg ta (gName i)) s2 D σ H := h1 _ h2
theorem seq_cut (C : L2.St → Hp → Prop) (h1 : ∀ N : L2.St → Hp → Prop, (∀ σ' H', C σ' H' → N σ' H') → s1 { D with nx := N } σ H) (h2 : ∀ σ' H', C σ' H' → s2 D σ' H') : tSeq s1 s2 D σ H := h1 _ h2
end
/-! ### keywords -/
def kg {α : Type} (d : α) (a b : Nat) (perm : List Nat) (us ws : List α) : List α := if us.length = a ∧ ws.length = b then perm.map fun i => (us ++ ws).getD i d else []
theorem vals_getD : ∀ {vs : List V} {us : List Value}, Vals vs us → ∀ i, RelV (vs.getD i .non) (us.getD i .none)
  | [], [], .nil, _ => rfl
  | _ :: _, _ :: _, .cons h _, 0 => h
  | _ :: _, _ :: _, .cons _ r, i + 1 => vals_getD r i
theorem vals_perm {vs : List V} {us : List Value} (r : Vals vs us) : ∀ p : List Nat, Vals (p.map fun i => vs.getD i .non) (p.map fun i => us.getD i .none)
  | [] => .nil
  | i :: p => .cons (vals_getD r i) (vals_perm r p)
theorem kg_rel {a b : Nat} {p : List Nat} {vs : List V} {us : List Value} {zs : List V} {ws : List Value} (r : Vals vs us) (z : Vals zs ws) : Vals (kg .non a b p vs zs) (kg .none a b p us ws) := by
  unfold kg
  rw [r.length, z.length]
  split
  · exact vals_perm (r.append z) p
  · exact .nil
theorem kg_mk {K : PySem.W.Frag} {fd : FuncData} {q : Str} {ps ks : List Str} {a b : Nat} {p : List Nat} (h : ∀ us ws : List Value, us.length = a → ws.length = b → bindArgs fd ⟨us, ks.zip ws⟩ = pure ((q :: ps).zip (p.map fun i => (us ++ ws).getD i .none))) :
    KBinds K fd (q :: ps) ks (kg .none a b p) (kg .non a b p) := by
  refine ⟨fun s us ws _ hl => ?_, kg_rel⟩
  unfold kg at hl ⊢
  split at hl
  · next c =>
    rw [if_pos c]
    exact .of_eq (h us ws c.1 c.2)
  · cases hl
theorem fun_okN {P : Program} {w : World} {K : PySem.W.Frag} {mg : Str → Option Value} {base : Heap} {CX : CXT} {k : Nat} {f : Addr} {fd : FuncData} {ps : List Str} {sp : Sp} {x qual : Str} {st : Stmt} {N : List Str} (F : Fun K x qual st f fd) (S : FnScope N ps (defScope st)) (size : ∀ vs H Q E, sp vs H Q E → vs.length = ps.length)
    (body : ∀ (cdv : Value) (A : Around) (outer : List Env) (s : Shared) (H : Hp) (vs : List V) (Q : VK) (E : XK), G0 (A.deeper (envOfC qual (defScope st) s.heap.objs.size f cdv)) → Room k (A.deeper (envOfC qual (defScope st) s.heap.objs.size f cdv)) → sp vs H Q E →
      ∃ t, PSs (cxOf CX P w K mg base N qual (defScope st) f cdv A outer s H E).nox (defBody st) t ∧ t { nx := fun _ H' => Q .non H', rt := Q } (start N vs) H) : FnG P w K mg base CX (k + 1) f fd ps sp :=
  fun_okG F S size fun cdv A outer s H vs Q E hG hr h => let ⟨t, d, q⟩ := body cdv A outer s H vs Q E hG hr h; ⟨t, d.nox, q⟩
theorem Fun.kb {K : PySem.W.Frag} {x qual q : Str} {st : Stmt} {f : Addr} {fd : FuncData} {ps ks : List Str} {a b : Nat} {p : List Nat} (F : Fun K x qual st f fd)
    (h : ∀ (kV doc pm : Value) (an : Option Addr) (cdv ct : Value) (us ws : List Value), us.length = a → ws.length = b → bindArgs (PySem.W.fnOf x qual (defArgs st) (defBody st) (defScope st) .none kV doc pm an cdv ct) ⟨us, ks.zip ws⟩ = pure ((q :: ps).zip (p.map fun i => (us ++ ws).getD i .none))) :
    KBinds K fd (q :: ps) ks (kg .none a b p) (kg .non a b p) := by
  obtain ⟨oc, od, kV, doc, pm, an, cdv, ct, osl, rfl, lk, hcd⟩ := F.ex
  exact kg_mk (h kV doc pm an cdv ct)
section
variable {X : Cx} {CX : CXT} {k : Nat} {f : Addr} {fd : FuncData} {ps ks : List Str} {sp : Sp} {E : XK} {x : Str} {p pos : Pos} {e : Expr} {es : List Expr} {kws : List Keyword} {t tk : TA} {g : List Value → List Value → List Value} {gV : List V → List V → List V}
theorem pe_callK0 (F : FnOk X.prog X.w X.K X.mg X.base CX k f fd ps sp) (hr : Room k X.A) (hg : Gl X x) (hm : X.mg x = some (.ref f)) (hk : PySem.W.keepIn X.K (.ref f) = true) (hb : KBinds X.K fd ps ks g gV) (hx : Passes CX X E)
    (hkw : PK X kws tk) (hall : (backToKw pos (keywordEach kws X.env)).all (·.1.isSome) = true := by rfl) (hks : (backToKw pos (keywordEach kws X.env)).filterMap (·.1) = ks := by rfl)
    (hdb : (x == ("__debug__" : Str)) = false := by decide)
    (hpl : ((backTo pos (starEach [] X.env)).any (·.1) || (backToKw pos (keywordEach kws X.env)).any (·.1.isNone)) = false := by rfl) :
    PE X (.Call (.Name x p) [] kws pos) (tCallK sp gV E tNil tk) := by
  refine ⟨fun pins s σ H Q I h => ?_⟩
  refine wpAny_Call_Name_kw (ld_glob I hg hm ?_ hdb)
  refine PySem.W.callWith_KW0 (h₀ := X.base) I.ok.mod.kin hk hall (thn (hkw.run pos pins s σ H _ I h) fun ws s2 ⟨zs, H2, I2, rz, q2⟩ => ⟨I2.kIn, ?_⟩) hpl
  rw [hks]
  exact run_fnk F hr hb hx I2 .nil rz q2
theorem run_fnkG {pins : List (Addr × Obj)} {σ : L2.St} {H : Hp} {s : Shared} {Q : VK} {us ws : List Value} {vs zs : List V} (F : FnG X.prog X.w X.K X.mg X.base CX k f fd ps sp) (g0 : G0 X.A) (hr : Room k X.A) (hb : KBinds X.K fd ps ks g gV) (hx : Passes CX X E)
    (I : Inv X pins σ H s) (r : Vals vs us) (rz : Vals zs ws) (h : sp (gV vs zs) H Q E) : wpAny (model X.prog X.w) X.A (call (.ref f) us (ks.zip ws)) (EP X pins σ Q) X.xe s := by
  have r2 := hb.rel r rz
  have hl : (g us ws).length = ps.length := by rw [← r2.length]; exact F.size _ _ _ _ h
  refine wpAny_call (codeAny_mono (F.go X.A X.stack s H ⟨us, ks.zip ws⟩ (g us ws) (gV vs zs) Q E g0 hr I.env0 (hb.to s us ws I.kIn hl) r2 h) fun r s' hq => ?_)
  cases r with
  | error e => exact hx pins σ H s e s' I hq
  | ok fl =>
    cases fl with
    | ret u => exact I.after hq
    | next => exact False.elim hq
    | brk => exact False.elim hq
    | cont => exact False.elim hq
theorem pe_callKG (F : FnG X.prog X.w X.K X.mg X.base CX k f fd ps sp) (g0 : G0 X.A) (hr : Room k X.A) (hg : Gl X x) (hm : X.mg x = some (.ref f)) (hk : PySem.W.keepIn X.K (.ref f) = true) (hb : KBinds X.K fd ps ks g gV) (hx : Passes CX X E)
    (ha : PA X (e :: es) t) (hkw : PK X kws tk) (hall : (backToKw pos (keywordEach kws X.env)).all (·.1.isSome) = true := by rfl) (hks : (backToKw pos (keywordEach kws X.env)).filterMap (·.1) = ks := by rfl)
    (hdb : (x == ("__debug__" : Str)) = false := by decide) (he : starEach (e :: es) X.env = (false, eval e X.env) :: starEach es X.env := by rfl)
    (hpl : ((backTo pos (starEach (e :: es) X.env)).any (·.1) || (backToKw pos (keywordEach kws X.env)).any (·.1.isNone)) = false := by rfl) :
    PE X (.Call (.Name x p) (e :: es) kws pos) (tCallK sp gV E t tk) := by
  refine ⟨fun pins s σ H Q I h => ?_⟩
  refine wpAny_Call_Name_kw (ld_glob I hg hm ?_ hdb)
  refine PySem.W.callWith_KW (h₀ := X.base) I.ok.mod.kin hk hall (thn (ha.run pos pins s σ H _ I h) fun us s1 ⟨vs, H1, I1, r, q⟩ => ?_) hpl he
  refine thn (hkw.run pos pins s1 σ H1 _ I1 q) fun ws s2 ⟨zs, H2, I2, rz, q2⟩ => ⟨I2.kIn, ?_⟩
  rw [hks]
  exact run_fnkG F g0 hr hb hx I2 r rz q2
end
end BC

set_option Elab.async false
set_option linter.all false
set_option maxRecDepth 100000
set_option maxHeartbeats 4000000
/-! xs[:] = ys -/
namespace BC
open PySem PySem.Spec PyProof.Rows L2 Evl
theorem bounds_all (n : Nat) : sliceBounds none none none n = (((0 : Nat) : Int), ((n : Nat) : Int), 1) := by
  simp [sliceBounds]
section
variable {prog : Program} {w : World} {A : Around} {s : Shared} {E : Value → Shared → Prop}
theorem setItem_all {l b sl : Addr} {items new : Array Value} {n n2 : Nat} {vl vu : Value} {Q : Unit → Shared → Prop}
    (e : s.heap.get? l = some { cls := .type "list", data := .seq items n }) (e2 : s.heap.get? b = some { cls := .type "list", data := .seq new n2 }) (hne : l ≠ b)
    (hs : s.heap.IsSliceOf sl vl vu .none) (pl : IsPart vl none) (pu : IsPart vu none)
    (hsz : items.size + new.size ≤ sizeLine) (h : Q () { s with heap := s.heap.update l (Obj.mapSeq fun xs => xs.extract 0 0 ++ new ++ xs.extract items.size xs.size) }) :
    wpAny (model prog w) A (setItem (.ref l) (.ref sl) (.ref b)) Q E s := by
  have hl : s.heap.IsList l items := PySem.IsL.isList e
  have hb : s.heap.IsList b new := PySem.IsL.isList e2
  obtain ⟨os, hos, hcs, hds⟩ := id hs
  have hTs : s.TypeIs (.ref sl) "slice" := ⟨os, hos, hcs⟩
  have hstep : ¬ ((rawPart none == rawInt 0) = true) := Bool.false_ne_true
  have hsame : Builtin.List.listSameRef (.ref l) (.ref b) = false := by
    unfold Builtin.List.listSameRef
    exact beq_eq_false_iff_ne.mpr hne
  have hmax : (max ((0 : Nat) : Int) ((items.size : Nat) : Int)).toNat = items.size := by omega
  have hz' : ((fun xs : Array Value => xs.extract 0 0 ++ new ++ xs.extract items.size xs.size) items).size ≤ sizeLine + 1 := by
    simp only [Array.size_append, Array.size_extract]
    omega
  unfold setItem
  try with_reducible refine wpAny_holding ?_
  first | refine wpAny_bind (wpAny_pure ?_) | skip
  refine wpAny_bind (wpAny_sequenceKey hl.typeIs (by decide) ?_)
  refine wpAny_bind (wpAny_callSpecial?_slot (name := Str.ofString "__setitem__") hl.typeIs slot_list_setitem
    (wpAny_call_entry slot_list_setitem hl.typeIs entry_list_setitem ?_ (args_list_setitem _ _ _)))
  show wpAny _ _ (Builtin.List.listSubscript? (.ref sl) >>= _) _ _ s
  refine wpAny_bind ?_
  unfold Builtin.List.listSubscript?
  refine wpAny_bind (wpAny_specialOf hTs slice_no_index ?_)
  simp only [Option.isNone_none, if_true]
  refine wpAny_pure ?_
  show wpAny _ _ (typeOf (.ref sl) >>= _) _ _ s
  refine wpAny_bind (wpAny_typeOf hTs ?_)
  first
    | rw [if_neg (by decide)]
    | refine PySem.W.KFB.if_not (by decide) ?_
  rw [listSliceParts_eq]
  refine wpAny_bind (wpAny_bind (wpAny_field hos hds (x := .none) rfl (wpAny_bind (wpAny_listPart .none ?_))))
  rw [if_neg hstep]
  refine wpAny_bind (wpAny_field hos hds (x := vl) rfl (wpAny_bind (wpAny_listPart pl ?_)))
  refine wpAny_bind (wpAny_field hos hds (x := vu) rfl (wpAny_bind (wpAny_listPart pu (wpAny_pure ?_))))
  first
    | simp only [hsame, Bool.false_eq_true, if_false]
    | refine PySem.W.KFB.if_not hsame ?_
    | (dsimp only
       rw [if_neg (by rw [hsame]; exact Bool.false_ne_true)])
  refine wpAny_bind (m := Builtin.List.listAllItems (.ref b) "must assign iterable to extended slice") ?_
  unfold Builtin.List.listAllItems
  refine wpAny_bind (wpAny_typeOf hb.typeIs ?_)
  first
    | refine PySem.W.KFB.if_so (by decide) ?_
    | rw [if_pos (by decide)]
    | simp only [beq_self_eq_true, Bool.true_or, if_true]
  unfold Builtin.List.listItems
  refine wpAny_bind (wpAny_seqItems e2 rfl (wpAny_pure ?_))
  refine wpAny_bind (wpAny_bind (wpAny_seqItems e rfl (wpAny_pure ?_)))
  refine wpAny_bind (wpAny_of_eq ((sliceIndices_raw none none none items.size (by simp)).trans (congrArg (pure : Int × Int × Int → Sem (Int × Int × Int)) (bounds_all items.size))) ?_)
  show wpAny _ _ (if ((1 : Int) == 1) = true then _ else _) _ _ s
  rw [if_pos (by decide)]
  refine wpAny_bind (wpAny_rule ?_)
  first
    | simp only [notLongL hsz, Bool.false_eq_true, if_false]
    | refine PySem.W.KFB.if_not (notLongL hsz) ?_
  first | refine wpAny_bind (wpAny_pure ?_) | skip
  show wpAny _ _ (updateSeq l (fun xs => xs.extract 0 ((0 : Nat) : Int).toNat ++ new ++ xs.extract (max ((0 : Nat) : Int) ((items.size : Nat) : Int)).toNat xs.size) >>= _) _ _ s
  rw [hmax, Int.toNat_natCast]
  refine wpAny_bind (wpAny_updateSeq (hz := Nat.le_trans (Nat.le_add_right _ _) hsz) (_hz' := hz') e rfl ?_)
  refine wpAny_bind (wpAny_letGo ?_)
  first
    | exact wpAny_bind (wpAny_pure (wpAny_pure ⟨.none, rfl, wpAny_pure h⟩))
    | exact wpAny_pure ⟨.none, rfl, wpAny_pure h⟩
end
section
variable {X : Cx} {o e : Expr} {to : TE} {p2 pos : Pos}
/-- o[:] = v, both lists -/
def gAll (to : TE) : TG := fun v σ H QG => to σ H fun x H1 => ∃ a b xs ys, x = .ref a ∧ v = .ref b ∧ a ≠ b ∧ H1 a = some (.lst xs) ∧ H1 b = some (.lst ys) ∧ xs.length + ys.length ≤ sizeLine ∧ QG σ (upd H1 a (.lst ys))
theorem set_all {pins : List (Addr × Obj)} {s : Shared} {σ : L2.St} {H : Hp} {l b sl : Addr} {xs ys : List V} {vl vu : Value} {Q : Unit → Shared → Prop} (I : Inv X pins σ H s)
    (hH : H l = some (.lst xs)) (hB : H b = some (.lst ys)) (hne : l ≠ b) (hs : s.heap.IsSliceOf sl vl vu .none) (pl : IsPart vl none) (pu : IsPart vu none)
    (hz : xs.length + ys.length ≤ sizeLine) (h : ∀ s', Inv X pins σ (upd H l (.lst ys)) s' → Q () s') :
    wpAny (model X.prog X.w) X.A (setItem (.ref l) (.ref sl) (.ref b)) Q X.xe s := by
  obtain ⟨z, its, n, r, hl, e⟩ := I.lstM hH
  obtain ⟨z2, its2, n2, r2, hl2, e2⟩ := I.lstM hB
  refine setItem_all e e2 hne hs pl pu (by rw [List.size_toArray, List.size_toArray]; omega) (h _ ?_)
  refine I.lset (its' := its2) (t' := s.toks) hH e ?_ r2 (by omega)
  simp
theorem pg_all (ho : PE X o to)
    (ha0 : ∀ v, assign (.Subscript o (.Slice none none none p2) pos) X.env v = (do
      let ov ← holding [v] (eval o X.env)
      let iv ← holding [v, ov] (eval (.Slice none none none p2) X.env)
      standAt pos
      holding [v, ov, iv] (setItem ov iv v)
      release [iv, v, ov] []) := by intro _; rfl) : PG X (.Subscript o (.Slice none none none p2) pos) (gAll to) := by
  refine ⟨fun pins s σ H v u Q I r h => ?_⟩
  rw [ha0]
  refine wpAny_bind (wpAny_holding (thn (ho.run pins s σ H _ I h) fun ov s1 ⟨x, H1, I1, r1, q1⟩ => ?_))
  obtain ⟨a, b, xs, ys, rfl, rfl, hne, ha, hb, hz, q⟩ := q1
  cases r1
  cases r
  refine wpAny_bind (wpAny_holding ?_)
  refine wpAny_Slice ?_
  rw [evalPart_none]
  refine wpAny_pure ?_
  refine wpAny_pure ?_
  refine wpAny_pure ?_
  have I4 : Inv X pins σ H1 { s1 with heap := s1.heap.push { cls := .type "slice", data := .fields #[.none, .none, .none] } } := I1.kept (t' := s1.toks) fun b ob q => Heap.get?_push_of_some _ q
  refine wpAny_bind (wpAny_standAt (wpAny_bind (wpAny_holding ?_)))
  refine set_all I4 ha hb hne (Heap.IsSliceOf.new ..) .none .none hz fun s' I5 => ?_
  exact wpAny_release ⟨σ, _, I5, q⟩
def rDivmod : List V → Hp → VK → Prop := fun xs H Q => ∃ i j, xs = [.int i, .int j] ∧ CDivW i j ∧ ∀ p, H p = none → Q (.ref p) (upd H p (.tup [.int (i / j), .int (i % j)]))
theorem call_dmX : CallR X (.builtin "divmod") rDivmod := by
  intro pins s σ H xs us Q I r h
  obtain ⟨i, j, rfl, hc, q⟩ := h
  obtain ⟨u, u2, rfl, ⟨t, rfl⟩, ⟨t2, rfl⟩⟩ := vals2 r
  have pos : 0 < j := hc.1
  have new := I.hok.fresh (Nat.le_refl s.heap.objs.size)
  refine divmod_int (by omega) ?_ (.inl (PyProof.noPylong_of_log2 hc.2))
  rw [Int.fdiv_eq_ediv_of_nonneg i (by omega), Int.fmod_eq_emod_of_nonneg i (by omega)]
  refine ⟨.ref s.heap.objs.size, _, ?_, rfl, q _ new⟩
  refine I.laid (fun b o e => Heap.get?_push_of_some _ e) (Nat.le_refl _) ⟨?_, [.int (i / j) s.toks, .int (i % j) (s.toks + 1)], .cons ⟨_, rfl⟩ (.cons ⟨_, rfl⟩ .nil), ?_⟩
  · exact Evl.sz_of (by simp)
  · exact ⟨_, Heap.get?_push_size s.heap rfl, rfl, 0, rfl⟩
theorem x_gall {σ : L2.St} {H : Hp} {v : V} {QG : L2.St → Hp → Prop} : gAll to v σ H QG = to σ H fun x H1 => ∃ a b xs ys, x = .ref a ∧ v = .ref b ∧ a ≠ b ∧ H1 a = some (.lst xs) ∧ H1 b = some (.lst ys) ∧ xs.length + ys.length ≤ sizeLine ∧ QG σ (upd H1 a (.lst ys)) := rfl
end
end BC

set_option Elab.async false
set_option linter.all false
set_option maxRecDepth 100000
set_option maxHeartbeats 4000000
/-! comprehensions that change what stands, or whose values are chosen as they come -/
namespace BC
open PySem PySem.Spec PyProof.Rows L2 Evl
section
variable {K : PySem.W.Frag} {σ : L2.St} {H1 : Hp} {g : TG} {te : TE} {vs : List Nat} {Dl : Addr} {Q : VK}
theorem lc_rngE {lo : Int} {n : Nat} (Pv : Nat → Hp → Prop) (h0 : Pv 0 (upd H1 Dl (.lst [])))
    (hs : ∀ i H, i < n → Pv i H → g (.int (lo + i)) (wipe σ vs) H fun σ2 H2 => wipe σ2 vs = wipe σ vs ∧ te σ2 H2 fun y H4 => ∃ acc, H4 Dl = some (.lst acc) ∧ acc.length < sizeLine ∧ Pv (i + 1) (upd H4 Dl (.lst (acc ++ [y]))))
    (hd : ∀ H, Pv n H → Q (.ref Dl) H) : LcG (Itr lo n) g tYes te vs σ Dl H1 Q := by
  refine lc_g n Pv h0 (fun H h => Nat.le_refl _) (fun i H hi h => hi) (fun i H x H' hi h y => ?_) hd
  obtain ⟨rfl, rfl⟩ := y
  have q := hs i _ hi h
  exact q
theorem lc_listE {a : Addr} {xs : List V} (Pv : Nat → Hp → Prop) (h0 : Pv 0 (upd H1 Dl (.lst []))) (hl : ∀ i H, i ≤ xs.length → Pv i H → SqL K H a xs)
    (hs : ∀ i x H, xs[i]? = some x → Pv i H → g x (wipe σ vs) H fun σ2 H2 => wipe σ2 vs = wipe σ vs ∧ te σ2 H2 fun y H4 => ∃ acc, H4 Dl = some (.lst acc) ∧ acc.length < sizeLine ∧ Pv (i + 1) (upd H4 Dl (.lst (acc ++ [y]))))
    (hd : ∀ H, Pv xs.length H → Q (.ref Dl) H) : LcG (Itl K a) g tYes te vs σ Dl H1 Q := by
  refine lc_g xs.length Pv h0 (fun H h => ⟨xs, hl _ H (Nat.le_refl _) h, Nat.le_refl _⟩) (fun i H hi h => ⟨xs, xs[i], hl i H (by omega) h, List.getElem?_eq_getElem hi⟩) (fun i H x H' hi h y => ?_) hd
  obtain ⟨rfl, hf⟩ := y
  exact hs i x _ (hf xs (hl i _ (by omega) h)) h
end
/-- a fourfold tuple unpacked -/
theorem g_four {K : PySem.W.Frag} {σ : L2.St} {H : Hp} {i j l m : Nat} {T : Addr} {x y z u : V} {QG : L2.St → Hp → Prop} (h : H T = some (.tup [x, y, z, u])) (q : QG ((((σ.set i (some x)).set j (some y)).set l (some z)).set m (some u)) H) : gTup K 4 (gCons (gName i) (gCons (gName j) (gCons (gName l) (gCons (gName m) gNil)))) (.ref T) σ H QG :=
  ⟨T, [x, y, z, u], rfl, .inl (.inl h), rfl, x, [y, z, u], rfl, y, [z, u], rfl, z, [u], rfl, u, [], rfl, rfl, q⟩
theorem revL {H : Hp} {Q : VK} {p : Addr} {xs : List V} (h : H p = some (.lst xs)) (q : Q .non (upd H p (.lst xs.reverse))) : rReverse (.ref p) [] H Q := ⟨p, xs, rfl, rfl, h, q⟩
theorem Sh.mono {n m : Nat} {d : PyData} (h : Sh n d) (e : n ≤ m) : Sh m d := by
  induction h generalizing m with
  | non n => exact .non m
  | bl n b => exact .bl m b
  | int n i => exact .int m i
  | str n x => exact .str m x
  | @lst n ds hl h ih =>
    cases m with
    | zero => omega
    | succ m => exact .lst hl fun d hd => ih d hd (by omega)
  | @tup n ds hl h ih =>
    cases m with
    | zero => omega
    | succ m => exact .tup hl fun d hd => ih d hd (by omega)
end BC

set_option Elab.async false
set_option linter.all false
set_option maxRecDepth 100000
set_option maxHeartbeats 4000000
/-! visits and their trails, lists of numbers, their repr -/
namespace BC
open PySem PySem.Spec PyProof.Rows L2 Evl
/-! ### data whose repr is short -/
structure Tm (d : PyData) : Prop where
  s : d.showable = true
  n : d.hasDict = false
  l : d.leavesShort 13 = true
theorem Tm.int {i : Int} (h : i.natAbs < 10 ^ 12) : Tm (.int i) := ⟨by
  show decide (i.natAbs.log2 < 1920) = true
  refine decide_eq_true ?_
  by_cases z : i.natAbs = 0
  · rw [z]; decide
  · exact (Nat.log2_lt z).mpr (Nat.lt_of_lt_of_le h (by decide +kernel)), rfl, by
  show decide (_ ≤ 13) = true
  exact decide_eq_true (PyData.shown_int_le h)⟩
theorem Tm.all {ds : List PyData} (h : ∀ d ∈ ds, Tm d) : PyData.showableAll ds = true ∧ PyData.hasDictAll ds = false ∧ PyData.leavesShortAll 13 ds = true := by
  induction ds with
  | nil => exact ⟨rfl, rfl, rfl⟩
  | cons d ds ih =>
    have a := h d List.mem_cons_self
    obtain ⟨b1, b2, b3⟩ := ih fun e m => h e (List.mem_cons_of_mem _ m)
    refine ⟨?_, ?_, ?_⟩
    · show (d.showable && _) = true
      rw [a.s, b1]; rfl
    · show (d.hasDict || _) = false
      rw [a.n, b2]; rfl
    · show (d.leavesShort 13 && _) = true
      rw [a.l, b3]; rfl
theorem Tm.list {ds : List PyData} (h : ∀ d ∈ ds, Tm d) : Tm (.list ds) := ⟨by simp only [PyData.showable]; exact (Tm.all h).1, by simp only [PyData.hasDict]; exact (Tm.all h).2.1, by simp only [PyData.leavesShort]; exact (Tm.all h).2.2⟩
theorem Tm.tuple {ds : List PyData} (h : ∀ d ∈ ds, Tm d) : Tm (.tuple ds) := ⟨by simp only [PyData.showable]; exact (Tm.all h).1, by simp only [PyData.hasDict]; exact (Tm.all h).2.1, by simp only [PyData.leavesShort]; exact (Tm.all h).2.2⟩
theorem wt_int {i : Int} (h : i.natAbs < 2 ^ 40) : (PyData.int i).weight ≤ 40 := by
  simp only [PyData.weight]
  split
  · omega
  · next z =>
    have z0 : i.natAbs ≠ 0 := fun e => z (by rw [Int.natAbs_eq_zero.mp e]; rfl)
    have := (Nat.log2_lt z0).mpr h
    omega
theorem wt_all {ds : List PyData} {n : Nat} (h : ∀ d ∈ ds, d.weight ≤ n) : PyData.weightAll ds ≤ (n + 1) * ds.length := by
  induction ds with
  | nil => simp [PyData.weightAll]
  | cons d ds ih =>
    have a := h d List.mem_cons_self
    have b := ih fun e m => h e (List.mem_cons_of_mem _ m)
    simp only [PyData.weightAll, List.length_cons, Nat.mul_add]
    omega
theorem dep_all {ds : List PyData} {n : Nat} (h : ∀ d ∈ ds, d.depth ≤ n) : PyData.depthAll ds ≤ n := by
  induction ds with
  | nil => simp [PyData.depthAll]
  | cons d ds ih =>
    have a := h d List.mem_cons_self
    have b := ih fun e m => h e (List.mem_cons_of_mem _ m)
    simp only [PyData.depthAll]
    omega
section
variable {K : PySem.W.Frag} {H : Hp} {Q : VK} {a : Addr}
theorem reprX {d : PyData} (h : Dp K H (.ref a) d) (t : Tm d) (dp : d.depth ≤ 60) (wt : d.weight ≤ 2 ^ 20) (q : Q (.str d.shown) H) : rRepr K [.ref a] H Q :=
  ⟨a, d, rfl, h, t.s, dp, t.n, PyData.shown_fits (B := 13) (by decide) (by decide) t.l wt, q⟩
/-- what repr of a list of numbers says -/
def shInts (ns : List Int) : Str := (PyData.list (ns.map PyData.int)).shown
theorem reprInts {ns : List Int} (h : SqL K H a (ns.map V.int)) (hs : ∀ n ∈ ns, n.natAbs < 10 ^ 12) (hl : ns.length ≤ 20000) (q : Q (.str (shInts ns)) H) : rRepr K [.ref a] H Q := by
  refine reprX (.lst h (dp_ints ns)) (.list fun d m => ?_) ?_ ?_ q
  · obtain ⟨n, hn, rfl⟩ := List.mem_map.mp m
    exact .int (hs n hn)
  · simp only [PyData.depth]
    have := dep_all (ds := ns.map PyData.int) (n := 0) fun d m => by
      obtain ⟨n, hn, rfl⟩ := List.mem_map.mp m
      simp [PyData.depth]
    omega
  · simp only [PyData.weight]
    have := wt_all (ds := ns.map PyData.int) (n := 40) fun d m => by
      obtain ⟨n, hn, rfl⟩ := List.mem_map.mp m
      exact wt_int (Nat.lt_of_lt_of_le (hs n hn) (by decide +kernel))
    rw [List.length_map] at this
    omega
/-! ### in, index, a part of a list of numbers -/
theorem flat_ints (ns : List Int) : (ns.map V.int).all flatV = true := by
  rw [List.all_eq_true]
  intro x hx
  obtain ⟨n, _, rfl⟩ := List.mem_map.mp hx
  rfl
theorem inV_ints (p : Int) (ns : List Int) : inV (.int p) (ns.map V.int) = decide (p ∈ ns) := by
  unfold inV
  rw [List.any_map]
  by_cases h : p ∈ ns
  · rw [decide_eq_true h, List.any_eq_true]
    exact ⟨p, h, by simp [eqV]⟩
  · rw [decide_eq_false h, List.any_eq_false]
    intro x hx
    have : x ≠ p := fun e => h (e ▸ hx)
    simp [eqV, this]
theorem inL {p : Int} {ns : List Int} (h : SqL K H a (ns.map V.int)) (q : Q (.bl (decide (p ∈ ns))) H) : rIn K false (.int p) (.ref a) H Q :=
  ⟨a, _, rfl, .inl h, rfl, flat_ints ns, by rw [inV_ints]; exact q⟩
theorem ninL {p : Int} {ns : List Int} (h : SqL K H a (ns.map V.int)) (q : Q (.bl (!decide (p ∈ ns))) H) : rIn K true (.int p) (.ref a) H Q :=
  ⟨a, _, rfl, .inl h, rfl, flat_ints ns, by rw [inV_ints]; exact q⟩
theorem idxL {p : Int} {ns : List Int} (h : SqL K H a (ns.map V.int)) (hp : p ∈ ns) (q : Q (.int (ns.idxOf p : Nat)) H) : rIndex K (.ref a) [.int p] H Q := by
  have hl := List.idxOf_lt_length_of_mem hp
  refine ⟨a, _, _, ns.idxOf p, .int p, rfl, rfl, h, rfl, flat_ints ns, ?_, by simp [eqV], fun m z hm hz => ?_, q⟩
  · rw [List.getElem?_map, List.getElem?_eq_getElem hl, List.getElem_idxOf hl]
    rfl
  · rw [List.getElem?_map] at hz
    have hml : m < ns.length := by omega
    rw [List.getElem?_eq_getElem hml] at hz
    cases hz
    have ne : ns[m] ≠ p := fun e => by
      have := List.not_of_lt_findIdx (p := fun x => x == p) (xs := ns) hm
      simp [e] at this
    simp [eqV, ne]
/-- numbers that are kept -/
theorem kept_ints (n : Nat) (k : Nat → Bool) (f : Nat → Int) : ∃ fr : List Int, kept n k (fun i => V.int (f i)) = fr.map V.int ∧ (∀ x ∈ fr, ∃ i, i < n ∧ k i = true ∧ x = f i) ∧ (fr = [] → ∀ i, i < n → k i = false) := by
  induction n with
  | zero => exact ⟨[], rfl, fun x h => (List.not_mem_nil h).elim, fun _ i h => by omega⟩
  | succ n ih =>
    obtain ⟨fr, h1, h2, h3⟩ := ih
    cases c : k n with
    | true =>
      refine ⟨fr ++ [f n], by rw [kept_yes c, h1, List.map_append]; rfl, fun x h => ?_, fun e => by simp at e⟩
      rcases List.mem_append.mp h with h | h
      · obtain ⟨i, a, b⟩ := h2 x h
        exact ⟨i, by omega, b⟩
      · exact ⟨n, by omega, c, List.mem_singleton.mp h⟩
    | false =>
      refine ⟨fr, by rw [kept_no c, h1], fun x h => ?_, fun e i hi => ?_⟩
      · obtain ⟨i, a, b⟩ := h2 x h
        exact ⟨i, by omega, b⟩
      · by_cases q : i = n
        · rw [q]; exact c
        · exact h3 e i (by omega)
theorem rgV_ints (a b : Int) : rgV a b = ((List.range (b - a).toNat).map fun i => a + ((i : Nat) : Int)).map V.int := by
  unfold rgV
  rw [List.map_map]
  rfl
theorem shp_ints (ns : List Int) : SeqAt.shaped (.list (ns.map PyData.int)) = true := by
  have h1 : ∀ ns : List Int, PyData.canLayAll0 (ns.map PyData.int) = true := fun ns => by
    induction ns with
    | nil => simp [PyData.canLayAll0]
    | cons n ns ih => simp [PyData.canLayAll0, PyData.canLay0, ih]
  have h2 := dep_all (ds := ns.map PyData.int) (n := 0) fun d m => by
      obtain ⟨n, hn, rfl⟩ := List.mem_map.mp m
      simp [PyData.depth]
  show (PyData.canLay0 _ && decide (PyData.depth _ ≤ 64)) = true
  rw [Bool.and_eq_true]
  refine ⟨?_, decide_eq_true ?_⟩
  · simp only [PyData.canLay0]; exact h1 ns
  · simp only [PyData.depth]; omega
theorem eqv_ints : ∀ ns ms : List Int, PyData.eqv (.list (ns.map PyData.int)) (.list (ms.map PyData.int)) = decide (ns = ms) := fun ns ms => by
  simp only [PyData.eqv]
  induction ns generalizing ms with
  | nil => cases ms <;> simp [PyData.eqvAll]
  | cons n ns ih =>
    cases ms with
    | nil => simp [PyData.eqvAll]
    | cons m ms =>
      simp only [List.map_cons, PyData.eqvAll, PyData.eqv, ih]
      by_cases h : n = m
      · subst h; simp
      · simp [h]
theorem eqInts {b : Addr} {ns ms : List Int} (h : SqL K H a (ns.map V.int)) (g : SqL K H b (ms.map V.int)) (q : Q (.bl (decide (ns = ms))) H) : rEqD K (.ref a) (.ref b) H Q :=
  ⟨_, _, .lst h (dp_ints ns), .lst g (dp_ints ms), shp_ints ns, shp_ints ms, by rw [eqv_ints]; exact q⟩
theorem neInts {b : Addr} {ns ms : List Int} (h : SqL K H a (ns.map V.int)) (g : SqL K H b (ms.map V.int)) (q : Q (.bl (!decide (ns = ms))) H) : rNeD K (.ref a) (.ref b) H Q :=
  ⟨_, _, .lst h (dp_ints ns), .lst g (dp_ints ms), shp_ints ns, shp_ints ms, by rw [eqv_ints]; exact q⟩
theorem pickI {ns : List Int} {r : Int} (h0 : 0 ≤ r) (h1 : r < ns.length) : ∃ n, n ∈ ns ∧ atI (ns.map V.int) r = some (.int n) := by
  obtain ⟨v, hv, e⟩ := pick (xs := ns.map V.int) h0 (by rw [List.length_map]; exact h1)
  obtain ⟨n, hn, rfl⟩ := List.mem_map.mp hv
  exact ⟨n, hn, e⟩
theorem cut_to (xs : List V) {i : Int} {j : Nat} (e : i = (j : Int)) (h : j ≤ xs.length) : cutV xs none (some i) = xs.take j := by
  subst e
  unfold cutV
  have e1 : HT.sIx xs.length 0 none = 0 := rfl
  rw [HT.sIx_nat, e1, List.drop_zero, Nat.sub_zero, Nat.min_eq_left h]
theorem slL {lo hi : Option Int} {xs : List V} (h : SqL K H a xs) (q : ∀ p, H p = none → Q (.ref p) (upd H p (.lst (cutV xs lo hi)))) : rSlL K (.ref a) lo hi H Q := ⟨a, xs, rfl, h, q⟩
theorem tyLL {xs : List V} (h : SqL K H a xs) : tyV K "list" (.ref a) H := Or.inl ⟨rfl, _, h⟩
end
end BC
namespace TR
/-! ### trails -/
def Pg (w : Int) (l : List Int) : Prop := ∀ x ∈ l, 0 ≤ x ∧ x < w
def vis (t : List Int) (p : Int) : List Int := if p ∈ t then t.take (t.idxOf p + 1) else t ++ [p]
def trl (row : List Int) : List Int := row.foldl vis []
/-- the lengths of the trails -/
def lens (row : List Int) : List Int := (List.range row.length).map fun i => ((trl (row.take (i + 1))).length : Int)
theorem vis_mem {t : List Int} {p x : Int} (h : x ∈ vis t p) : x ∈ t ∨ x = p := by
  unfold vis at h
  split at h
  · exact .inl (List.mem_of_mem_take h)
  · simpa using h
theorem vis_nodup {t : List Int} {p : Int} (h : t.Nodup) : (vis t p).Nodup := by
  unfold vis
  split
  · exact h.sublist (List.take_sublist _ _)
  · next n =>
    rw [List.nodup_append]
    exact ⟨h, List.nodup_cons.mpr ⟨List.not_mem_nil, List.nodup_nil⟩, fun a ha b hb e => n (by simp at hb; rw [← hb, ← e]; exact ha)⟩
theorem vis_pos (t : List Int) (p : Int) : 1 ≤ (vis t p).length := by
  unfold vis
  split
  · next h =>
    have := List.idxOf_lt_length_of_mem h
    rw [List.length_take]; omega
  · rw [List.length_append, List.length_singleton]; omega
theorem vis_le (t : List Int) (p : Int) : (vis t p).length ≤ t.length + 1 := by
  unfold vis
  split
  · rw [List.length_take]; omega
  · rw [List.length_append, List.length_singleton]; omega
theorem vis_pg {w : Int} {t : List Int} {p : Int} (h : Pg w t) (h0 : 0 ≤ p) (h1 : p < w) : Pg w (vis t p) := fun x hx => by
  rcases vis_mem hx with h2 | rfl
  · exact h x h2
  · exact ⟨h0, h1⟩
theorem trl_snoc {row : List Int} {i : Nat} {p : Int} (h : row[i]? = some p) : trl (row.take (i + 1)) = vis (trl (row.take i)) p := by
  unfold trl
  rw [List.take_add_one, h, List.foldl_append]
  rfl
theorem fold_ok {w : Int} : ∀ {row t : List Int}, Pg w row → Pg w t → t.Nodup → Pg w (row.foldl vis t) ∧ (row.foldl vis t).Nodup
  | [], _, _, h2, h3 => ⟨h2, h3⟩
  | p :: row, t, h1, h2, h3 => fold_ok (row := row) (t := vis t p) (fun x hx => h1 x (List.mem_cons_of_mem _ hx)) (vis_pg h2 (h1 p List.mem_cons_self).1 (h1 p List.mem_cons_self).2) (vis_nodup h3)
theorem Pg.take {w : Int} {l : List Int} (h : Pg w l) (n : Nat) : Pg w (l.take n) := fun x hx => h x (List.mem_of_mem_take hx)
theorem Pg.mono {w v : Int} {l : List Int} (h : Pg w l) (e : w ≤ v) : Pg v l := fun x hx => ⟨(h x hx).1, by have := (h x hx).2; omega⟩
theorem Pg.at {w : Int} {l : List Int} (h : Pg w l) {i : Nat} {p : Int} (e : l[i]? = some p) : 0 ≤ p ∧ p < w := h p (List.mem_of_getElem? e)
theorem pg_nil (w : Int) : Pg w [] := fun _ m => (List.not_mem_nil m).elim
theorem trl_pg {w : Int} {row : List Int} (h : Pg w row) : Pg w (trl row) := (fold_ok h (pg_nil w) List.nodup_nil).1
theorem trl_nodup {w : Int} {row : List Int} (h : Pg w row) : (trl row).Nodup := (fold_ok h (pg_nil w) List.nodup_nil).2
/-- so many different pages at most -/
theorem nodup_len : ∀ (n : Nat) {l : List Int}, l.Nodup → Pg n l → l.length ≤ n
  | 0, [], _, _ => Nat.le_refl _
  | 0, x :: l, _, h => by have := h x List.mem_cons_self; omega
  | n + 1, l, h1, h2 => by
    by_cases m : ((n : Nat) : Int) ∈ l
    · have h3 := nodup_len n (l := l.erase (n : Int)) (h1.erase _) (fun x hx => by
        have a := h2 x (List.mem_of_mem_erase hx)
        have b : x ≠ (n : Int) := fun e => by
          rw [h1.mem_erase_iff] at hx
          exact hx.1 e
        omega)
      have := List.length_erase_of_mem m
      omega
    · have h3 := nodup_len n h1 (fun x hx => by
        have a := h2 x hx
        have b : x ≠ (n : Int) := fun e => m (e ▸ hx)
        omega)
      omega
theorem trl_len {n : Nat} {row : List Int} (h : Pg n row) : (trl row).length ≤ n := nodup_len n (trl_nodup h) (trl_pg h)
theorem lens_len (row : List Int) : (lens row).length = row.length := by unfold lens; rw [List.length_map, List.length_range]
theorem lens_at {row : List Int} {i : Nat} (h : i < row.length) : (lens row)[i]? = some ((trl (row.take (i + 1))).length : Int) := by
  unfold lens
  rw [List.getElem?_map, List.getElem?_range h]
  rfl
end TR

set_option Elab.async false
set_option linter.all false
set_option maxRecDepth 100000
set_option maxHeartbeats 4000000
/-! defs with one keyword-only parameter that has a default -/
namespace BC
open PySem PySem.Spec PyProof.Rows L2 Evl
theorem kwd1 {K : PySem.W.Frag} {x qual : Str} {st : Stmt} {f D : Addr} {ps : List Str} {nm : Str} {v : V} {u : Value} {n : Nat} {oc : Value} {od : Option Addr} {doc pm : Value} {an : Option Addr} {cdv ct : Value} {osl : Array (Option Value)}
    (lk : K.lookup f = some ⟨oc, od, .func (PySem.W.fnOf x qual (defArgs st) (defBody st) (defScope st) .none (.ref D) doc pm an cdv ct), osl⟩) (hcd : PySem.W.codeIn K cdv qual = true) (kp : PySem.W.keepIn K (.ref f) = true)
    (hq : PySem.W.nsIn K D nm = some (some u)) (hr : RelV v u) (hn : n + 1 = ps.length)
    (h : ∀ (D : Addr) (doc pm : Value) (an : Option Addr) (cdv ct : Value) (us ks : List Value), us.length = n → ks.length = 1 →
      KwChain D ([nm].zip ks) (bindArgs (PySem.W.fnOf x qual (defArgs st) (defBody st) (defScope st) .none (.ref D) doc pm an cdv ct) ⟨us, []⟩) (ps.zip (us ++ ks))) :
    ∃ ds, Vals [v] ds ∧ Binds K (PySem.W.fnOf x qual (defArgs st) (defBody st) (defScope st) .none (.ref D) doc pm an cdv ct) ps ds := by
  have F : FunD K x qual (defArgs st) (defBody st) (defScope st) [] [(nm, v)] f (PySem.W.fnOf x qual (defArgs st) (defBody st) (defScope st) .none (.ref D) doc pm an cdv ct) :=
    ⟨⟨oc, od, _, _, doc, pm, an, cdv, ct, osl, rfl, lk, hcd, .inl ⟨rfl, rfl⟩, .inr ⟨D, rfl, fun q hm => by
      obtain rfl : q = (nm, v) := by simpa using hm
      exact ⟨u, hq, hr⟩⟩⟩, kp⟩
  have z := F.binds0 n (by simp) (by simpa using hn) h
  exact z
/-! ### the bag of draws: a list of three numbers -/
def BagAt (H : Hp) (b : Addr) (c : Nat) : Prop := ∃ x0 x1 x2 : Int, H b = some (.lst [.int x0, .int x1, .int x2]) ∧ 0 ≤ x1 ∧ x1 < 10 ^ 45 ∧ 0 ≤ x2 ∧ x2 ≤ c
theorem BagAt.ex {H H' : Hp} {b : Addr} {c : Nat} (h : BagAt H b c) (e : Ex H H') : BagAt H' b c := by
  obtain ⟨x0, x1, x2, hb, r⟩ := h
  exact ⟨x0, x1, x2, e _ _ hb, r⟩
theorem BagAt.mono {H : Hp} {b : Addr} {c d : Nat} (h : BagAt H b c) (e : c ≤ d) : BagAt H b d := by
  obtain ⟨x0, x1, x2, hb, h1, h2, h3, h4⟩ := h
  exact ⟨x0, x1, x2, hb, h1, h2, h3, by omega⟩
theorem BagAt.some {H : Hp} {b : Addr} {c : Nat} (h : BagAt H b c) : ∃ o, H b = Option.some o := by
  obtain ⟨x0, x1, x2, hb, _⟩ := h
  exact ⟨_, hb⟩
theorem BagAt.apart {H : Hp} {b z : Addr} {c : Nat} (h : BagAt H b c) (nz : H z = none) : z ≠ b := fun e => by
  obtain ⟨o, ho⟩ := h.some
  subst e
  rw [ho] at nz
  cases nz
theorem BagAt.off {H : Hp} {b z : Addr} {c : Nat} {o : HO} (h : BagAt H b c) (nz : z ≠ b) : BagAt (upd H z o) b c := by
  obtain ⟨x0, x1, x2, hb, r⟩ := h
  exact ⟨x0, x1, x2, by rw [upd_ne (Ne.symm nz)]; exact hb, r⟩
theorem BagAt.ne {H : Hp} {b z : Addr} {c : Nat} (h : BagAt H b c) (nb : H z = none) : b ≠ z := fun e => h.apart nb e.symm
/-- the greatest number of ways that is drawn from -/
def BIG : Int := 2 ^ 2000
theorem big_of {m : Int} (h : m ≤ 100000) : m ≤ BIG := Int.le_trans h (by decide +kernel)
theorem big_lt {m : Int} (h : 0 < m) (h2 : m ≤ BIG) : m.natAbs < 2 ^ 2001 := by
  have a : m.natAbs ≤ BIG.natAbs := by omega
  exact Nat.lt_of_le_of_lt a (by decide +kernel)
def spDraw : Sp := fun vs H Q _ => ∃ (b : Addr) (m : Int) (c : Nat), vs = [.ref b, .int m] ∧ 0 < m ∧ m ≤ BIG ∧ BagAt H b c ∧ c ≤ 1000000 ∧ ∀ r H', 0 ≤ r → r < m → Fx b H H' → BagAt H' b (c + 1) → Q (.int r) H'
/-! ### lists of lists of numbers, shown -/
def dLL (ls : List (List Int)) : PyData := .list (ls.map fun l => .list (l.map PyData.int))
theorem tm_ints {l : List Int} (h : ∀ x ∈ l, x.natAbs < 10 ^ 12) : Tm (.list (l.map PyData.int)) := .list fun d m => by
  obtain ⟨x, hx, rfl⟩ := List.mem_map.mp m
  exact .int (h x hx)
theorem wt_ints {l : List Int} (h : ∀ x ∈ l, x.natAbs < 10 ^ 12) : (PyData.list (l.map PyData.int)).weight ≤ 41 * l.length := by
  simp only [PyData.weight]
  have := wt_all (ds := l.map PyData.int) (n := 40) fun d m => by
      obtain ⟨n, hn, rfl⟩ := List.mem_map.mp m
      exact wt_int (Nat.lt_of_lt_of_le (h n hn) (by decide +kernel))
  rw [List.length_map] at this
  exact this
theorem dp_ll {K : PySem.W.Frag} {H : Hp} {ps : List Addr} : ∀ {ls : List (List Int)}, ps.length = ls.length → (∀ (i : Nat) (p : Addr) (l : List Int), ps[i]? = some p → ls[i]? = some l → SqL K H p (l.map V.int)) → DpAll K H (ps.map V.ref) (ls.map fun l => PyData.list (l.map PyData.int)) := fun {ls} => by
  induction ps generalizing ls with
  | nil =>
    intro h _
    cases ls with
    | nil => exact .nil
    | cons l ls => simp at h
  | cons p ps ih =>
    intro h g
    cases ls with
    | nil => simp at h
    | cons l ls => exact .cons (.lst (g 0 p l rfl rfl) (dp_ints l)) (ih (by simpa using h) fun i q m a b => g (i + 1) q m (by rw [List.getElem?_cons_succ]; exact a) (by rw [List.getElem?_cons_succ]; exact b))
theorem reprLL {K : PySem.W.Frag} {H : Hp} {Q : VK} {a : Addr} {ls : List (List Int)} {n : Nat} (h : Dp K H (.ref a) (dLL ls)) (hv : ∀ l ∈ ls, ∀ x ∈ l, x.natAbs < 10 ^ 12) (hl : ∀ l ∈ ls, l.length ≤ n) (hz : (41 * n + 1) * ls.length ≤ 2 ^ 20) (q : Q (.str (dLL ls).shown) H) : rRepr K [.ref a] H Q := by
  refine reprX h (.list fun d m => ?_) ?_ ?_ q
  · obtain ⟨l, hm, rfl⟩ := List.mem_map.mp m
    exact tm_ints (hv l hm)
  · unfold dLL
    simp only [PyData.depth]
    have := dep_all (ds := ls.map fun l => PyData.list (l.map PyData.int)) (n := 1) fun d m => by
      obtain ⟨l, hm, rfl⟩ := List.mem_map.mp m
      simp only [PyData.depth]
      have := dep_all (ds := l.map PyData.int) (n := 0) fun d m => by
        obtain ⟨x, hx, rfl⟩ := List.mem_map.mp m
        simp [PyData.depth]
      omega
    omega
  · unfold dLL
    simp only [PyData.weight]
    have := wt_all (ds := ls.map fun l => PyData.list (l.map PyData.int)) (n := 41 * n) fun d m => by
      obtain ⟨l, hm, rfl⟩ := List.mem_map.mp m
      exact Nat.le_trans (wt_ints (hv l hm)) (Nat.mul_le_mul_left _ (hl l hm))
    rw [List.length_map] at this
    omega
theorem k_lenSet {X : Cx} {K : PySem.W.Frag} {a : Expr} {ta : TE} {p p2 q pos : Pos} (hK : X.K = K) (hg : Gl X "len") (hm : X.mg "len" = none) (hg2 : Gl X "set") (hm2 : X.mg "set" = none) (ha : PE X a ta) (hc : X.calm = true := by rfl)
    (na : starEach [a] X.env = (false, eval a X.env) :: starEach [] X.env := by rfl) : PE X (.Call (.Name "len" p) [.Call (.Name "set" p2) [a] [] q] [] pos) (RZ.tLenSetI K ta) := by subst hK; exact RZ.pe_lenSetI hg hm hg2 hm2 ha hc na
theorem x_lenSet {K : PySem.W.Frag} {ta : TE} {σ : L2.St} {H : Hp} {Q : VK} : RZ.tLenSetI K ta σ H Q = ta σ H fun x H1 => ∃ (l : Addr) (ns : List Int), x = .ref l ∧ SqL K H1 l (ns.map V.int) ∧ ns.Nodup ∧ ns.length ≤ 4000 ∧ Q (.int (ns.length : Nat)) H1 := rfl
end BC

set_option Elab.async false
set_option linter.all false
set_option maxRecDepth 100000
set_option maxHeartbeats 4000000
/-! sorted(set(xs)) of a list of numbers -/
namespace BC
open PySem PySem.Spec PyProof.Rows L2 Evl RZ
/-- the set that set() starts with -/
abbrev set0 (w : World) : Obj := { cls := .type "set", dict := none, data := .set #[] 0 (.fresh 0 0 (!w.params.followText "set-order")) }
abbrev with0 (w : World) (s : Shared) : Shared := { s with heap := s.heap.push (set0 w) }
section
variable {P : Program} {w : World} {A : Around} {E : Value → Shared → Prop} {s : Shared}
set_option maxHeartbeats 3200000 in
theorem set_of_list {l : Addr} {its : Array Value} (ns : List Int) {Q : Value → Shared → Prop} (hh : A.handled = none) (hl : s.heap.IsList l its) (hit : IntsAre its.toList ns) (hb : ns.length + 1 < scanBound)
    (fin : ∀ (h' : Heap) (tk c : Nat), SetR w h' s.heap.objs.size (fun j => decide (j ∈ ns)) c → c ≤ ns.length → (∀ b o, s.heap.get? b = some o → h'.get? b = some o) → Q (.ref s.heap.objs.size) { s with heap := h', toks := tk }) :
    wpAny (model P w) A (call (.type "set") [.ref l]) Q E s := by
  have many : its.size = ns.length := by rw [← IntsAre.length hit, Array.length_toList]
  obtain ⟨c, tl, hmro⟩ := F.called_set.mro
  have m1 := F.called_set.made
  have m2 := F.called_set.sub
  refine wpAny_call (codeAny_of_tree (wpAny_pure ⟨Code.quiet_builtin _ (by decide +kernel), codeAny_builtin F.entry_type_call ?_⟩))
  rw [Around.under_plain (weight_type_call_type "set" [.ref l] []) rfl]
  have m3 := F.called_set.notType
  have m4 := F.called_set.canCreate
  have m5 := F.typeCall_set_1 (.ref l)
  repeat (any_goals (first | assumption | wp_step))
  refine codeAny_mono (code_set_led1 (.ref l) (E := E) (Q₁ := fun obj s₁ => obj = .ref s.heap.objs.size ∧ s₁ = with0 w s) ⟨rfl, rfl⟩) fun r s₁ hr => ?_
  match r, hr with
  | .error e, hr => exact hr
  | .ok .next, hr => exact hr.elim
  | .ok .brk, hr => exact hr.elim
  | .ok .cont, hr => exact hr.elim
  | .ok (.ret obj), hr =>
    obtain ⟨rfl, rfl⟩ := hr
    have at0 : (s.heap.push (set0 w)).get? s.heap.objs.size = some (set0 w) := Heap.get?_push_size _ rfl
    have ty0 : Shared.TypeIs (with0 w s) (.ref s.heap.objs.size) "set" := ⟨_, at0, rfl⟩
    have i1 := F.called_set.init.lookup
    have i2 := F.called_set.init.bind (.ref s.heap.objs.size)
    repeat (any_goals (first | assumption | wp_step))
    refine codeAny_mono (codeAny_call_builtin (R := wants (fun r s₂ => r = .none ∧ ∃ h' tk c, s₂ = { s with heap := h', toks := tk } ∧ SetR w h' s.heap.objs.size (fun j => decide (j ∈ ns)) c ∧ c ≤ ns.length ∧ (∀ b o, s.heap.get? b = some o → h'.get? b = some o)) E)
      F.called_set.init.plain F.entry_set_init (check_set_init_1 ty0 ?_)) fun r₂ s₂ hr₂ => ?_
    · obtain ⟨⟨oc, od, dt, osl⟩, old, e1, nl, e2⟩ := hl
      obtain rfl : oc = .type "list" := e1
      obtain rfl : dt = .seq its nl := e2
      have pushed := Heap.get?_push_of_some (set0 w) old
      have isl : (s.heap.push (set0 w)).IsList l its := ⟨_, pushed, rfl, nl, rfl⟩
      have k1 := F.sub_list_set
      have k2 := F.sub_list_frozenset
      have k3 : (Value.type "list" == Value.type "dict") = false := by decide
      have hltl : l < s.heap.objs.size := Heap.lt_size old
      unfold Builtin.«set.__init__» noKeywords Builtin.Frozenset.updateFrom
      generalize hPI : pyIter = PI
      wp_walk
      subst hPI
      refine wpAny_pyIter_list isl (wpAny_bind (wpAny_runValue ?_))
      have calm3 : A.in1.in1.in1.handled = none := by simp [hh]
      have psz : (s.heap.push (set0 w)).objs.size = s.heap.objs.size + 1 := Heap.size_push ..
      have apart : l ≠ (s.heap.push (set0 w)).objs.size := fun z => Nat.lt_irrefl l (by rw [psz] at z; exact Nat.lt_of_lt_of_le hltl (by rw [z]; exact Nat.le_succ _))
      have away : s.heap.objs.size ∉ [(s.heap.push (set0 w)).objs.size, l] := by
        rw [psz]
        intro z
        simp only [List.mem_cons, List.mem_nil_iff, or_false] at z
        rcases z with z | z
        · exact absurd z (Nat.ne_of_lt (Nat.lt_succ_self _))
        · exact absurd z (Nat.ne_of_gt hltl)
      have items : ∀ (i : Nat) (v : Value), its[i]? = some v → ∃ k t, ns[i]? = some k ∧ v = .int k t := fun i v hv => by
        have hi : i < ns.length := by rw [← many]; exact (Array.getElem?_eq_some_iff.mp hv).1
        obtain ⟨t, e⟩ := IntsAre.int_at hit i v (by rw [Array.getElem?_toList]; exact hv)
        refine ⟨ns[i], t, List.getElem?_eq_getElem hi, ?_⟩
        rw [e, List.getD_eq_getElem?_getD, List.getElem?_eq_getElem hi]
        rfl
      refine set_update_ints ((Walks.list calm3 _ l apart its).toS) s.heap.objs.size away ns many hb items its.size 0 _ (by omega) (Nat.zero_le _) ⟨⟨_, Heap.get?_push_size _ rfl, rfl, rfl⟩, (isl.push _)⟩ ⟨0, Nat.le_refl 0, ?_⟩ fun s' c' mv hc' hS' => ?_
      · exact setR_new_at (Heap.get?_push_of_some _ at0)
      · obtain ⟨h', g2, d', tk', os'⟩ := s'
        obtain rfl : g2 = s.gens := mv.gens
        obtain rfl : d' = s.drawn := mv.drawn
        obtain rfl : os' = s.os := mv.os
        refine wpAny_pure (wpAny_pure ⟨rfl, h', tk', c', rfl, hS', by rw [many] at hc'; exact hc', fun b o e => ?_⟩)
        have lt := Heap.lt_size e
        refine mv.heap b o ?_ (Heap.get?_push_of_some _ (Heap.get?_push_of_some _ e))
        intro z
        rw [psz] at z
        simp only [List.mem_cons, List.mem_nil_iff, or_false] at z
        rcases z with z | z
        · exact absurd z (Nat.ne_of_lt lt)
        · exact absurd z (Nat.ne_of_lt (Nat.lt_succ_of_lt lt))
    · match r₂, hr₂ with
      | .error e, hr₂ => exact hr₂
      | .ok .next, hr₂ => exact hr₂.elim
      | .ok .brk, hr₂ => exact hr₂.elim
      | .ok .cont, hr₂ => exact hr₂.elim
      | .ok (.ret r), hr₂ =>
        obtain ⟨rfl, h', tk, c', rfl, q1, q2, q3⟩ := hr₂
        repeat (any_goals (first | assumption | wp_step))
        exact fin _ _ _ q1 q2 q3
end
section
variable {X : Cx} {K : PySem.W.Frag} {a : Expr} {ta : TE} {p p2 q pos : Pos}
/-- sorted(set(xs)): the different numbers in order -/
def tSortSet (K : PySem.W.Frag) (ta : TE) : TE := fun σ H Q => ta σ H fun x H1 => ∃ (l : Addr) (ns : List Int), x = .ref l ∧ SqL K H1 l (ns.map V.int) ∧ ns.length < 64 ∧
  ∀ (ms : List Int) r, ms.Pairwise (· < ·) → (∀ k : Int, k ∈ ms ↔ k ∈ ns) → H1 r = none → Q (.ref r) (upd H1 r (.lst (ms.map V.int)))
theorem k_sortSet (hK : X.K = K) (hg : Gl X "sorted") (hm : X.mg "sorted" = none) (hg2 : Gl X "set") (hm2 : X.mg "set" = none) (ha : PE X a ta) (hc : X.calm = true := by rfl)
    (na : starEach [a] X.env = (false, eval a X.env) :: starEach [] X.env := by rfl) : PE X (.Call (.Name "sorted" p) [.Call (.Name "set" p2) [a] [] q] [] pos) (tSortSet K ta) := by
  subst hK
  refine ⟨fun pins s σ H Q I h => ?_⟩
  refine Call_ (ld_blt I hg hm (show bootBuiltins ("sorted" : Str) = some (.builtin "sorted") by decide +kernel) ?_)
  refine callWith_builtin1 (args_cons ?_ rfl) rfl rfl
  refine Call_ (ld_blt I hg2 hm2 boot_set ?_)
  refine callWith_type1 (args_cons (thn (ha.run pins s σ H _ I h) fun v s1 ⟨x, H1, I1, r1, q1⟩ => args_nil ?_) na) na rfl
  obtain ⟨l, ns, rfl, hq, hl, q1⟩ := q1
  cases r1
  obtain ⟨its, r, pl, hz⟩ := I1.list hq
  refine set_of_list ns (I1.ok.hd hc) pl.isList (by simpa using intsAre_vals r) (by unfold scanBound; omega) fun h' tk c hS hcl hk => ?_
  refine args_nil ?_
  have I2 : Inv X pins σ H1 { s1 with heap := h', toks := tk } := I1.kept hk
  refine sorted_set hS (I2.ok.hd hc) (by omega) fun s' p out c2 ms k g o hp hg hi hs hm hlen => ?_
  have few : (ms.map V.int).length ≤ sizeLine := by rw [List.length_map, hlen, sizeLine_eq]; omega
  have hn : H1 p = none := I2.hok.fresh hp
  have J : Inv X pins σ (upd H1 p (.lst (ms.map V.int))) { ({ s1 with heap := h', toks := tk } : Shared) with heap := s'.heap, gens := s'.gens, drawn := s'.drawn, toks := s'.toks } :=
    I2.call (ch := []) (Un.laid k hp hn) (I2.hok.laid k hp ⟨few, out.toList, c2, vals_of_ints hi, hg⟩) (by rw [g]; exact I2.bare) (fun _ z => nomatch z)
  have e : s' = { ({ s1 with heap := h', toks := tk } : Shared) with heap := s'.heap, gens := s'.gens, drawn := s'.drawn, toks := s'.toks } := by
    cases s'
    cases o
    rfl
  rw [e]
  exact ⟨.ref p, _, J, rfl, q1 ms p hs (fun k => by rw [hm k, decide_eq_true_eq]) hn⟩
theorem x_sortSet {σ : L2.St} {H : Hp} {Q : VK} : tSortSet K ta σ H Q = ta σ H fun x H1 => ∃ (l : Addr) (ns : List Int), x = .ref l ∧ SqL K H1 l (ns.map V.int) ∧ ns.length < 64 ∧
  ∀ (ms : List Int) r, ms.Pairwise (· < ·) → (∀ k : Int, k ∈ ms ↔ k ∈ ns) → H1 r = none → Q (.ref r) (upd H1 r (.lst (ms.map V.int))) := rfl
end
/-- two ascending lists of the same numbers are the same -/
theorem asc_same : ∀ {a b : List Int}, a.Pairwise (· < ·) → b.Pairwise (· < ·) → (∀ k : Int, k ∈ a ↔ k ∈ b) → a = b
  | [], [], _, _, _ => rfl
  | [], y :: b, _, _, h => absurd ((h y).mpr List.mem_cons_self) List.not_mem_nil
  | x :: a, [], _, _, h => absurd ((h x).mp List.mem_cons_self) List.not_mem_nil
  | x :: a, y :: b, ha, hb, h => by
    rw [List.pairwise_cons] at ha hb
    have xy : x = y := by
      have h1 := (h x).mp List.mem_cons_self
      have h2 := (h y).mpr List.mem_cons_self
      rcases List.mem_cons.mp h1 with e | e
      · exact e
      · rcases List.mem_cons.mp h2 with e2 | e2
        · exact e2.symm
        · have := ha.1 y e2
          have := hb.1 x e
          omega
    subst xy
    rw [asc_same ha.2 hb.2 fun k => ⟨fun m => by
      rcases List.mem_cons.mp ((h k).mp (List.mem_cons_of_mem _ m)) with e | e
      · subst e; have := ha.1 k m; omega
      · exact e, fun m => by
      rcases List.mem_cons.mp ((h k).mpr (List.mem_cons_of_mem _ m)) with e | e
      · subst e; have := hb.1 k m; omega
      · exact e⟩]
end BC

set_option Elab.async false
set_option linter.all false
set_option maxRecDepth 100000
set_option maxHeartbeats 4000000
/-! sites: lists of lists of natural numbers, and how they lie in the heap -/
namespace BC
open PySem PySem.Spec PyProof.Rows L2 Evl
/-! ### xs + ys of lists of any origin -/
section
variable {prog : Program} {w : World} {A : Around} {E : Value → Shared → Prop} {s : Shared}
theorem add_plain {l b : Addr} {its its2 : Array Value} {Q : Value → Shared → Prop} (x : PlainL s.heap l its) (y : PlainL s.heap b its2) (fits : its.size + its2.size ≤ sizeLine)
    (q : Q (.ref s.heap.objs.size) { s with heap := s.heap.push { cls := .type "list", data := .seq (its ++ its2) } }) : wpAny (model prog w) A (binaryOp .Add (.ref l) (.ref b)) Q E s := by
  obtain ⟨⟨c1, d1, k1, z1⟩, n1, g1, e1, e2, e3⟩ := x
  obtain ⟨⟨c2, d2, k2, z2⟩, n2, g2, e4, e5, e6⟩ := y
  obtain rfl : c1 = .type "list" := e1
  obtain rfl : c2 = .type "list" := e4
  obtain rfl : k1 = .seq its n1 := e3
  obtain rfl : k2 = .seq its2 n2 := e6
  exact concat_meets ⟨_, g1, rfl⟩ ⟨_, g2, rfl⟩ noFill_list_add seq_list_add F.slot_list_add F.entry_list_add (F.args_list_add_2 _ _) (list_addW l b its its2 n1 n2 d1 d2 z1 z2 fits) ⟨g1, g2, q⟩
end
def rCatS (K : PySem.W.Frag) : R2 := fun x y H Q => ∃ l b xs zs, x = .ref l ∧ y = .ref b ∧ SqL K H l xs ∧ SqL K H b zs ∧ xs.length + zs.length ≤ sizeLine ∧ ∀ p, H p = none → Q (.ref p) (upd H p (.lst (xs ++ zs)))
theorem k_catS {X : Cx} {K : PySem.W.Frag} (hK : X.K = K) : OpR X (binaryOp .Add) (rCatS K) := by
  subst hK
  intro pins s σ H x y v u Q I rx ry h
  obtain ⟨l, b, xs, zs, rfl, rfl, hH, hB, hz, q⟩ := h
  cases rx
  cases ry
  obtain ⟨its, r, p1, _⟩ := I.list hH
  obtain ⟨its2, r2, p2, _⟩ := I.list hB
  have l1 := r.length
  have l2 := r2.length
  refine add_plain p1 p2 (by rw [List.size_toArray, List.size_toArray]; omega) ?_
  have ea : its.toArray ++ its2.toArray = (its ++ its2).toArray := by simp
  rw [ea]
  exact ⟨.ref _, _, I.lnew (t' := s.toks) (r.append r2) (by rw [List.length_append]; omega), rfl, q _ I.fresh⟩
theorem catS {K : PySem.W.Frag} {H : Hp} {Q : VK} {p b : Addr} {xs ys : List V} (h : SqL K H p xs) (hb : SqL K H b ys) (hz : xs.length + ys.length ≤ sizeLine) (q : ∀ l, H l = none → Q (.ref l) (upd H l (.lst (xs ++ ys)))) : rCatS K (.ref p) (.ref b) H Q := ⟨p, b, xs, ys, rfl, rfl, h, hb, hz, q⟩
/-- natural numbers as the program's -/
def nz (L : List Nat) : List Int := L.map fun x : Nat => (x : Int)
theorem nz_len (L : List Nat) : (nz L).length = L.length := List.length_map _
theorem nz_at {L : List Nat} {i x : Nat} (h : L[i]? = some x) : ((nz L).map V.int)[i]? = some (.int (x : Int)) := by
  unfold nz
  rw [List.getElem?_map, List.getElem?_map, h]
  rfl
theorem at_nz {L : List Nat} {i : Nat} {v : V} (h : ((nz L).map V.int)[i]? = some v) : ∃ x, L[i]? = some x ∧ v = .int (x : Int) := by
  unfold nz at h
  rw [List.getElem?_map, List.getElem?_map] at h
  cases e : L[i]? with
  | none => rw [e] at h; cases h
  | some x => rw [e] at h; cases h; exact ⟨x, rfl, rfl⟩
theorem nz_mem {L : List Nat} {x : Nat} : ((x : Nat) : Int) ∈ nz L ↔ x ∈ L := by
  unfold nz
  rw [List.mem_map]
  exact ⟨fun ⟨y, h, e⟩ => by rw [← Int.ofNat.inj e]; exact h, fun h => ⟨x, h, rfl⟩⟩
theorem nz_inj : ∀ {a b : List Nat}, nz a = nz b → a = b
  | [], [], _ => rfl
  | [], y :: b, h => by cases h
  | x :: a, [], h => by cases h
  | x :: a, y :: b, h => by
    have h1 := (List.cons.inj h).1
    have h2 := (List.cons.inj h).2
    rw [nz_inj (show nz a = nz b from h2), Int.ofNat.inj h1]
theorem nz_app (a b : List Nat) : nz (a ++ b) = nz a ++ nz b := List.map_append
theorem nz_v (a : List Nat) (x : Nat) : (nz a).map V.int ++ [V.int (x : Int)] = (nz (a ++ [x])).map V.int := by rw [nz_app, List.map_append]; rfl
theorem lts {l : List Nat} (h : l.Pairwise (· < ·)) : (nz l).Pairwise (· < ·) := by
  unfold nz
  rw [List.pairwise_map]
  exact h.imp fun h => by omega
theorem nz_nodup {l : List Nat} (h : l.Nodup) : (nz l).Nodup := by
  unfold nz List.Nodup
  rw [List.pairwise_map]
  exact h.imp fun h e => h (Int.ofNat.inj e)
theorem nodup_lt : ∀ (n : Nat) {l : List Nat}, l.Nodup → (∀ x ∈ l, x < n) → l.length ≤ n
  | 0, [], _, _ => Nat.le_refl _
  | 0, x :: l, _, h => by have := h x List.mem_cons_self; omega
  | n + 1, l, h1, h2 => by
    by_cases m : n ∈ l
    · have h3 := nodup_lt n (l := l.erase n) (h1.erase _) (fun x hx => by
        have a := h2 x (List.mem_of_mem_erase hx)
        have b : x ≠ n := fun e => by
          rw [h1.mem_erase_iff] at hx
          exact hx.1 e
        omega)
      have := List.length_erase_of_mem m
      omega
    · have h3 := nodup_lt n h1 (fun x hx => by
        have a := h2 x hx
        have b : x ≠ n := fun e => m (e ▸ hx)
        omega)
      omega
theorem asc_nodup {l : List Nat} (h : l.Pairwise (· < ·)) : l.Nodup := h.imp fun h => by omega
/-! ### sites -/
abbrev Grid := List (List Nat)
structure SiteOk (G : Grid) : Prop where
  n1 : 1 ≤ G.length
  n2 : G.length ≤ 12
  asc : ∀ (i : Nat) (r : List Nat), G[i]? = some r → r.Pairwise (· < ·)
  lt : ∀ (i : Nat) (r : List Nat), G[i]? = some r → ∀ x ∈ r, x < G.length
  no : ∀ (i : Nat) (r : List Nat), G[i]? = some r → i ∉ r
theorem SiteOk.len {G : Grid} (h : SiteOk G) {i : Nat} {r : List Nat} (e : G[i]? = some r) : r.length ≤ 12 := Nat.le_trans (nodup_lt _ (asc_nodup (h.asc i r e)) (h.lt i r e)) h.n2
/-- the row of a page -/
def row (G : Grid) (i : Nat) : List Nat := G.getD i []
theorem row_at {G : Grid} {i : Nat} {r : List Nat} (h : G[i]? = some r) : row G i = r := by
  unfold row
  rw [List.getD_eq_getElem?_getD, h]
  rfl
theorem at_row {G : Grid} {i : Nat} (h : i < G.length) : G[i]? = some (row G i) := by
  unfold row
  rw [List.getD_eq_getElem?_getD, List.getElem?_eq_getElem h]
  rfl
theorem SiteOk.rlt {G : Grid} (h : SiteOk G) {i x : Nat} (m : x ∈ row G i) : x < G.length := by
  by_cases q : i < G.length
  · exact h.lt i _ (at_row q) x m
  · unfold row at m
    rw [List.getD_eq_getElem?_getD, List.getElem?_eq_none (by omega)] at m
    exact (List.not_mem_nil m).elim
theorem SiteOk.rlen {G : Grid} (h : SiteOk G) (i : Nat) : (row G i).length ≤ 12 := by
  by_cases q : i < G.length
  · exact h.len (at_row q)
  · unfold row
    rw [List.getD_eq_getElem?_getD, List.getElem?_eq_none (by omega)]
    exact Nat.zero_le _
/-- a list at s of lists of numbers -/
def GridAt (H : Hp) (s : Addr) (G : Grid) : Prop := ∃ ps : List Addr, H s = some (.lst (ps.map V.ref)) ∧ ps.length = G.length ∧ ∀ i p, ps[i]? = some p → H p = some (.lst ((nz (row G i)).map V.int))
theorem GridAt.ex {H H' : Hp} {s : Addr} {G : Grid} (h : GridAt H s G) (e : Ex H H') : GridAt H' s G := by
  obtain ⟨ps, h1, h2, h3⟩ := h
  exact ⟨ps, e _ _ h1, h2, fun i p q => e _ _ (h3 i p q)⟩
theorem GridAt.get {H : Hp} {s : Addr} {G : Grid} (h : GridAt H s G) {i : Nat} (hi : i < G.length) : ∃ p xs, H s = some (.lst xs) ∧ xs.length = G.length ∧ xs[i]? = some (.ref p) ∧ H p = some (.lst ((nz (row G i)).map V.int)) := by
  obtain ⟨ps, h1, h2, h3⟩ := h
  have hx : ps[i]? = some ps[i] := List.getElem?_eq_getElem (by omega)
  exact ⟨ps[i], _, h1, by rw [List.length_map]; exact h2, by rw [List.getElem?_map, hx]; rfl, h3 i _ hx⟩
theorem GridAt.lst {H : Hp} {s : Addr} {G : Grid} (h : GridAt H s G) : ∃ xs, H s = some (.lst xs) ∧ xs.length = G.length ∧ ∀ (i : Nat) (v : V), xs[i]? = some v → i < G.length ∧ ∃ p, v = .ref p ∧ H p = some (.lst ((nz (row G i)).map V.int)) := by
  obtain ⟨ps, h1, h2, h3⟩ := h
  refine ⟨_, h1, by rw [List.length_map]; exact h2, fun i v e => ?_⟩
  rw [List.getElem?_map] at e
  cases q : ps[i]? with
  | none => rw [q] at e; cases e
  | some p =>
    rw [q] at e
    cases e
    exact ⟨by have := (List.getElem?_eq_some_iff.mp q).1; omega, p, rfl, h3 i p q⟩
/-- such a list, all of it new -/
def GridN (H H' : Hp) (s : Addr) (G : Grid) : Prop := H s = none ∧ ∃ ps : List Addr, H' s = some (.lst (ps.map V.ref)) ∧ ps.length = G.length ∧ ps.Nodup ∧ s ∉ ps ∧ ∀ i p, ps[i]? = some p → H p = none ∧ H' p = some (.lst ((nz (row G i)).map V.int))
theorem GridN.at {H H' : Hp} {s : Addr} {G : Grid} (h : GridN H H' s G) : GridAt H' s G := by
  obtain ⟨_, ps, h1, h2, _, _, h3⟩ := h
  exact ⟨ps, h1, h2, fun i p q => (h3 i p q).2⟩
theorem GridN.ex {H H' H2 : Hp} {s : Addr} {G : Grid} (h : GridN H H' s G) (e : Ex H' H2) : GridN H H2 s G := by
  obtain ⟨h0, ps, h1, h2, h4, h5, h3⟩ := h
  exact ⟨h0, ps, e _ _ h1, h2, h4, h5, fun i p q => ⟨(h3 i p q).1, e _ _ (h3 i p q).2⟩⟩
theorem GridN.back {H0 H H' : Hp} {s : Addr} {G : Grid} (h : GridN H H' s G) (e : Ex H0 H) : GridN H0 H' s G := by
  obtain ⟨h0, ps, h1, h2, h4, h5, h3⟩ := h
  exact ⟨fresh_back e h0, ps, h1, h2, h4, h5, fun i p q => ⟨fresh_back e (h3 i p q).1, (h3 i p q).2⟩⟩
/-- what was new after Hc stands -/
def Nw (Hc H H' : Hp) : Prop := ∀ x o, Hc x = none → H x = some o → H' x = some o
theorem Nw.of {Hc H H' : Hp} (e : Ex H H') : Nw Hc H H' := fun x o _ h => e x o h
theorem Nw.trans {Hc H H' H'' : Hp} (e : Nw Hc H H') (f : Nw Hc H' H'') : Nw Hc H H'' := fun x o n h => f x o n (e x o n h)
theorem Nw.fx {Hc H H' : Hp} {b : Addr} {o : HO} (h : Hc b = some o) (f : Fx b H H') : Nw Hc H H' := fun x v n g => f x v (fun e => by subst e; rw [h] at n; cases n) g
theorem Nw.put {Hc H : Hp} {a : Addr} {o u : HO} (h : Hc a = some u) : Nw Hc H (upd H a o) := fun x v n g => by
  rw [upd_ne (fun e => by subst e; rw [h] at n; cases n)]
  exact g
theorem GridN.nw {H H1 H2 : Hp} {s : Addr} {G : Grid} (h : GridN H H1 s G) (e : Nw H H1 H2) : GridN H H2 s G := by
  obtain ⟨h0, ps, h1, h2, h4, h5, h3⟩ := h
  exact ⟨h0, ps, e _ _ h0 h1, h2, h4, h5, fun i p q => ⟨(h3 i p q).1, e _ _ (h3 i p q).1 (h3 i p q).2⟩⟩
/-- one row more, made while the grid stood -/
theorem GridN.push {H H1 H' : Hp} {s p : Addr} {G : Grid} {r : List Nat} (h : GridN H H1 s G) (nH : H p = none) (np : H1 p = none) (e : Nw H H1 H') (hp : H' p = some (.lst ((nz r).map V.int))) :
    ∃ xs, H' s = some (.lst xs) ∧ xs.length = G.length ∧ GridN H (upd H' s (.lst (xs ++ [.ref p]))) s (G ++ [r]) := by
  have q1 := h
  obtain ⟨h0, ps, h1, h2, h4, h5, h3⟩ := h
  have hs : p ≠ s := Ne.symm (ne_of_none h1 np)
  refine ⟨_, e _ _ h0 h1, by rw [List.length_map]; exact h2, h0, ps ++ [p], by rw [upd_same, List.map_append]; rfl, by rw [List.length_append, List.length_append, h2]; rfl, ?_, ?_, fun i q eq => ?_⟩
  · rw [List.nodup_append]
    refine ⟨h4, by simp, fun a ha b hb e => ?_⟩
    rw [List.mem_singleton.mp hb] at e
    subst e
    obtain ⟨j, hj, ej⟩ := List.getElem_of_mem ha
    have := (h3 j a (List.getElem?_eq_some_iff.mpr ⟨hj, ej⟩)).2
    rw [np] at this
    cases this
  · intro m
    rcases List.mem_append.mp m with m | m
    · exact h5 m
    · exact hs (List.mem_singleton.mp m).symm
  · by_cases hi : i < ps.length
    · rw [List.getElem?_append_left hi] at eq
      have := h3 i q eq
      have ns : q ≠ s := fun z => h5 (z ▸ List.mem_of_getElem? eq)
      refine ⟨this.1, ?_⟩
      rw [upd_ne ns, e _ _ this.1 this.2]
      unfold row
      rw [List.getD_eq_getElem?_getD, List.getD_eq_getElem?_getD, List.getElem?_append_left (by omega)]
    · rw [List.getElem?_append_right (by omega)] at eq
      have hi2 : i - ps.length = 0 := by
        have := (List.getElem?_eq_some_iff.mp eq).1
        rw [List.length_singleton] at this
        omega
      rw [hi2] at eq
      obtain rfl : p = q := by simpa using eq
      refine ⟨nH, ?_⟩
      rw [upd_ne hs, hp]
      unfold row
      have : i = G.length := by omega
      rw [this, List.getD_eq_getElem?_getD, List.getElem?_append_right (Nat.le_refl _), Nat.sub_self]
      rfl
theorem GridN.nil {H : Hp} {s : Addr} (h : H s = none) : GridN H (upd H s (.lst [])) s [] := ⟨h, [], upd_same, rfl, List.nodup_nil, List.not_mem_nil, fun i p e => by simp at e⟩
/-- as data -/
def dG (G : Grid) : PyData := .list (G.map fun r => .list ((nz r).map PyData.int))
theorem dG_LL (G : Grid) : dG G = dLL (G.map nz) := by unfold dG dLL; rw [List.map_map]; rfl
theorem GridAt.dp {K : PySem.W.Frag} {H : Hp} {s : Addr} {G : Grid} (h : GridAt H s G) : Dp K H (.ref s) (dG G) := by
  obtain ⟨ps, h1, h2, h3⟩ := h
  rw [dG_LL]
  refine .lst (.inl (.inl h1)) (dp_ll (by rw [List.length_map]; exact h2) fun i p l a b => ?_)
  rw [List.getElem?_map] at b
  cases q : G[i]? with
  | none => rw [q] at b; cases b
  | some r =>
    rw [q] at b
    cases b
    have := h3 i p a
    rw [row_at q] at this
    exact .inl (.inl this)
theorem shp_LL (ls : List (List Int)) : SeqAt.shaped (dLL ls) = true := by
  have h0 : ∀ ns : List Int, PyData.canLayAll0 (ns.map PyData.int) = true := fun ns => by
    induction ns with
    | nil => simp [PyData.canLayAll0]
    | cons n ns ih => simp [PyData.canLayAll0, PyData.canLay0, ih]
  have h1 : ∀ ls : List (List Int), PyData.canLayAll0 (ls.map fun l => PyData.list (l.map PyData.int)) = true := fun ls => by
    induction ls with
    | nil => simp [PyData.canLayAll0]
    | cons l ls ih => simp [PyData.canLayAll0, PyData.canLay0, ih, h0]
  have h2 := dep_all (ds := ls.map fun l => PyData.list (l.map PyData.int)) (n := 1) fun d m => by
      obtain ⟨l, hm, rfl⟩ := List.mem_map.mp m
      simp only [PyData.depth]
      have := dep_all (ds := l.map PyData.int) (n := 0) fun d m => by
        obtain ⟨x, hx, rfl⟩ := List.mem_map.mp m
        simp [PyData.depth]
      omega
  show (PyData.canLay0 _ && decide (PyData.depth _ ≤ 64)) = true
  rw [Bool.and_eq_true]
  refine ⟨?_, decide_eq_true ?_⟩
  · unfold dLL; simp only [PyData.canLay0]; exact h1 ls
  · unfold dLL; simp only [PyData.depth]; omega
theorem eqv_LL : ∀ as bs : List (List Int), PyData.eqv (dLL as) (dLL bs) = decide (as = bs) := fun as bs => by
  unfold dLL
  simp only [PyData.eqv]
  induction as generalizing bs with
  | nil => cases bs <;> simp [PyData.eqvAll]
  | cons a as ih =>
    cases bs with
    | nil => simp [PyData.eqvAll]
    | cons b bs =>
      simp only [List.map_cons, PyData.eqvAll, eqv_ints, ih]
      by_cases h : a = b
      · subst h; simp
      · simp [h]
theorem nzs_inj : ∀ {a b : Grid}, a.map nz = b.map nz → a = b
  | [], [], _ => rfl
  | [], y :: b, h => by cases h
  | x :: a, [], h => by cases h
  | x :: a, y :: b, h => by
    rw [List.map_cons, List.map_cons] at h
    rw [nz_inj (List.cons.inj h).1, nzs_inj (List.cons.inj h).2]
theorem eqGrid {K : PySem.W.Frag} {H : Hp} {Q : VK} {a b : Addr} {F G : Grid} (h : GridAt H a F) (g : GridAt H b G) (q : Q (.bl (decide (F = G))) H) : rEqD K (.ref a) (.ref b) H Q := by
  have e : decide (F.map nz = G.map nz) = decide (F = G) := by
    by_cases z : F = G
    · rw [z, decide_eq_true rfl, decide_eq_true rfl]
    · rw [decide_eq_false z, decide_eq_false fun y => z (nzs_inj y)]
  refine ⟨_, _, h.dp, g.dp, by rw [dG_LL]; exact shp_LL _, by rw [dG_LL]; exact shp_LL _, ?_⟩
  rw [dG_LL, dG_LL, eqv_LL, e]
  exact q
theorem neGrid {K : PySem.W.Frag} {H : Hp} {Q : VK} {a b : Addr} {F G : Grid} (h : GridAt H a F) (g : GridAt H b G) (q : Q (.bl (!decide (F = G))) H) : rNeD K (.ref a) (.ref b) H Q := by
  have e : decide (F.map nz = G.map nz) = decide (F = G) := by
    by_cases z : F = G
    · rw [z, decide_eq_true rfl, decide_eq_true rfl]
    · rw [decide_eq_false z, decide_eq_false fun y => z (nzs_inj y)]
  refine ⟨_, _, h.dp, g.dp, by rw [dG_LL]; exact shp_LL _, by rw [dG_LL]; exact shp_LL _, ?_⟩
  rw [dG_LL, dG_LL, eqv_LL, e]
  exact q
theorem at_ints {ns : List Int} {i : Nat} {n : Int} (h : ns[i]? = some n) : (ns.map V.int)[i]? = some (.int n) := by rw [List.getElem?_map, h]; rfl
theorem atI_last {xs : List V} {v : V} (h : xs[xs.length - 1]? = some v) : atI xs (-1) = some v := by
  have hl : xs.length - 1 < xs.length := (List.getElem?_eq_some_iff.mp h).1
  have e : ixN xs.length (-1) = some (xs.length - 1) := by
    unfold ixN
    rw [if_neg (by omega), if_pos (by omega)]
    congr 1
    omega
  unfold atI
  rw [e]
  exact h
theorem cutV_from1 (xs : List V) : cutV xs (some 1) none = xs.drop 1 := by
  unfold cutV
  have e2 : HT.sIx xs.length xs.length none = xs.length := rfl
  have e1 : HT.sIx xs.length 0 (some 1) = min 1 xs.length := HT.sIx_nat ..
  rw [e1, e2]
  by_cases h : 1 ≤ xs.length
  · rw [Nat.min_eq_left h, List.take_of_length_le (by rw [List.length_drop]; omega)]
  · have : xs = [] := List.length_eq_zero_iff.mp (by omega)
    rw [this]
    rfl
theorem cut_take (xs : List V) (j : Nat) : cutV xs none (some (j : Int)) = xs.take j := by
  by_cases h : j ≤ xs.length
  · exact BC.cut_to xs rfl h
  · unfold cutV
    have e1 : HT.sIx xs.length 0 none = 0 := rfl
    rw [HT.sIx_nat, e1, List.drop_zero, Nat.sub_zero, Nat.min_eq_right (by omega), List.take_length, List.take_of_length_le (by omega)]
theorem GridN.get {H H' : Hp} {s : Addr} {G : Grid} (h : GridN H H' s G) {i : Nat} (hi : i < G.length) : ∃ p xs, H' s = some (.lst xs) ∧ xs.length = G.length ∧ xs[i]? = some (.ref p) ∧ H' p = some (.lst ((nz (row G i)).map V.int)) ∧ H p = none := by
  obtain ⟨_, ps, h1, h2, _, _, h3⟩ := h
  have hx : ps[i]? = some ps[i] := List.getElem?_eq_getElem (by omega)
  exact ⟨ps[i], _, h1, by rw [List.length_map]; exact h2, by rw [List.getElem?_map, hx]; rfl, (h3 i _ hx).2, (h3 i _ hx).1⟩
theorem GridN.lower {Hl H H' : Hp} {b s : Addr} {G : Grid} (h : GridN H H' s G) (f : Fx b Hl H) (hb : ∃ o, H b = some o) : GridN Hl H' s G := by
  obtain ⟨o, ho⟩ := hb
  obtain ⟨h0, ps, h1, h2, h4, h5, h3⟩ := h
  have nb : ∀ {x : Addr}, H x = none → x ≠ b := fun n e => by subst e; rw [ho] at n; cases n
  exact ⟨fx_none f h0 (nb h0), ps, h1, h2, h4, h5, fun i p q => ⟨fx_none f (h3 i p q).1 (nb (h3 i p q).1), (h3 i p q).2⟩⟩
theorem nd_at {l : List Addr} (h : l.Nodup) {i j : Nat} {x : Addr} (a : l[i]? = some x) (b : l[j]? = some x) : i = j := by
  obtain ⟨h1, h2⟩ := List.getElem?_eq_some_iff.mp a
  obtain ⟨h3, h4⟩ := List.getElem?_eq_some_iff.mp b
  have e1 := h.idxOf_getElem i h1
  have e2 := h.idxOf_getElem j h3
  rw [h2] at e1
  rw [h4] at e2
  exact e1.symm.trans e2
/-- kept of a list -/
theorem kept_nz (s : List Nat) (k : Nat → Bool) : kept s.length (fun i => k (s.getD i 0)) (fun i => V.int ((s.getD i 0 : Nat) : Int)) = (nz (s.filter k)).map V.int := by
  unfold kept nz
  have e : (List.range s.length).map (fun i => s.getD i 0) = s := by
    apply List.ext_getElem?
    intro j
    by_cases h : j < s.length
    · rw [List.getElem?_map, List.getElem?_range h, List.getElem?_eq_getElem h]
      show some (s.getD j 0) = _
      rw [List.getD_eq_getElem?_getD, List.getElem?_eq_getElem h]
      rfl
    · rw [List.getElem?_eq_none (by rw [List.length_map, List.length_range]; omega), List.getElem?_eq_none (by omega)]
  conv => rhs; rw [← e]
  rw [List.filter_map, List.map_map, List.map_map]
  rfl
theorem kept_rng (n : Nat) (k : Nat → Bool) : kept n k (fun i => V.int ((i : Nat) : Int)) = (nz ((List.range n).filter k)).map V.int := by
  unfold kept nz
  rw [List.map_map]
  rfl
/-- zip of lists of different lengths -/
theorem lc_zipM {K : PySem.W.Frag} {σ : L2.St} {H1 : Hp} {tt : TT} {te : TE} {vs : List Nat} {Dl : Addr} {Q : VK} {a b : Addr} {xs ys : List V} {j k : Nat} (n : Nat) (keep : Nat → Bool) (f : Nat → V) (hx : SqL K H1 a xs) (hy : SqL K H1 b ys) (h1 : n ≤ xs.length) (h2 : n ≤ ys.length) (h3 : n = xs.length ∨ n = ys.length) (hD : H1 Dl = none) (hn : n ≤ 100000)
    (hw : ∀ u v : V, wipe (((wipe σ vs).set j (some u)).set k (some v)) vs = wipe σ vs)
    (ht : ∀ i x y, xs[i]? = some x → ys[i]? = some y → Evl.EvT tt (((wipe σ vs).set j (some x)).set k (some y)) H1 (keep i))
    (he : ∀ i x y, xs[i]? = some x → ys[i]? = some y → keep i = true → Evl.Ev te (((wipe σ vs).set j (some x)).set k (some y)) H1 (f i))
    (hd : ∀ H', Evl.Ex H1 H' → H' Dl = some (.lst (kept n keep f)) → Q (.ref Dl) H') : LcG (Itz K a b) (gTup K 2 (gCons (gName j) (gCons (gName k) gNil))) tt te vs σ Dl H1 Q := by
  have gx : ∀ i, i < n → xs[i]? = some (xs.getD i .non) := fun i hi => by rw [List.getD_eq_getElem?_getD, List.getElem?_eq_getElem (by omega)]; rfl
  have gy : ∀ i, i < n → ys[i]? = some (ys.getD i .non) := fun i hi => by rw [List.getD_eq_getElem?_getD, List.getElem?_eq_getElem (by omega)]; rfl
  refine lc_pure n (fun i => ((wipe σ vs).set j (some (xs.getD i .non))).set k (some (ys.getD i .non))) keep f hD hn (fun H' e => ⟨xs, ys, Evl.ex_l e hx, Evl.ex_l e hy, by omega⟩)
    (fun i H' hi e => ⟨xs, ys, _, _, Evl.ex_l e hx, Evl.ex_l e hy, gx i hi, gy i hi⟩)
    (fun i H' x H'' QG hi e y q => ?_) (fun i hi => hw _ _) (fun i hi => ht i _ _ (gx i hi) (gy i hi)) (fun i hi => he i _ _ (gx i hi) (gy i hi)) hd
  obtain ⟨T, u, v, rfl, hT, rfl, hf, hf2⟩ := y
  have hu := hf xs (Evl.ex_l e hx)
  have hv := hf2 ys (Evl.ex_l e hy)
  have e1 : xs.getD i .non = u := by rw [List.getD_eq_getElem?_getD, hu]; rfl
  have e2 : ys.getD i .non = v := by rw [List.getD_eq_getElem?_getD, hv]; rfl
  refine g_two upd_same ?_
  have q2 := q (Evl.Ex.new hT)
  rw [e1, e2] at q2
  exact q2
end BC

set_option Elab.async false
set_option linter.all false
set_option maxRecDepth 100000
set_option maxHeartbeats 4000000
namespace LW
open PySem PySem.Spec PyProof.Rows L2 BC Evl TR
def topS (i : Nat) : Stmt := PySem.Challenge.pw_breadcrumbs_k05_sites_without_pages.main.body.getD i (.Pass ⟨0, 0, 0, 0⟩)
abbrev s_is_integer : Stmt := topS 8
theorem sc_is_integer : FnScope ["value", "least", "most"] ["value", "least", "most"] (defScope s_is_integer) := ⟨rfl, rfl, rfl, by decide +kernel, rfl, by decide +kernel, by decide +kernel⟩
abbrev s_is_row : Stmt := topS 9
theorem sc_is_row : FnScope ["value", "page", "many", "other"] ["value", "page", "many"] (defScope s_is_row) := ⟨rfl, rfl, rfl, by decide +kernel, rfl, by decide +kernel, by decide +kernel⟩
abbrev s_is_site : Stmt := topS 10
theorem sc_is_site : FnScope ["value", "page", "row"] ["value"] (defScope s_is_site) := ⟨rfl, rfl, rfl, by decide +kernel, rfl, by decide +kernel, by decide +kernel⟩
abbrev s_check_site : Stmt := topS 11
theorem sc_check_site : FnScope ["site"] ["site"] (defScope s_check_site) := ⟨rfl, rfl, rfl, by decide +kernel, rfl, by decide +kernel, by decide +kernel⟩
abbrev s_check_page : Stmt := topS 12
theorem sc_check_page : FnScope ["site", "page"] ["site", "page"] (defScope s_check_page) := ⟨rfl, rfl, rfl, by decide +kernel, rfl, by decide +kernel, by decide +kernel⟩
abbrev s_check_pages : Stmt := topS 13
theorem sc_check_pages : FnScope ["site", "pages", "page"] ["site", "pages"] (defScope s_check_pages) := ⟨rfl, rfl, rfl, by decide +kernel, rfl, by decide +kernel, by decide +kernel⟩
abbrev s_is_linked_on : Stmt := topS 14
theorem sc_is_linked_on : FnScope ["site", "value", "page", "other"] ["site", "value"] (defScope s_is_linked_on) := ⟨rfl, rfl, rfl, by decide +kernel, rfl, by decide +kernel, by decide +kernel⟩
abbrev s_is_walk_on : Stmt := topS 15
theorem sc_is_walk_on : FnScope ["site", "value"] ["site", "value"] (defScope s_is_walk_on) := ⟨rfl, rfl, rfl, by decide +kernel, rfl, by decide +kernel, by decide +kernel⟩
abbrev s_is_walk : Stmt := topS 16
theorem sc_is_walk : FnScope ["site", "value"] ["site", "value"] (defScope s_is_walk) := ⟨rfl, rfl, rfl, by decide +kernel, rfl, by decide +kernel, by decide +kernel⟩
abbrev s_links_into : Stmt := topS 17
theorem sc_links_into : FnScope ["site", "page", "other", "row"] ["site", "page"] (defScope s_links_into) := ⟨rfl, rfl, rfl, by decide +kernel, rfl, by decide +kernel, by decide +kernel⟩
abbrev s_reached_from : Stmt := topS 18
theorem sc_reached_from : FnScope ["site", "page", "found", "waiting", "other"] ["site", "page"] (defScope s_reached_from) := ⟨rfl, rfl, rfl, by decide +kernel, rfl, by decide +kernel, by decide +kernel⟩
abbrev s_site_without : Stmt := topS 19
theorem sc_site_without : FnScope ["site", "pages", "found", "page", "row", "other"] ["site", "pages"] (defScope s_site_without) := ⟨rfl, rfl, rfl, by decide +kernel, rfl, by decide +kernel, by decide +kernel⟩
abbrev s_law_source : Stmt := topS 21
theorem sc_law_source : FnScope ["_law_cell", "_law_k"] ["_law_cell", "_law_k"] (defScope s_law_source) := ⟨rfl, rfl, rfl, by decide +kernel, rfl, by decide +kernel, by decide +kernel⟩
abbrev s_law_draw : Stmt := topS 22
theorem sc_law_draw : FnScope ["_law_source_here", "_law_count", "_law_mixed", "_law_digit"] ["_law_source_here", "_law_count"] (defScope s_law_draw) := ⟨rfl, rfl, rfl, by decide +kernel, rfl, by decide +kernel, by decide +kernel⟩
abbrev s_law_net : Stmt := topS 23
theorem sc_law_net : FnScope ["_law_source_here", "_law_most", "_law_many", "_law_spot", "_law_style", "_law_found", "_law_row", "_law_other", "_law_picks"] ["_law_source_here", "_law_most"] (defScope s_law_net) := ⟨rfl, rfl, rfl, by decide +kernel, rfl, by decide +kernel, by decide +kernel⟩
abbrev s_law_stroll : Stmt := topS 24
theorem sc_law_stroll : FnScope ["_law_source_here", "_law_net_here", "_law_most", "_law_found", "_law_step", "_law_row"] ["_law_source_here", "_law_net_here", "_law_most"] (defScope s_law_stroll) := ⟨rfl, rfl, rfl, by decide +kernel, rfl, by decide +kernel, by decide +kernel⟩
abbrev s_law_some : Stmt := topS 25
theorem sc_law_some : FnScope ["_law_source_here", "_law_many", "_law_most", "_law_left", "_law_step"] ["_law_source_here", "_law_many", "_law_most"] (defScope s_law_some) := ⟨rfl, rfl, rfl, by decide +kernel, rfl, by decide +kernel, by decide +kernel⟩
abbrev s_law_equal : Stmt := topS 26
theorem sc_law_equal : FnScope ["_law_result", "_law_expected", "_law_one", "_law_other"] ["_law_result", "_law_expected"] (defScope s_law_equal) := ⟨rfl, rfl, rfl, by decide +kernel, rfl, by decide +kernel, by decide +kernel⟩
abbrev s_law_holds : Stmt := topS 27
theorem sc_law_holds : FnScope ["_law_source_here", "_law_most", "_law_net_here", "_law_step", "_law_gone", "_law_due", "_law_before", "_law_attempt", "_law_here", "_law_spot", "_law_row", "_law_is_free", "_law_left", "_law_found", "_law_other"] ["_law_source_here", "_law_most"] (defScope s_law_holds) := ⟨rfl, rfl, rfl, by decide +kernel, rfl, by decide +kernel, by decide +kernel⟩
abbrev s_law : Stmt := topS 28
theorem sc_law : FnScope ["_law_script", "_law_k", "_law_cell"] ["_law_script"] (defScope s_law) := ⟨rfl, rfl, rfl, by decide +kernel, rfl, by decide +kernel, by decide +kernel⟩
structure Txt (K : PySem.W.Frag) (mg : Str → Option Value) where
  f_is_integer : Addr
  fd_is_integer : FuncData
  F_is_integer : Fun K "is_integer" "is_integer" s_is_integer f_is_integer fd_is_integer
  m_is_integer : mg "is_integer" = some (.ref f_is_integer)
  b_is_integer : Binds K fd_is_integer ["value", "least", "most"] []
  f_is_row : Addr
  fd_is_row : FuncData
  F_is_row : Fun K "is_row" "is_row" s_is_row f_is_row fd_is_row
  m_is_row : mg "is_row" = some (.ref f_is_row)
  b_is_row : Binds K fd_is_row ["value", "page", "many"] []
  f_is_site : Addr
  fd_is_site : FuncData
  F_is_site : Fun K "is_site" "is_site" s_is_site f_is_site fd_is_site
  m_is_site : mg "is_site" = some (.ref f_is_site)
  b_is_site : Binds K fd_is_site ["value"] []
  f_check_site : Addr
  fd_check_site : FuncData
  F_check_site : Fun K "check_site" "check_site" s_check_site f_check_site fd_check_site
  m_check_site : mg "check_site" = some (.ref f_check_site)
  b_check_site : Binds K fd_check_site ["site"] []
  f_check_page : Addr
  fd_check_page : FuncData
  F_check_page : Fun K "check_page" "check_page" s_check_page f_check_page fd_check_page
  m_check_page : mg "check_page" = some (.ref f_check_page)
  b_check_page : Binds K fd_check_page ["site", "page"] []
  f_check_pages : Addr
  fd_check_pages : FuncData
  F_check_pages : Fun K "check_pages" "check_pages" s_check_pages f_check_pages fd_check_pages
  m_check_pages : mg "check_pages" = some (.ref f_check_pages)
  b_check_pages : Binds K fd_check_pages ["site", "pages"] []
  f_is_linked_on : Addr
  fd_is_linked_on : FuncData
  F_is_linked_on : Fun K "is_linked_on" "is_linked_on" s_is_linked_on f_is_linked_on fd_is_linked_on
  m_is_linked_on : mg "is_linked_on" = some (.ref f_is_linked_on)
  b_is_linked_on : Binds K fd_is_linked_on ["site", "value"] []
  f_is_walk_on : Addr
  fd_is_walk_on : FuncData
  F_is_walk_on : Fun K "is_walk_on" "is_walk_on" s_is_walk_on f_is_walk_on fd_is_walk_on
  m_is_walk_on : mg "is_walk_on" = some (.ref f_is_walk_on)
  b_is_walk_on : Binds K fd_is_walk_on ["site", "value"] []
  f_is_walk : Addr
  fd_is_walk : FuncData
  F_is_walk : Fun K "is_walk" "is_walk" s_is_walk f_is_walk fd_is_walk
  m_is_walk : mg "is_walk" = some (.ref f_is_walk)
  b_is_walk : Binds K fd_is_walk ["site", "value"] []
  f_links_into : Addr
  fd_links_into : FuncData
  F_links_into : Fun K "links_into" "links_into" s_links_into f_links_into fd_links_into
  m_links_into : mg "links_into" = some (.ref f_links_into)
  b_links_into : Binds K fd_links_into ["site", "page"] []
  f_reached_from : Addr
  fd_reached_from : FuncData
  F_reached_from : Fun K "reached_from" "reached_from" s_reached_from f_reached_from fd_reached_from
  m_reached_from : mg "reached_from" = some (.ref f_reached_from)
  b_reached_from : Binds K fd_reached_from ["site", "page"] []
  f_site_without : Addr
  fd_site_without : FuncData
  F_site_without : Fun K "site_without" "site_without" s_site_without f_site_without fd_site_without
  m_site_without : mg "site_without" = some (.ref f_site_without)
  b_site_without : Binds K fd_site_without ["site", "pages"] []
  f_law_source : Addr
  fd_law_source : FuncData
  F_law_source : Fun K "_law_source" "_law_source" s_law_source f_law_source fd_law_source
  m_law_source : mg "_law_source" = some (.ref f_law_source)
  b_law_source : Binds K fd_law_source ["_law_cell", "_law_k"] []
  f_law_draw : Addr
  fd_law_draw : FuncData
  F_law_draw : Fun K "_law_draw" "_law_draw" s_law_draw f_law_draw fd_law_draw
  m_law_draw : mg "_law_draw" = some (.ref f_law_draw)
  b_law_draw : Binds K fd_law_draw ["_law_source_here", "_law_count"] []
  f_law_net : Addr
  fd_law_net : FuncData
  F_law_net : Fun K "_law_net" "_law_net" s_law_net f_law_net fd_law_net
  m_law_net : mg "_law_net" = some (.ref f_law_net)
  b_law_net : Binds K fd_law_net ["_law_source_here", "_law_most"] []
  f_law_stroll : Addr
  fd_law_stroll : FuncData
  F_law_stroll : Fun K "_law_stroll" "_law_stroll" s_law_stroll f_law_stroll fd_law_stroll
  m_law_stroll : mg "_law_stroll" = some (.ref f_law_stroll)
  b_law_stroll : Binds K fd_law_stroll ["_law_source_here", "_law_net_here", "_law_most"] []
  f_law_some : Addr
  fd_law_some : FuncData
  F_law_some : Fun K "_law_some" "_law_some" s_law_some f_law_some fd_law_some
  m_law_some : mg "_law_some" = some (.ref f_law_some)
  b_law_some : Binds K fd_law_some ["_law_source_here", "_law_many", "_law_most"] []
  f_law_equal : Addr
  fd_law_equal : FuncData
  F_law_equal : Fun K "_law_equal" "_law_equal" s_law_equal f_law_equal fd_law_equal
  m_law_equal : mg "_law_equal" = some (.ref f_law_equal)
  b_law_equal : Binds K fd_law_equal ["_law_result", "_law_expected"] []
  f_law_holds : Addr
  fd_law_holds : FuncData
  F_law_holds : Fun K "_law_holds" "_law_holds" s_law_holds f_law_holds fd_law_holds
  m_law_holds : mg "_law_holds" = some (.ref f_law_holds)
  b_law_holds : Binds K fd_law_holds ["_law_source_here", "_law_most"] []
  f_law : Addr
  fd_law : FuncData
  F_law : Fun K "law" "law" s_law f_law fd_law
  m_law : mg "law" = some (.ref f_law)
  b_law : Binds K fd_law ["_law_script"] []
  t_MOST_PAGES : Tok
  c_MOST_PAGES : mg "MOST_PAGES" = some (.int 12 t_MOST_PAGES)
  t_MOST_STEPS : Tok
  c_MOST_STEPS : mg "MOST_STEPS" = some (.int 60 t_MOST_STEPS)
  n_abs : mg "abs" = none
  n_all : mg "all" = none
  n_bool : mg "bool" = none
  n_enumerate : mg "enumerate" = none
  n_int : mg "int" = none
  n_isinstance : mg "isinstance" = none
  n_len : mg "len" = none
  n_list : mg "list" = none
  n_max : mg "max" = none
  n_min : mg "min" = none
  n_range : mg "range" = none
  n_repr : mg "repr" = none
  n_set : mg "set" = none
  n_sorted : mg "sorted" = none
  n_str : mg "str" = none
  n_tuple : mg "tuple" = none
  n_zip : mg "zip" = none
local macro_rules | `(tactic| walk_at "sx") => `(tactic| try simp only [x_seq, x_next, x_brk, x_cnt, x_nev, x_ret, x_retN, x_drop, x_ifS, x_asg, x_gn, x_gsub, x_par, x_par3, x_aug, x_for, x_lc, x_rng1, x_rng2, x_rng3, x_ilist, x_itup, x_ienum, x_izip, x_izipA, x_istr, x_var, x_c, x_op, x_un, x_test, x_b, x_chain, x_and, x_or, x_not, x_andV, x_orV, x_notV, x_ife, x_nil, x_cons, x_lst, x_tup, x_cb, x_call, x_callK, x_bm, x_bm0, x_tru, x_sl, x_nopart, x_part, x_revL, x_I0, x_I, x_U, x_ip, x_ipC, x_eqI, x_neI, x_eqB, x_neB, x_eqS, x_neS, x_isB, x_isNB, x_lrg, x_gall, x_lenSet, x_sortSet, x_rg1, x_rg2,
  L2.start, List.map_cons, List.map_nil, List.length_cons, List.length_nil, Nat.reduceAdd, Nat.reduceSub, Nat.sub_self, Nat.zero_add, List.replicate, List.replicate_succ, List.replicate_zero, List.append_nil, List.cons_append, List.nil_append, List.set_cons_zero, List.set_cons_succ, List.getElem?_cons_zero, List.getElem?_cons_succ, Option.some.injEq, V.int.injEq, V.bl.injEq, V.ref.injEq, V.str.injEq, List.cons.injEq, and_true, true_and, exists_eq_left', exists_eq_left, exists_and_left, exists_eq, if_true, if_false, ite_true, ite_false, Bool.true_eq_false, Bool.false_eq_true, reduceIte, reduceCtorEq, Bool.not_true, Bool.not_false, decide_true, decide_false, decide_eq_true_eq, Bool.and_true, Bool.true_and, Bool.and_self, Bool.and_false, Bool.false_and, Bool.or_self, Bool.or_false, Bool.false_or, Bool.or_true, Bool.true_or, eq_self])

section
variable {P : Program} {w : World} {K : PySem.W.Frag} {mg : Str → Option Value} {base : Heap}
def spIsInt : Sp := fun vs H Q _ => ∃ i lo hi : Int, vs = [.int i, .int lo, .int hi] ∧ Q (.bl (decide (lo ≤ i) && decide (i ≤ hi))) H
theorem ok_is_integer (T : Txt K mg) : FnOk P w K mg base CX0 1 T.f_is_integer T.fd_is_integer ["value", "least", "most"] spIsInt := by
  refine T.F_is_integer.ok sc_is_integer (fun vs H Q E h => ?_) (fun cdv A outer s H vs Q E hr h => ?_)
  · obtain ⟨i, lo, hi, rfl, _⟩ := h
    rfl
  · obtain ⟨i, lo, hi, rfl, k⟩ := h
    apply Exists.intro
    apply And.intro
    · apply pss_one
      exact (ps_ret (pe_and (pe_callB (k_isi (K := K) rfl) (by rfl) T.n_isinstance (by decide +kernel) (pa_cons (pv 0) (pa_cons (pe_bltn (v := .ty "int") (by rfl) T.n_int (by decide +kernel) rfl) pa_nil))) (pe_and (pe_not (pe_callB (k_isi (K := K) rfl) (by rfl) T.n_isinstance (by decide +kernel) (pa_cons (pv 0) (pa_cons (pe_bltn (v := .ty "bool") (by rfl) T.n_bool (by decide +kernel) rfl) pa_nil)))) (pe_one (pe_chain op_le op_le (pv 1) (pv 0) (pv 2))))))
    walk_at "sx"
    refine isi_int (b := true) (by decide +kernel) ?_
    walk_at "sx"
    refine isi_int (b := false) (by decide +kernel) ?_
    walk_at "sx"
    by_cases h1 : lo ≤ i
    · simpa [h1] using k
    · simpa [h1] using k
end
/-! ### sites.py on sites -/
section
variable {P : Program} {w : World} {K : PySem.W.Frag} {mg : Str → Option Value} {base : Heap}
def spIsRow (K : PySem.W.Frag) : Sp := fun vs H Q _ => ∃ (a : Addr) (r : List Nat) (i n : Nat), vs = [.ref a, .int i, .int n] ∧ SqL K H a ((nz r).map V.int) ∧ r.Pairwise (· < ·) ∧ (∀ x ∈ r, x < n) ∧ i ∉ r ∧ r.length ≤ 12 ∧ ∀ H', Ex H H' → Q (.bl true) H'
theorem bl_true (n : Nat) : List.replicate n (V.bl true) = (List.replicate n true).map V.bl := by rw [List.map_replicate]
theorem ok_is_row (T : Txt K mg) : FnOk P w K mg base CX0 2 T.f_is_row T.fd_is_row ["value", "page", "many"] (spIsRow K) := by
  refine T.F_is_row.ok sc_is_row (fun vs H Q E h => ?_) (fun cdv A outer s H vs Q E hr h => ?_)
  · obtain ⟨a, r, i, n, rfl, _⟩ := h
    rfl
  · obtain ⟨a, r, i, n, rfl, hA, asc, lt, no, hl, k⟩ := h
    apply Exists.intro
    apply And.intro
    · apply pss_cons
      · apply ps_if
        · exact (PW.pt (pw_or (pt_not (pt_val (pe_callB (k_isi (K := K) rfl) (by rfl) T.n_isinstance (by decide +kernel) (pa_cons (pv 0) (pa_cons (pe_bltn (v := .ty "list") (by rfl) T.n_list (by decide +kernel) rfl) pa_nil))))) (pw_or1 (pt_not (pt_val (pe_callB (k_all (K := K) rfl rfl) (by rfl) T.n_all (by decide +kernel) (pa_cons (pe_lc (own := [("other", 3)]) rfl sc_is_row.nd (k_pi_list (K := K) rfl (pv 0)) (blkOk_by (own := [("other", 3)]) (N := ["value", "page", "many", "other"]) (sc := defScope s_is_row) (by decide +kernel)) (fun _ _ _ _ _ => by exact (pg_name (i := 3) sc_is_row.nd rfl (.inl rfl))) (fun _ _ _ _ _ => by exact pts_nil) (fun _ _ _ _ _ => by exact (pe_call (ok_is_integer T) (hr.mono (by decide)) (by rfl) T.m_is_integer T.F_is_integer.kp T.b_is_integer .nil pass0 (pa_cons (pv 3) (pa_cons pe_int (pa_cons (pe_op op_sub (pv 2) pe_int) pa_nil)))))) pa_nil)))))))
        · apply pss_one
          exact (ps_ret pe_bl)
        · exact pss_nil
      apply pss_one
      exact (ps_ret (pe_and (pe_cmpR (k_notIn (K := K) rfl) (pv 1) (pv 0) (by rfl)) (pe_one (pe_cmpR (k_eqD (K := K) rfl hr.units) (pv 0) (k_sortSet (K := K) rfl (by rfl) T.n_sorted (by rfl) T.n_set (pv 0)) (by rfl)))))
    walk_at "sx"
    refine isi_x (b := true) (tyx_l hA) (by decide +kernel) ?_
    walk_at "sx"
    refine ⟨⟨_, hA⟩, fun D nD => ?_⟩
    refine lc_list (fun _ => true) (fun _ => V.bl true) hA nD (by rw [List.length_map, nz_len]; omega) (fun u => rfl) (fun i x _ => tyes) (fun i x hx _ => ?_) (fun H2 e2 hD => ?_)
    · obtain ⟨x, hx', rfl⟩ := at_nz hx
      have := lt x (List.mem_of_getElem? hx')
      intro H3 e3 R hR
      walk_at "sx"
      refine ⟨_, rfl, _, rfl, ?_⟩
      walk_at "sx"
      refine ⟨_, _, _, rfl, ?_⟩
      rw [decide_eq_true (show (0 : Int) ≤ (x : Int) by omega), decide_eq_true (show ((x : Nat) : Int) ≤ (n : Int) - 1 by omega)]
      exact hR _ (Ex.refl _)
    · rw [kept_const, bl_true] at hD
      refine allL (.inl (.inl hD)) ?_
      rw [all_true]
      walk_at "sx"
      have hA2 := ex_l e2 hA
      refine ninL hA2 ?_
      rw [decide_eq_false (fun m => no (nz_mem.mp m))]
      walk_at "sx"
      refine ⟨_, hA2, by rw [nz_len]; omega, fun ms p pw mem np => ?_⟩
      have ep := Ex.new np (o := .lst (ms.map V.int))
      obtain rfl := asc_same pw (lts asc) mem
      refine eqInts (ex_l ep hA2) (.inl (.inl upd_same)) ?_
      rw [decide_eq_true rfl]
      exact k _ (e2.trans ep)
def spIsSite (K : PySem.W.Frag) : Sp := fun vs H Q _ => ∃ (s : Addr) (G : Grid), vs = [.ref s] ∧ GridAt H s G ∧ SiteOk G ∧ ∀ H', Ex H H' → Q (.bl true) H'
theorem ok_is_site (T : Txt K mg) : FnOk P w K mg base CX0 3 T.f_is_site T.fd_is_site ["value"] (spIsSite K) := by
  refine T.F_is_site.ok sc_is_site (fun vs H Q E h => ?_) (fun cdv A outer s H vs Q E hr h => ?_)
  · obtain ⟨s, G, rfl, _⟩ := h
    rfl
  · obtain ⟨s, G, rfl, hS, ok, k⟩ := h
    apply Exists.intro
    apply And.intro
    · apply pss_cons
      · apply ps_if
        · exact (PW.pt (pw_or (pt_not (pt_val (pe_callB (k_isi (K := K) rfl) (by rfl) T.n_isinstance (by decide +kernel) (pa_cons (pv 0) (pa_cons (pe_bltn (v := .ty "list") (by rfl) T.n_list (by decide +kernel) rfl) pa_nil))))) (pw_or1 (pt_not (pt_chain op_le op_le pe_int (pe_callB (k_len (K := K) rfl) (by rfl) T.n_len PySem.boot_len (pa_cons (pv 0) pa_nil)) (pe_glob (v := .int 12) rfl T.c_MOST_PAGES ⟨_, rfl⟩))))))
        · apply pss_one
          exact (ps_ret pe_bl)
        · exact pss_nil
      apply pss_one
      exact (ps_ret (pe_callB (k_all (K := K) rfl rfl) (by rfl) T.n_all (by decide +kernel) (pa_cons (pe_lc (own := [("page", 1), ("row", 2)]) rfl sc_is_site.nd (k_pi_enum (K := K) rfl (by rfl) T.n_enumerate (pa_cons (pv 0) pa_nil)) (blkOk_by (own := [("page", 1), ("row", 2)]) (N := ["value", "page", "row"]) (sc := defScope s_is_site) (by decide +kernel)) (fun _ _ _ _ _ => by exact (k_tup (K := K) (n := 2) rfl rfl (pgs_cons (pg_name (i := 1) sc_is_site.nd rfl (.inl rfl)) (pgs_cons (pg_name (i := 2) sc_is_site.nd rfl (.inl rfl)) pgs_nil)))) (fun _ _ _ _ _ => by exact pts_nil) (fun _ _ _ _ _ => by exact (pe_call (ok_is_row T) (hr.mono (by decide)) (by rfl) T.m_is_row T.F_is_row.kp T.b_is_row .nil pass0 (pa_cons (pv 2) (pa_cons (pv 1) (pa_cons (pe_callB (k_len (K := K) rfl) (by rfl) T.n_len PySem.boot_len (pa_cons (pv 0) pa_nil)) pa_nil)))))) pa_nil)))
    obtain ⟨xs, hs, hl, hrow⟩ := hS.lst
    have n1 := ok.n1
    have n2 := ok.n2
    walk_at "sx"
    refine isi_x (b := true) (tyx_l (.inl (.inl hs))) (by decide +kernel) ?_
    walk_at "sx"
    refine lenL (.inl (.inl hs)) ?_
    walk_at "sx"
    rw [hl]
    have c1 : (1 : Int) ≤ ((G.length : Nat) : Int) := by omega
    have c2 : ((G.length : Nat) : Int) ≤ 12 := by omega
    simp only [c1, c2]
    walk_at "sx"
    refine ⟨_, .inl (.inl hs), fun D nD => ?_⟩
    refine lc_enum (fun _ => true) (fun _ => V.bl true) (.inl (.inl hs)) nD (by omega) (fun u v => rfl) (fun i x _ => tyes) (fun i x hx _ => ?_) (fun H2 e2 hD => ?_)
    · obtain ⟨hi, p, rfl, hp⟩ := hrow i x hx
      intro H3 e3 R hR
      walk_at "sx"
      refine ⟨_, rfl, _, rfl, _, rfl, ?_⟩
      refine lenL (.inl (.inl (e3 _ _ hs))) ?_
      rw [hl]
      have at' := at_row hi
      refine ⟨p, row G i, i, G.length, rfl, .inl (.inl (e3 _ _ hp)), ok.asc i _ at', ok.lt i _ at', ok.no i _ at', ok.rlen i, fun H4 e4 => hR _ e4⟩
    · rw [kept_const, bl_true] at hD
      refine allL (.inl (.inl hD)) ?_
      rw [all_true]
      exact k _ e2
def spChkSite (K : PySem.W.Frag) : Sp := fun vs H Q _ => ∃ (s : Addr) (G : Grid), vs = [.ref s] ∧ GridAt H s G ∧ SiteOk G ∧ ∀ H', Ex H H' → Q .non H'
theorem ok_check_site (T : Txt K mg) : FnOk P w K mg base CX0 4 T.f_check_site T.fd_check_site ["site"] (spChkSite K) := by
  refine T.F_check_site.ok sc_check_site (fun vs H Q E h => ?_) (fun cdv A outer s H vs Q E hr h => ?_)
  · obtain ⟨s, G, rfl, _⟩ := h
    rfl
  · obtain ⟨s, G, rfl, hS, ok, k⟩ := h
    apply Exists.intro
    apply And.intro
    · apply pss_one
      apply ps_if
      · exact (pt_not (pt_val (pe_call (ok_is_site T) (hr.mono (by decide)) (by rfl) T.m_is_site T.F_is_site.kp T.b_is_site .nil pass0 (pa_cons (pv 0) pa_nil))))
      · apply pss_one
        exact ps_never
      · exact pss_nil
    walk_at "sx"
    refine ⟨s, G, rfl, hS, ok, fun H1 e1 => ?_⟩
    walk_at "sx"
    exact k _ e1
def spChkPage (K : PySem.W.Frag) : Sp := fun vs H Q _ => ∃ (s : Addr) (G : Grid) (p : Nat), vs = [.ref s, .int p] ∧ GridAt H s G ∧ p < G.length ∧ Q .non H
theorem ok_check_page (T : Txt K mg) : FnOk P w K mg base CX0 2 T.f_check_page T.fd_check_page ["site", "page"] (spChkPage K) := by
  refine T.F_check_page.ok sc_check_page (fun vs H Q E h => ?_) (fun cdv A outer s H vs Q E hr h => ?_)
  · obtain ⟨s, G, p, rfl, _⟩ := h
    rfl
  · obtain ⟨s, G, p, rfl, hS, hp, k⟩ := h
    apply Exists.intro
    apply And.intro
    · apply pss_one
      apply ps_if
      · exact (pt_not (pt_val (pe_call (ok_is_integer T) (hr.mono (by decide)) (by rfl) T.m_is_integer T.F_is_integer.kp T.b_is_integer .nil pass0 (pa_cons (pv 1) (pa_cons pe_int (pa_cons (pe_op op_sub (pe_callB (k_len (K := K) rfl) (by rfl) T.n_len PySem.boot_len (pa_cons (pv 0) pa_nil)) pe_int) pa_nil))))))
      · apply pss_one
        exact ps_never
      · exact pss_nil
    obtain ⟨xs, hs, hl, hrow⟩ := hS.lst
    walk_at "sx"
    refine lenL (.inl (.inl hs)) ?_
    walk_at "sx"
    rw [hl]
    refine ⟨_, _, _, rfl, ?_⟩
    rw [decide_eq_true (show (0 : Int) ≤ (p : Int) by omega), decide_eq_true (show ((p : Nat) : Int) ≤ ((G.length : Nat) : Int) - 1 by omega)]
    walk_at "sx"
    exact k
def spChkPages (K : PySem.W.Frag) : Sp := fun vs H Q _ => ∃ (s a : Addr) (G : Grid) (L : List Nat), vs = [.ref s, .ref a] ∧ GridAt H s G ∧ SqL K H a ((nz L).map V.int) ∧ L.Nodup ∧ (∀ x ∈ L, x < G.length) ∧ G.length ≤ 12 ∧ ∀ H', Ex H H' → Q .non H'
theorem ok_check_pages (T : Txt K mg) : FnOk P w K mg base CX0 2 T.f_check_pages T.fd_check_pages ["site", "pages"] (spChkPages K) := by
  refine T.F_check_pages.ok sc_check_pages (fun vs H Q E h => ?_) (fun cdv A outer s H vs Q E hr h => ?_)
  · obtain ⟨s, a, G, L, rfl, _⟩ := h
    rfl
  · obtain ⟨s, a, G, L, rfl, hS, hA, nd, lt, g12, k⟩ := h
    apply Exists.intro
    apply And.intro
    · apply pss_cons
      · apply ps_if
        · exact (PW.pt (pw_or (pt_not (pt_val (pe_callB (k_isi (K := K) rfl) (by rfl) T.n_isinstance (by decide +kernel) (pa_cons (pv 1) (pa_cons (pe_bltn (v := .ty "list") (by rfl) T.n_list (by decide +kernel) rfl) pa_nil))))) (pw_or1 (pt_not (pt_val (pe_callB (k_all (K := K) rfl rfl) (by rfl) T.n_all (by decide +kernel) (pa_cons (pe_lc (own := [("page", 2)]) rfl sc_check_pages.nd (k_pi_list (K := K) rfl (pv 1)) (blkOk_by (own := [("page", 2)]) (N := ["site", "pages", "page"]) (sc := defScope s_check_pages) (by decide +kernel)) (fun _ _ _ _ _ => by exact (pg_name (i := 2) sc_check_pages.nd rfl (.inl rfl))) (fun _ _ _ _ _ => by exact pts_nil) (fun _ _ _ _ _ => by exact (pe_call (ok_is_integer T) (hr.mono (by decide)) (by rfl) T.m_is_integer T.F_is_integer.kp T.b_is_integer .nil pass0 (pa_cons (pv 2) (pa_cons pe_int (pa_cons (pe_op op_sub (pe_callB (k_len (K := K) rfl) (by rfl) T.n_len PySem.boot_len (pa_cons (pv 0) pa_nil)) pe_int) pa_nil)))))) pa_nil)))))))
        · apply pss_one
          exact ps_never
        · exact pss_nil
      apply pss_one
      apply ps_if
      · exact (pt_cmpR op_ne (k_lenSet (K := K) rfl (by rfl) T.n_len (by rfl) T.n_set (pv 1)) (pe_callB (k_len (K := K) rfl) (by rfl) T.n_len PySem.boot_len (pa_cons (pv 1) pa_nil)) (by rfl))
      · apply pss_one
        exact ps_never
      · exact pss_nil
    obtain ⟨xs, hs, hl, hrow⟩ := hS.lst
    have ll := nodup_lt _ nd lt
    walk_at "sx"
    refine isi_x (b := true) (tyx_l hA) (by decide +kernel) ?_
    walk_at "sx"
    refine ⟨⟨_, hA⟩, fun D nD => ?_⟩
    refine lc_list (fun _ => true) (fun _ => V.bl true) hA nD (by rw [List.length_map, nz_len]; omega) (fun u => rfl) (fun i x _ => tyes) (fun i x hx _ => ?_) (fun H2 e2 hD => ?_)
    · obtain ⟨x, hx', rfl⟩ := at_nz hx
      have := lt x (List.mem_of_getElem? hx')
      intro H3 e3 R hR
      walk_at "sx"
      refine ⟨_, rfl, _, rfl, ?_⟩
      refine lenL (.inl (.inl (e3 _ _ hs))) ?_
      walk_at "sx"
      rw [hl]
      refine ⟨_, _, _, rfl, ?_⟩
      rw [decide_eq_true (show (0 : Int) ≤ (x : Int) by omega), decide_eq_true (show ((x : Nat) : Int) ≤ ((G.length : Nat) : Int) - 1 by omega)]
      exact hR _ (Ex.refl _)
    · rw [kept_const, bl_true] at hD
      refine allL (.inl (.inl hD)) ?_
      rw [all_true]
      walk_at "sx"
      have hA2 := ex_l e2 hA
      refine ⟨_, hA2, nz_nodup nd, by rw [nz_len]; omega, ?_⟩
      refine lenL hA2 ?_
      rw [List.length_map]
      walk_at "sx"
      exact k _ e2
end
section
variable {P : Program} {w : World} {K : PySem.W.Frag} {mg : Str → Option Value} {base : Heap}
/-- each page links to the next one -/
def linked (G : Grid) : List Nat → Bool
  | [] => true
  | [_] => true
  | p :: q :: l => decide (q ∈ row G p) && linked G (q :: l)
theorem linked_all (G : Grid) : ∀ l : List Nat, linked G l = ((List.range (l.length - 1)).map fun i => decide (l.getD (i + 1) 0 ∈ row G (l.getD i 0))).all id
  | [] => rfl
  | [_] => rfl
  | p :: q :: l => by
    have ih := linked_all G (q :: l)
    show (decide (q ∈ row G p) && linked G (q :: l)) = _
    rw [ih]
    show _ = ((List.range (l.length + 1)).map _).all id
    rw [List.range_succ_eq_map, List.map_cons, List.all_cons, List.map_map]
    rfl
def spLinked (K : PySem.W.Frag) : Sp := fun vs H Q _ => ∃ (s a : Addr) (G : Grid) (L : List Nat), vs = [.ref s, .ref a] ∧ GridAt H s G ∧ SqL K H a ((nz L).map V.int) ∧ L ≠ [] ∧ (∀ x ∈ L, x < G.length) ∧ L.length ≤ 1000 ∧ ∀ H', Ex H H' → Q (.bl (linked G L)) H'
theorem ok_is_linked_on (T : Txt K mg) : FnOk P w K mg base CX0 2 T.f_is_linked_on T.fd_is_linked_on ["site", "value"] (spLinked K) := by
  refine T.F_is_linked_on.ok sc_is_linked_on (fun vs H Q E h => ?_) (fun cdv A outer s H vs Q E hr h => ?_)
  · obtain ⟨s, a, G, L, rfl, _⟩ := h
    rfl
  · obtain ⟨s, a, G, L, rfl, hS, hA, ne, lt, ll, k⟩ := h
    apply Exists.intro
    apply And.intro
    · apply pss_cons
      · apply ps_if
        · exact (PW.pt (pw_or (pt_not (pt_val (pe_callB (k_isi (K := K) rfl) (by rfl) T.n_isinstance (by decide +kernel) (pa_cons (pv 1) (pa_cons (pe_bltn (v := .ty "list") (by rfl) T.n_list (by decide +kernel) rfl) pa_nil))))) (pw_or1 (pt_cmpR (k_eqD (K := K) rfl hr.units) (pv 1) (pe_lst pa_nil) (by rfl)))))
        · apply pss_one
          exact (ps_ret pe_bl)
        · exact pss_nil
      apply pss_cons
      · apply ps_if
        · exact (pt_not (pt_val (pe_callB (k_all (K := K) rfl rfl) (by rfl) T.n_all (by decide +kernel) (pa_cons (pe_lc (own := [("page", 2)]) rfl sc_is_linked_on.nd (k_pi_list (K := K) rfl (pv 1)) (blkOk_by (own := [("page", 2)]) (N := ["site", "value", "page", "other"]) (sc := defScope s_is_linked_on) (by decide +kernel)) (fun _ _ _ _ _ => by exact (pg_name (i := 2) sc_is_linked_on.nd rfl (.inl rfl))) (fun _ _ _ _ _ => by exact pts_nil) (fun _ _ _ _ _ => by exact (pe_call (ok_is_integer T) (hr.mono (by decide)) (by rfl) T.m_is_integer T.F_is_integer.kp T.b_is_integer .nil pass0 (pa_cons (pv 2) (pa_cons pe_int (pa_cons (pe_op op_sub (pe_callB (k_len (K := K) rfl) (by rfl) T.n_len PySem.boot_len (pa_cons (pv 0) pa_nil)) pe_int) pa_nil)))))) pa_nil))))
        · apply pss_one
          exact (ps_ret pe_bl)
        · exact pss_nil
      apply pss_one
      exact (ps_ret (pe_callB (k_all (K := K) rfl rfl) (by rfl) T.n_all (by decide +kernel) (pa_cons (pe_lc (own := [("page", 2), ("other", 3)]) rfl sc_is_linked_on.nd (k_pi_zipA (K := K) rfl (by rfl) T.n_zip (pa_cons (pv 1) (pa_cons (pe_slice (k_sl_list (K := K) rfl) (pv 1) (po_some pe_int) po_none) pa_nil))) (blkOk_by (own := [("page", 2), ("other", 3)]) (N := ["site", "value", "page", "other"]) (sc := defScope s_is_linked_on) (by decide +kernel)) (fun _ _ _ _ _ => by exact (k_tup (K := K) (n := 2) rfl rfl (pgs_cons (pg_name (i := 2) sc_is_linked_on.nd rfl (.inl rfl)) (pgs_cons (pg_name (i := 3) sc_is_linked_on.nd rfl (.inl rfl)) pgs_nil)))) (fun _ _ _ _ _ => by exact pts_nil) (fun _ _ _ _ _ => by exact (pe_cmpR (k_in (K := K) rfl) (pv 3) (pe_ix (k_ix_list (K := K) rfl) (pv 0) (pv 2) (fun _ _ => rfl)) (by rfl)))) pa_nil)))
    obtain ⟨xs, hs, hl, hrow⟩ := hS.lst
    have lp := List.length_pos_iff.mpr ne
    walk_at "sx"
    refine isi_x (b := true) (tyx_l hA) (by decide +kernel) ?_
    walk_at "sx"
    refine ⟨sz_ok (by omega), fun z nz1 => ?_⟩
    have e0 := Ex.new nz1 (o := .lst [])
    refine eqInts (ms := []) (ex_l e0 hA) (.inl (.inl upd_same)) ?_
    rw [decide_eq_false (fun e => ne (by unfold nz at e; exact List.map_eq_nil_iff.mp e))]
    walk_at "sx"
    have hA1 := ex_l e0 hA
    have hs1 := e0 _ _ hs
    refine ⟨⟨_, hA1⟩, fun D nD => ?_⟩
    refine lc_list (fun _ => true) (fun _ => V.bl true) hA1 nD (by rw [List.length_map, nz_len]; omega) (fun u => rfl) (fun i x _ => tyes) (fun i x hx _ => ?_) (fun H2 e2 hD => ?_)
    · obtain ⟨x, hx', rfl⟩ := at_nz hx
      have := lt x (List.mem_of_getElem? hx')
      intro H3 e3 R hR
      walk_at "sx"
      refine ⟨_, rfl, _, rfl, ?_⟩
      refine lenL (.inl (.inl (e3 _ _ hs1))) ?_
      walk_at "sx"
      rw [hl]
      refine ⟨_, _, _, rfl, ?_⟩
      rw [decide_eq_true (show (0 : Int) ≤ (x : Int) by omega), decide_eq_true (show ((x : Nat) : Int) ≤ ((G.length : Nat) : Int) - 1 by omega)]
      exact hR _ (Ex.refl _)
    · rw [kept_const, bl_true] at hD
      refine allL (.inl (.inl hD)) ?_
      rw [all_true]
      walk_at "sx"
      have hA2 := ex_l e2 hA1
      have hs2 := e2 _ _ hs1
      have e02 := e0.trans e2
      refine slL hA2 fun y ny => ?_
      have ey := Ex.new ny (o := .lst (cutV ((nz L).map V.int) (some 1) none))
      have hy : (upd H2 y (.lst (cutV ((nz L).map V.int) (some 1) none))) y = some (.lst (((nz L).map V.int).drop 1)) := by rw [upd_same, cutV_from1]
      generalize (upd H2 y (.lst (cutV ((nz L).map V.int) (some 1) none))) = H3 at ey hy ⊢
      refine ⟨_, _, ⟨rfl, rfl⟩, _, _, .inl ⟨ex_l ey hA2, .inl (.inl hy), fun D2 nD2 => ?_⟩⟩
      refine lc_zipM (L.length - 1) (fun _ => true) (fun i => V.bl (decide (L.getD (i + 1) 0 ∈ row G (L.getD i 0)))) (ex_l ey hA2) (.inl (.inl hy)) (by rw [List.length_map, nz_len]; omega) (by rw [List.length_drop, List.length_map, nz_len]; omega) (.inr (by rw [List.length_drop, List.length_map, nz_len])) nD2 (by omega) (fun u v => rfl) (fun i u v _ _ => tyes) (fun i u v hu hv _ => ?_) (fun H4 e4 hD2 => ?_)
      · rw [List.getElem?_drop] at hv
        obtain ⟨p, hp, rfl⟩ := at_nz hu
        obtain ⟨q, hq, rfl⟩ := at_nz hv
        have pl := lt p (List.mem_of_getElem? hp)
        obtain ⟨r, rs, g1, g2, g3, g4⟩ := ((hS.ex e02).ex ey).get pl
        intro H5 e5 R hR
        walk_at "sx"
        refine ⟨_, rfl, _, rfl, _, rfl, ?_⟩
        refine ixL (.inl (.inl (e5 _ _ g1))) (atI_n rfl g3) ?_
        refine inL (.inl (.inl (e5 _ _ g4))) ?_
        rw [List.getD_eq_getElem?_getD, List.getD_eq_getElem?_getD, hp, Nat.add_comm i 1, hq] at hR
        have e : decide (((q : Nat) : Int) ∈ nz (row G p)) = decide (q ∈ row G p) := by
          by_cases z : q ∈ row G p
          · rw [decide_eq_true z, decide_eq_true (nz_mem.mpr z)]
          · rw [decide_eq_false z, decide_eq_false (fun m => z (nz_mem.mp m))]
        rw [e]
        exact hR _ (Ex.refl _)
      · rw [kept_all] at hD2
        have e5 : (List.range (L.length - 1)).map (fun i => V.bl (decide (L.getD (i + 1) 0 ∈ row G (L.getD i 0)))) = ((List.range (L.length - 1)).map fun i => decide (L.getD (i + 1) 0 ∈ row G (L.getD i 0))).map V.bl := by rw [List.map_map]; rfl
        rw [e5] at hD2
        refine allL (.inl (.inl hD2)) ?_
        rw [← linked_all]
        exact k _ ((e02.trans ey).trans e4)
def spWalkOn (K : PySem.W.Frag) : Sp := fun vs H Q _ => ∃ (s a : Addr) (G : Grid) (L : List Nat), vs = [.ref s, .ref a] ∧ GridAt H s G ∧ SqL K H a ((nz L).map V.int) ∧ L ≠ [] ∧ (∀ x ∈ L, x < G.length) ∧ L.length ≤ 61 ∧ ∀ H', Ex H H' → Q (.bl (linked G L)) H'
theorem ok_is_walk_on (T : Txt K mg) : FnOk P w K mg base CX0 3 T.f_is_walk_on T.fd_is_walk_on ["site", "value"] (spWalkOn K) := by
  refine T.F_is_walk_on.ok sc_is_walk_on (fun vs H Q E h => ?_) (fun cdv A outer s H vs Q E hr h => ?_)
  · obtain ⟨s, a, G, L, rfl, _⟩ := h
    rfl
  · obtain ⟨s, a, G, L, rfl, hS, hA, ne, lt, ll, k⟩ := h
    apply Exists.intro
    apply And.intro
    · apply pss_one
      exact (ps_ret (pe_and (pe_call (ok_is_linked_on T) (hr.mono (by decide)) (by rfl) T.m_is_linked_on T.F_is_linked_on.kp T.b_is_linked_on .nil pass0 (pa_cons (pv 0) (pa_cons (pv 1) pa_nil))) (pe_one (pe_cmpR op_le (pe_callB (k_len (K := K) rfl) (by rfl) T.n_len PySem.boot_len (pa_cons (pv 1) pa_nil)) (pe_op op_add (pe_glob (v := .int 60) rfl T.c_MOST_STEPS ⟨_, rfl⟩) pe_int) (by rfl)))))
    walk_at "sx"
    refine ⟨s, a, G, L, rfl, hS, hA, ne, lt, by omega, fun H1 e1 => ?_⟩
    cases c : linked G L with
    | false =>
      rw [c] at k
      walk_at "sx"
      exact k _ e1
    | true =>
      rw [c] at k
      walk_at "sx"
      refine lenL (ex_l e1 hA) ?_
      walk_at "sx"
      rw [List.length_map, nz_len, decide_eq_true (show ((L.length : Nat) : Int) ≤ 60 + 1 by omega)]
      exact k _ e1
def spWalk (K : PySem.W.Frag) : Sp := fun vs H Q _ => ∃ (s a : Addr) (G : Grid) (L : List Nat), vs = [.ref s, .ref a] ∧ GridAt H s G ∧ SiteOk G ∧ SqL K H a ((nz L).map V.int) ∧ L ≠ [] ∧ (∀ x ∈ L, x < G.length) ∧ L.length ≤ 61 ∧ ∀ H', Ex H H' → Q (.bl (linked G L)) H'
theorem ok_is_walk (T : Txt K mg) : FnOk P w K mg base CX0 5 T.f_is_walk T.fd_is_walk ["site", "value"] (spWalk K) := by
  refine T.F_is_walk.ok sc_is_walk (fun vs H Q E h => ?_) (fun cdv A outer s H vs Q E hr h => ?_)
  · obtain ⟨s, a, G, L, rfl, _⟩ := h
    rfl
  · obtain ⟨s, a, G, L, rfl, hS, ok, hA, ne, lt, ll, k⟩ := h
    apply Exists.intro
    apply And.intro
    · apply pss_cons
      · exact (ps_expr (pe_call (ok_check_site T) (hr.mono (by decide)) (by rfl) T.m_check_site T.F_check_site.kp T.b_check_site .nil pass0 (pa_cons (pv 0) pa_nil)))
      apply pss_one
      exact (ps_ret (pe_call (ok_is_walk_on T) (hr.mono (by decide)) (by rfl) T.m_is_walk_on T.F_is_walk_on.kp T.b_is_walk_on .nil pass0 (pa_cons (pv 0) (pa_cons (pv 1) pa_nil))))
    walk_at "sx"
    refine ⟨s, G, rfl, hS, ok, fun H1 e1 => ?_⟩
    refine ⟨s, a, G, L, rfl, hS.ex e1, ex_l e1 hA, ne, lt, ll, fun H2 e2 => k _ (e1.trans e2)⟩
/-- the pages that link to a page -/
def into (G : Grid) (p : Nat) : List Nat := (List.range G.length).filter fun i => decide (p ∈ row G i)
def spInto (K : PySem.W.Frag) : Sp := fun vs H Q _ => ∃ (s : Addr) (G : Grid) (p : Nat), vs = [.ref s, .int p] ∧ GridAt H s G ∧ SiteOk G ∧ p < G.length ∧ ∀ r H', H r = none → Ex H H' → H' r = some (.lst ((nz (into G p)).map V.int)) → Q (.ref r) H'
theorem ok_links_into (T : Txt K mg) : FnOk P w K mg base CX0 5 T.f_links_into T.fd_links_into ["site", "page"] (spInto K) := by
  refine T.F_links_into.ok sc_links_into (fun vs H Q E h => ?_) (fun cdv A outer s H vs Q E hr h => ?_)
  · obtain ⟨s, G, p, rfl, _⟩ := h
    rfl
  · obtain ⟨s, G, p, rfl, hS, ok, hp, k⟩ := h
    apply Exists.intro
    apply And.intro
    · apply pss_cons
      · exact (ps_expr (pe_call (ok_check_site T) (hr.mono (by decide)) (by rfl) T.m_check_site T.F_check_site.kp T.b_check_site .nil pass0 (pa_cons (pv 0) pa_nil)))
      apply pss_cons
      · exact (ps_expr (pe_call (ok_check_page T) (hr.mono (by decide)) (by rfl) T.m_check_page T.F_check_page.kp T.b_check_page .nil pass0 (pa_cons (pv 0) (pa_cons (pv 1) pa_nil))))
      apply pss_one
      exact (ps_ret (pe_lc (own := [("other", 2), ("row", 3)]) rfl sc_links_into.nd (k_pi_enum (K := K) rfl (by rfl) T.n_enumerate (pa_cons (pv 0) pa_nil)) (blkOk_by (own := [("other", 2), ("row", 3)]) (N := ["site", "page", "other", "row"]) (sc := defScope s_links_into) (by decide +kernel)) (fun _ _ _ _ _ => by exact (k_tup (K := K) (n := 2) rfl rfl (pgs_cons (pg_name (i := 2) sc_links_into.nd rfl (.inl rfl)) (pgs_cons (pg_name (i := 3) sc_links_into.nd rfl (.inl rfl)) pgs_nil)))) (fun _ _ _ _ _ => by exact (pts_one (pt_cmpR (k_in (K := K) rfl) (pv 1) (pv 3) (by rfl)))) (fun _ _ _ _ _ => by exact (pv 2))))
    walk_at "sx"
    refine ⟨s, G, rfl, hS, ok, fun H1 e1 => ?_⟩
    have hS1 := hS.ex e1
    refine ⟨s, G, p, rfl, hS1, hp, ?_⟩
    obtain ⟨xs, hs, hl, hrow⟩ := hS1.lst
    have n2 := ok.n2
    refine ⟨_, .inl (.inl hs), fun D nD => ?_⟩
    refine lc_enum (fun i => decide (p ∈ row G i)) (fun i => V.int ((i : Nat) : Int)) (.inl (.inl hs)) nD (by omega) (fun u v => rfl) (fun i x hx => ?_) (fun i x hx _ => ev_var rfl) (fun H2 e2 hD => ?_)
    · obtain ⟨hi, q, rfl, hq⟩ := hrow i x hx
      intro H3 e3 R hR
      walk_at "sx"
      refine ⟨_, rfl, _, rfl, ?_⟩
      refine inL (.inl (.inl (e3 _ _ hq))) ⟨_, rfl, ?_⟩
      have e : decide (((p : Nat) : Int) ∈ nz (row G i)) = decide (p ∈ row G i) := by
        by_cases z : p ∈ row G i
        · rw [decide_eq_true z, decide_eq_true (nz_mem.mpr z)]
        · rw [decide_eq_false z, decide_eq_false (fun m => z (nz_mem.mp m))]
      rw [e]
      exact hR _ (Ex.refl _)
    · rw [hl, kept_rng] at hD
      exact k D H2 (fresh_back e1 nD) (e1.trans e2) hD
end
end LW

set_option Elab.async false
set_option linter.all false
set_option maxRecDepth 100000
set_option maxHeartbeats 4000000
namespace LW
open PySem PySem.Spec PyProof.Rows L2 BC Evl TR
local macro_rules | `(tactic| walk_at "sx") => `(tactic| try simp only [x_seq, x_next, x_brk, x_cnt, x_nev, x_ret, x_retN, x_drop, x_ifS, x_asg, x_gn, x_gsub, x_par, x_par3, x_aug, x_for, x_lc, x_rng1, x_rng2, x_rng3, x_ilist, x_itup, x_ienum, x_izip, x_izipA, x_istr, x_var, x_c, x_op, x_un, x_test, x_b, x_chain, x_and, x_or, x_not, x_andV, x_orV, x_notV, x_ife, x_nil, x_cons, x_lst, x_tup, x_cb, x_call, x_callK, x_bm, x_bm0, x_tru, x_sl, x_nopart, x_part, x_revL, x_I0, x_I, x_U, x_ip, x_ipC, x_eqI, x_neI, x_eqB, x_neB, x_eqS, x_neS, x_isB, x_isNB, x_lrg, x_gall, x_lenSet, x_sortSet, x_rg1, x_rg2,
  L2.start, List.map_cons, List.map_nil, List.length_cons, List.length_nil, Nat.reduceAdd, Nat.reduceSub, Nat.sub_self, Nat.zero_add, List.replicate, List.replicate_succ, List.replicate_zero, List.append_nil, List.cons_append, List.nil_append, List.set_cons_zero, List.set_cons_succ, List.getElem?_cons_zero, List.getElem?_cons_succ, Option.some.injEq, V.int.injEq, V.bl.injEq, V.ref.injEq, V.str.injEq, List.cons.injEq, and_true, true_and, exists_eq_left', exists_eq_left, exists_and_left, exists_eq, if_true, if_false, ite_true, ite_false, Bool.true_eq_false, Bool.false_eq_true, reduceIte, reduceCtorEq, Bool.not_true, Bool.not_false, decide_true, decide_false, decide_eq_true_eq, Bool.and_true, Bool.true_and, Bool.and_self, Bool.and_false, Bool.false_and, Bool.or_self, Bool.or_false, Bool.false_or, Bool.or_true, Bool.true_or, eq_self])

section
variable {P : Program} {w : World} {K : PySem.W.Frag} {mg : Str → Option Value} {base : Heap}
/-- from a page without links -/
def spReach (K : PySem.W.Frag) : Sp := fun vs H Q _ => ∃ (s : Addr) (G : Grid) (p : Nat), vs = [.ref s, .int p] ∧ GridAt H s G ∧ SiteOk G ∧ p < G.length ∧ row G p = [] ∧ ∀ r H', H r = none → Ex H H' → H' r = some (.lst ((nz [p]).map V.int)) → Q (.ref r) H'
def JRe (H : Hp) (s f wt : Addr) (p : Nat) (m : Nat) (σ' : L2.St) (H' : Hp) : Prop := ∃ l4, σ' = [some (.ref s), some (.int p), some (.ref f), some (.ref wt), l4] ∧ Ex H H' ∧ H' f = some (.lst [.int p]) ∧ H' wt = some (.lst (List.replicate m (.int p))) ∧ m ≤ 1
theorem ok_reached_from (T : Txt K mg) : FnOk P w K mg base CX0 5 T.f_reached_from T.fd_reached_from ["site", "page"] (spReach K) := by
  refine T.F_reached_from.ok sc_reached_from (fun vs H Q E h => ?_) (fun cdv A outer s H vs Q E hr h => ?_)
  · obtain ⟨s, G, p, rfl, _⟩ := h
    rfl
  · obtain ⟨s, G, p, rfl, hS, ok, hp, no, k⟩ := h
    apply Exists.intro
    apply And.intro
    · apply pss_cons
      · exact (ps_expr (pe_call (ok_check_site T) (hr.mono (by decide)) (by rfl) T.m_check_site T.F_check_site.kp T.b_check_site .nil pass0 (pa_cons (pv 0) pa_nil)))
      apply pss_cons
      · exact (ps_expr (pe_call (ok_check_page T) (hr.mono (by decide)) (by rfl) T.m_check_page T.F_check_page.kp T.b_check_page .nil pass0 (pa_cons (pv 0) (pa_cons (pv 1) pa_nil))))
      apply pss_cons
      · exact (ps_set (i := 2) sc_reached_from.nd rfl (.inl rfl) (pe_lst (pa_cons (pv 1) pa_nil)))
      apply pss_cons
      · exact (ps_set (i := 3) sc_reached_from.nd rfl (.inl rfl) (pe_lst (pa_cons (pv 1) pa_nil)))
      apply pss_cons
      · apply ps_while PassesOwn.never
        · exact (pt_cmpR (k_neD (K := K) rfl hr.units) (pv 3) (pe_lst pa_nil) (by rfl))
        · apply pss_one
          apply ps_for PassesOwn.never rfl
          · exact (k_pi_list (K := K) rfl (pe_ix (k_ix_list (K := K) rfl) (pv 0) (k_bm0 (K := K) rfl (pe_bm0 PySem.F.plainAttrs_list PySem.F.slot_list_pop PySem.F.type_list_pop mt_pop (pv 3))) (fun _ _ => rfl)))
          · exact (pg_name (i := 4) sc_reached_from.nd rfl (.inl rfl))
          · apply pss_one
            apply ps_if
            · exact (pt_cmpR (k_notIn (K := K) rfl) (pv 4) (pv 2) (by rfl))
            · apply pss_cons
              · exact (ps_expr (k_bm (K := K) rfl (pe_bm PySem.F.plainAttrs_list PySem.F.slot_list_append PySem.F.type_list_append mt_append (pv 2) (pa_cons (pv 4) pa_nil))))
              apply pss_one
              exact (ps_expr (k_bm (K := K) rfl (pe_bm PySem.F.plainAttrs_list PySem.F.slot_list_append PySem.F.type_list_append mt_append (pv 3) (pa_cons (pv 4) pa_nil))))
            · exact pss_nil
      apply pss_one
      exact (ps_ret (pe_callB (k_sorted (K := K) rfl) (by rfl) T.n_sorted (by decide +kernel) (pa_cons (pv 2) pa_nil)))
    walk_at "sx"
    refine ⟨s, G, rfl, hS, ok, fun H1 e1 => ?_⟩
    refine ⟨s, G, p, rfl, hS.ex e1, hp, ?_⟩
    refine ⟨sz_ok (by omega), fun f nf => ⟨sz_ok (by omega), fun wt nw => ?_⟩⟩
    have e2 := Ex.new nf (o := .lst [V.int p])
    have e3 := Ex.new nw (o := .lst [V.int p])
    have nfw : f ≠ wt := ne_of_none upd_same nw
    have nwH : H wt = none := fresh_back (e1.trans e2) nw
    refine ⟨JRe H s f wt p, ⟨1, none, rfl, (e1.trans e2).trans e3, e3 _ _ upd_same, upd_same, Nat.le_refl _⟩, fun m σ' H' hP => ?_⟩
    obtain ⟨l4, rfl, e, hf, hw, hm⟩ := hP
    walk_at "sx"
    refine ⟨sz_ok (by omega), fun z nz1 => ?_⟩
    have ez := Ex.new nz1 (o := .lst [])
    have hw1 := ez _ _ hw
    have hf1 := ez _ _ hf
    by_cases c : m = 0
    · subst c
      refine neInts (ns := []) (ms := []) (.inl (.inl hw1)) (.inl (.inl upd_same)) ?_
      rw [decide_eq_true rfl]
      walk_at "sx"
      refine ⟨f, [(p : Int)], rfl, .inl (.inl hf1), by simp, fun ns' r pm _ nr => ?_⟩
      obtain rfl := List.perm_singleton.mp pm
      exact k r _ (fresh_back (e.trans ez) nr) ((e.trans ez).trans (Ex.new nr)) upd_same
    · obtain rfl : m = 1 := by omega
      refine neInts (ns := [(p : Int)]) (ms := []) (.inl (.inl hw1)) (.inl (.inl upd_same)) ?_
      rw [decide_eq_false (by simp)]
      walk_at "sx"
      refine ⟨fun σ' H' => ∃ m', m' < 1 ∧ JRe H s f wt p m' σ' H', fun σ' H' h => h, ?_⟩
      refine ⟨tyL hw1, wt, [.int p], .int p, rfl, rfl, hw1, rfl, ?_⟩
      have hS3 := (hS.ex e).ex ez
      obtain ⟨q, xs, g1, g2, g3, g4⟩ := hS3.get hp
      rw [no] at g4
      have nwz : wt ≠ z := ne_of_none hw nz1
      have nws : ∀ x o, H x = some o → x ≠ wt := fun x o h => ne_of_none h nwH
      obtain ⟨q', xs', k1, _, k3, k4⟩ := hS.get hp
      have e4 : Ex H (upd (upd H' z (.lst [])) wt (.lst [])) := (e.trans ez).mut nwH
      obtain ⟨q, xs, g1, g2, g3, g4⟩ := (hS.ex e4).get hp
      rw [no] at g4
      refine ixL (.inl (.inl g1)) (atI_n rfl g3) ⟨q, rfl, ⟨_, .inl (.inl g4)⟩, ?_⟩
      refine lg_list (xs := []) (fun i σ' H' => σ' = [some (.ref s), some (.int p), some (.ref f), some (.ref wt), l4] ∧ H' = upd (upd H' z (.lst [])) wt (.lst []) ∧ Ex H H' ∧ H' f = some (.lst [.int p]) ∧ H' wt = some (.lst []) ∧ H' q = some (.lst ((nz []).map V.int))) ⟨rfl, ?_, e4, by rw [upd_ne nfw]; exact hf1, upd_same, g4⟩ (fun i σ' H' _ hP => .inl (.inl hP.2.2.2.2.2)) (fun i x σ' H' hx hP => by simp at hx) (fun σ' H' hP => ?_)
      · funext x
        by_cases h1 : x = wt
        · subst h1; rw [upd_same, upd_same]; rfl
        · rw [upd_ne h1, upd_ne h1]
          by_cases h2 : x = z
          · subst h2; rw [upd_same, upd_same]
          · rw [upd_ne h2, upd_ne h2, upd_ne h1, upd_ne h2]
      · obtain ⟨rfl, _, e5, h1, h2, _⟩ := hP
        exact ⟨0, by omega, l4, rfl, e5, h1, h2, by omega⟩
/-- the site without the links of some pages -/
def wor (G : Grid) (L : List Nat) (i : Nat) : List Nat := if i ∈ L then [] else (row G i).filter fun x => !decide (x ∈ L)
def wo (G : Grid) (L : List Nat) : Grid := (List.range G.length).map (wor G L)
theorem wo_len (G : Grid) (L : List Nat) : (wo G L).length = G.length := by unfold wo; rw [List.length_map, List.length_range]
theorem wo_row {G : Grid} {L : List Nat} {i : Nat} (h : i < G.length) : row (wo G L) i = wor G L i := by
  unfold row wo
  rw [List.getD_eq_getElem?_getD, List.getElem?_map, List.getElem?_range h]
  rfl
theorem wo_ok {G : Grid} (h : SiteOk G) (L : List Nat) : SiteOk (wo G L) := by
  have key : ∀ (i : Nat) (r : List Nat), (wo G L)[i]? = some r → i < G.length ∧ r = wor G L i := fun i r e => by
    have hi := (List.getElem?_eq_some_iff.mp e).1
    rw [wo_len] at hi
    refine ⟨hi, ?_⟩
    rw [← wo_row hi, row_at e]
  have sub : ∀ i, (wor G L i).Sublist (row G i) := fun i => by
    unfold wor
    split
    · exact List.nil_sublist _
    · exact List.filter_sublist
  refine ⟨by rw [wo_len]; exact h.n1, by rw [wo_len]; exact h.n2, fun i r e => ?_, fun i r e x hx => ?_, fun i r e hx => ?_⟩
  · obtain ⟨hi, rfl⟩ := key i r e
    exact (h.asc i _ (at_row hi)).sublist (sub i)
  · obtain ⟨hi, rfl⟩ := key i r e
    rw [wo_len]
    exact h.lt i _ (at_row hi) x ((sub i).subset hx)
  · obtain ⟨hi, rfl⟩ := key i r e
    exact h.no i _ (at_row hi) ((sub i).subset hx)
theorem grid_ext {F G : Grid} (h : F.length = G.length) (e : ∀ i, i < G.length → row F i = row G i) : F = G := by
  apply List.ext_getElem?
  intro i
  by_cases hi : i < G.length
  · rw [at_row hi, at_row (by omega), e i hi]
  · rw [List.getElem?_eq_none (by omega), List.getElem?_eq_none (by omega)]
theorem wo_wo (G : Grid) (L M : List Nat) : wo (wo G L) M = wo G (L ++ M) := by
  refine grid_ext (by rw [wo_len, wo_len, wo_len]) fun i hi => ?_
  rw [wo_len] at hi
  rw [wo_row (by rw [wo_len]; exact hi), wo_row hi]
  unfold wor
  rw [wo_row hi]
  unfold wor
  by_cases a : i ∈ L <;> by_cases b : i ∈ M <;> simp [a, b, List.filter_filter, Bool.and_comm]
theorem wo_nil (G : Grid) : wo G [] = G := by
  refine grid_ext (wo_len _ _) fun i hi => ?_
  rw [wo_row hi]
  unfold wor
  simp
theorem wo_same {G : Grid} {L M : List Nat} (h : ∀ x, x ∈ L ↔ x ∈ M) : wo G L = wo G M := by
  refine grid_ext (by rw [wo_len, wo_len]) fun i hi => ?_
  rw [wo_len] at hi
  rw [wo_row hi, wo_row hi]
  unfold wor
  simp [h]
theorem dec_nz (x : Nat) (L : List Nat) : decide (((x : Nat) : Int) ∈ nz L) = decide (x ∈ L) := by
  by_cases z : x ∈ L
  · rw [decide_eq_true z, decide_eq_true (nz_mem.mpr z)]
  · rw [decide_eq_false z, decide_eq_false (fun m => z (nz_mem.mp m))]
def spWo (K : PySem.W.Frag) : Sp := fun vs H Q _ => ∃ (s a : Addr) (G : Grid) (L : List Nat), vs = [.ref s, .ref a] ∧ GridAt H s G ∧ SiteOk G ∧ SqL K H a ((nz L).map V.int) ∧ L.Nodup ∧ (∀ x ∈ L, x < G.length) ∧ ∀ r H', Ex H H' → GridN H H' r (wo G L) → Q (.ref r) H'
def JWo (H : Hp) (s a : Addr) (G : Grid) (L : List Nat) (i : Nat) (σ' : L2.St) (H' : Hp) : Prop := ∃ f l3 l4, σ' = [some (.ref s), some (.ref a), some (.ref f), l3, l4, none] ∧ Ex H H' ∧ GridN H H' f ((List.range i).map (wor G L))
theorem ok_site_without (T : Txt K mg) : FnOk P w K mg base CX0 5 T.f_site_without T.fd_site_without ["site", "pages"] (spWo K) := by
  refine T.F_site_without.ok sc_site_without (fun vs H Q E h => ?_) (fun cdv A outer s H vs Q E hr h => ?_)
  · obtain ⟨s, a, G, L, rfl, _⟩ := h
    rfl
  · obtain ⟨s, a, G, L, rfl, hS, ok, hA, nd, lt, k⟩ := h
    apply Exists.intro
    apply And.intro
    · apply pss_cons
      · exact (ps_expr (pe_call (ok_check_site T) (hr.mono (by decide)) (by rfl) T.m_check_site T.F_check_site.kp T.b_check_site .nil pass0 (pa_cons (pv 0) pa_nil)))
      apply pss_cons
      · exact (ps_expr (pe_call (ok_check_pages T) (hr.mono (by decide)) (by rfl) T.m_check_pages T.F_check_pages.kp T.b_check_pages .nil pass0 (pa_cons (pv 0) (pa_cons (pv 1) pa_nil))))
      apply pss_cons
      · exact (ps_set (i := 2) sc_site_without.nd rfl (.inl rfl) (pe_lst pa_nil))
      apply pss_cons
      · apply ps_for PassesOwn.never rfl
        · exact (k_pi_enum (K := K) rfl (by rfl) T.n_enumerate (pa_cons (pv 0) pa_nil))
        · exact (k_tup (K := K) (n := 2) rfl rfl (pgs_cons (pg_name (i := 3) sc_site_without.nd rfl (.inl rfl)) (pgs_cons (pg_name (i := 4) sc_site_without.nd rfl (.inl rfl)) pgs_nil)))
        · apply pss_one
          exact (ps_expr (k_bm (K := K) rfl (pe_bm PySem.F.plainAttrs_list PySem.F.slot_list_append PySem.F.type_list_append mt_append (pv 2) (pa_cons (pe_ifExp (pt_cmpR (k_notIn (K := K) rfl) (pv 3) (pv 1) (by rfl)) (pe_lc (own := [("other", 5)]) rfl sc_site_without.nd (k_pi_list (K := K) rfl (pv 4)) (blkOk_by (own := [("other", 5)]) (N := ["site", "pages", "found", "page", "row", "other"]) (sc := defScope s_site_without) (by decide +kernel)) (fun _ _ _ _ _ => by exact (pg_name (i := 5) sc_site_without.nd rfl (.inl rfl))) (fun _ _ _ _ _ => by exact (pts_one (pt_cmpR (k_notIn (K := K) rfl) (pv 5) (pv 1) (by rfl)))) (fun _ _ _ _ _ => by exact (pv 5))) (pe_lst pa_nil)) pa_nil))))
      apply pss_one
      exact (ps_ret (pv 2))
    have n2 := ok.n2
    walk_at "sx"
    refine ⟨s, G, rfl, hS, ok, fun H1 e1 => ?_⟩
    refine ⟨s, a, G, L, rfl, hS.ex e1, ex_l e1 hA, nd, lt, ok.n2, fun H2 e2 => ?_⟩
    refine ⟨sz_ok (by omega), fun f nf => ?_⟩
    have e12 := e1.trans e2
    have e3 := e12.trans (Ex.new nf (o := .lst []))
    have hSf := hS.ex e3
    obtain ⟨xs, hs, hl, hrow⟩ := hSf.lst
    refine ⟨_, .inl (.inl hs), ?_⟩
    have nfH := fresh_back e12 nf
    have g0 : GridN H (upd H2 f (.lst [])) f [] := ⟨nfH, [], upd_same, rfl, List.nodup_nil, List.not_mem_nil, fun i p e => by simp at e⟩
    have base0 : ∀ H', Ex H H' → H' s = some (.lst xs) := fun H' e => by
      obtain ⟨xs0, h1, _⟩ := hS.lst
      have := e3 _ _ h1
      rw [hs] at this
      have h2 := e _ _ h1
      rw [h2]
      exact this.symm
    refine lg_enum (xs := xs) (JWo H s a G L) ⟨f, none, none, rfl, e3, g0⟩ (fun i σ' H' _ hP => by obtain ⟨_, _, _, _, e, _⟩ := hP; exact .inl (.inl (base0 _ e)))
      (fun i x σ' H' T hx hP nT => ?_) (fun σ' H' hP => ?_)
    · obtain ⟨f, l3, l4, rfl, e, gn⟩ := hP
      obtain ⟨hi, p, rfl, hp⟩ := hrow i x hx
      obtain ⟨p', xs', q1, q2, q3, q4⟩ := hS.get hi
      have hs' := base0 _ (Ex.refl H |>.trans e)
      have : xs' = xs := by
        have h1 := e _ _ q1
        rw [hs'] at h1
        injection h1 with h1
        injection h1 with h1
        exact h1.symm
      subst this
      rw [hx] at q3
      obtain rfl : p = p' := by injection q3 with q3; injection q3
      refine g_two upd_same ?_
      have eT := Ex.new nT (o := .tup [V.int i, V.ref p])
      simp only [List.set_cons_zero, List.set_cons_succ]
      have eHT := e.trans eT
      have gT := gn.ex eT
      generalize upd H' T (.tup [V.int i, V.ref p]) = H3 at eT eHT gT ⊢
      have hA3 := ex_l eHT hA
      have hp3 := eHT _ _ q4
      obtain ⟨fs, hfs⟩ : ∃ ys, H3 f = some (.lst ys) := by obtain ⟨_, ps, h1, _⟩ := gT; exact ⟨_, h1⟩
      have fin : ∀ (r : Addr) (H4 : Hp), H3 r = none → Ex H3 H4 → H4 r = some (.lst ((nz (wor G L i)).map V.int)) → rAppend (.ref f) [.ref r] H4 fun x H5 => JWo H s a G L (i + 1) [some (.ref s), some (.ref a), some (.ref f), some (.int i), some (.ref p), none] H5 := fun r H4 nr e4 hr => by
        obtain ⟨ys, h1, h2, g4⟩ := gT.push (fresh_back eHT nr) nr (Nw.of e4) hr
        refine appL h1 (BC.sz_lt (by rw [h2, List.length_map, List.length_range]; omega)) ?_
        refine ⟨f, _, _, rfl, (eHT.trans e4).mut gT.1, ?_⟩
        rw [List.range_succ, List.map_append]
        exact g4
      walk_at "sx"
      refine ⟨tyL hfs, ninL hA3 ?_⟩
      rw [dec_nz]
      by_cases c : i ∈ L
      · rw [decide_eq_true c]
        walk_at "sx"
        refine ⟨sz_ok (by omega), fun r nr => ?_⟩
        refine fin r _ nr (Ex.new nr) ?_
        rw [upd_same]
        unfold wor
        rw [if_pos c]
        rfl
      · rw [decide_eq_false c]
        walk_at "sx"
        refine ⟨⟨_, .inl (.inl hp3)⟩, fun D nD => ?_⟩
        have rl := ok.rlen i
        refine lc_list (xs := (nz (row G i)).map V.int) (fun j => !decide ((row G i).getD j 0 ∈ L)) (fun j => V.int (((row G i).getD j 0 : Nat) : Int)) (.inl (.inl hp3)) nD (by rw [List.length_map, nz_len]; omega) (fun u => rfl) (fun j x hx => ?_) (fun j x hx _ => ?_) (fun H4 e4 hD => ?_)
        · obtain ⟨x, hx', rfl⟩ := at_nz hx
          refine et_is (et_test (ev_op (ev_var rfl) (ev_var rfl) (rv_niL hA3 rfl (flat_ints (nz L))))) ?_
          rw [inV_ints, dec_nz, List.getD_eq_getElem?_getD, hx']
          rfl
        · obtain ⟨x, hx', rfl⟩ := at_nz hx
          refine ev_is (ev_var rfl) ?_
          rw [List.getD_eq_getElem?_getD, hx']
          rfl
        · rw [List.length_map, nz_len, kept_nz (row G i) (fun x => !decide (x ∈ L))] at hD
          refine fin D H4 nD e4 ?_
          rw [hD]
          unfold wor
          rw [if_neg c]
    · obtain ⟨f, l3, l4, rfl, e, gn⟩ := hP
      walk_at "sx"
      rw [hl] at gn
      exact k f _ e gn
end
end LW

set_option Elab.async false
set_option linter.all false
set_option maxRecDepth 100000
set_option maxHeartbeats 4000000
namespace LW
open PySem PySem.Spec PyProof.Rows L2 BC Evl TR
local macro_rules | `(tactic| walk_at "sx") => `(tactic| try simp only [x_seq, x_next, x_brk, x_cnt, x_nev, x_ret, x_retN, x_drop, x_ifS, x_asg, x_gn, x_gsub, x_par, x_par3, x_aug, x_for, x_lc, x_rng1, x_rng2, x_rng3, x_ilist, x_itup, x_ienum, x_izip, x_izipA, x_istr, x_var, x_c, x_op, x_un, x_test, x_b, x_chain, x_and, x_or, x_not, x_andV, x_orV, x_notV, x_ife, x_nil, x_cons, x_lst, x_tup, x_cb, x_call, x_callK, x_bm, x_bm0, x_tru, x_sl, x_nopart, x_part, x_revL, x_I0, x_I, x_U, x_ip, x_ipC, x_eqI, x_neI, x_eqB, x_neB, x_eqS, x_neS, x_isB, x_isNB, x_lrg, x_gall, x_lenSet, x_sortSet, x_rg1, x_rg2,
  L2.start, List.map_cons, List.map_nil, List.length_cons, List.length_nil, Nat.reduceAdd, Nat.reduceSub, Nat.sub_self, Nat.zero_add, List.replicate, List.replicate_succ, List.replicate_zero, List.append_nil, List.cons_append, List.nil_append, List.set_cons_zero, List.set_cons_succ, List.getElem?_cons_zero, List.getElem?_cons_succ, Option.some.injEq, V.int.injEq, V.bl.injEq, V.ref.injEq, V.str.injEq, List.cons.injEq, and_true, true_and, exists_eq_left', exists_eq_left, exists_and_left, exists_eq, if_true, if_false, ite_true, ite_false, Bool.true_eq_false, Bool.false_eq_true, reduceIte, reduceCtorEq, Bool.not_true, Bool.not_false, decide_true, decide_false, decide_eq_true_eq, Bool.and_true, Bool.true_and, Bool.and_self, Bool.and_false, Bool.false_and, Bool.or_self, Bool.or_false, Bool.false_or, Bool.or_true, Bool.true_or, eq_self])

section
variable {P : Program} {w : World} {K : PySem.W.Frag} {mg : Str → Option Value} {base : Heap}
def spSource : Sp := fun vs H Q _ => ∃ (n : Int) (k : Nat), vs = [.int n, .int k] ∧ k ≤ 1000 ∧ ∀ p H', H p = none → Ex H H' → BagAt H' p 0 → Q (.ref p) H'
theorem ok_law_source (T : Txt K mg) : FnOk P w K mg base CX0 1 T.f_law_source T.fd_law_source ["_law_cell", "_law_k"] spSource := by
  refine T.F_law_source.ok sc_law_source (fun vs H Q E h => ?_) (fun cdv A outer s H vs Q E hr h => ?_)
  · obtain ⟨n, k, rfl, _⟩ := h
    rfl
  · obtain ⟨n, i, rfl, hi, k⟩ := h
    apply Exists.intro
    apply And.intro
    · apply pss_one
      exact (ps_ret (pe_lst (pa_cons (pe_callB (call_max2 rfl) (by rfl) T.n_max (by decide +kernel) (pa_cons pe_int (pa_cons (pe_op op_sub (pv 0) (pe_op op_powX pe_int pe_int)) pa_nil))) (pa_cons (pe_op op_add (pe_op op_mulX (pe_op op_modX (pv 0) (pe_op op_add (pe_op op_powX pe_int pe_int) pe_int)) pe_int) (pv 1)) (pa_cons pe_int pa_nil)))))
    walk_at "sx"
    have t18 : Int.toNat 18 = 18 := rfl
    have t33 : Int.toNat 33 = 33 := rfl
    rw [t33]
    have m0 : 0 ≤ n % (10 ^ 33 + 153) := Int.emod_nonneg _ (by decide)
    have m1 : n % (10 ^ 33 + 153) < 10 ^ 33 + 153 := Int.emod_lt_of_pos _ (by decide)
    refine ⟨⟨by decide, by decide, by decide⟩, _, _, ⟨rfl, rfl⟩, ⟨by decide, by decide, by decide⟩, by decide, .inl (.inr ⟨by decide, by decide⟩), sz_ok (by omega), fun p np => ?_⟩
    refine k p _ np (Ex.new np) ⟨_, _, _, upd_same, by omega, by omega, by omega, by omega⟩
theorem ok_law_draw (T : Txt K mg) : FnOk P w K mg base CX0 1 T.f_law_draw T.fd_law_draw ["_law_source_here", "_law_count"] spDraw := by
  refine T.F_law_draw.ok sc_law_draw (fun vs H Q E h => ?_) (fun cdv A outer s H vs Q E hr h => ?_)
  · obtain ⟨b, m, c, rfl, _⟩ := h
    rfl
  · obtain ⟨b, m, c, rfl, h1, h2, hB, hc, k⟩ := h
    obtain ⟨x0, x1, x2, hb, h3, h4, h5, h6⟩ := hB
    apply Exists.intro
    apply And.intro
    · apply pss_cons
      · apply ps_if
        · exact (pt_cmpR op_gt (pe_ix (k_ix_list (K := K) rfl) (pv 0) pe_int (fun _ _ => rfl)) pe_int (by rfl))
        · apply pss_cons
          · exact (ps_set (i := 3) sc_law_draw.nd rfl (.inl rfl) (pe_op op_modX (pe_ix (k_ix_list (K := K) rfl) (pv 0) pe_int (fun _ _ => rfl)) (pv 1)))
          apply pss_cons
          · exact (ps_asg (pe_op op_fdivX (pe_ix (k_ix_list (K := K) rfl) (pv 0) pe_int (fun _ _ => rfl)) (pv 1)) (pg_sub (pv 0) pe_int set_list))
          apply pss_one
          exact (ps_ret (pv 3))
        · exact pss_nil
      apply pss_cons
      · exact (ps_asg (pe_op op_add (pe_ix (k_ix_list (K := K) rfl) (pv 0) pe_int (fun _ _ => rfl)) pe_int) (pg_sub (pv 0) pe_int set_list))
      apply pss_cons
      · exact (ps_set (i := 2) sc_law_draw.nd rfl (.inl rfl) (pe_op op_modX (pe_op op_powX (pe_op op_add (pe_ix (k_ix_list (K := K) rfl) (pv 0) pe_int (fun _ _ => rfl)) (pe_op op_mulX pe_int (pe_ix (k_ix_list (K := K) rfl) (pv 0) pe_int (fun _ _ => rfl)))) pe_int) (pe_op op_add (pe_op op_powX pe_int pe_int) pe_int)))
      apply pss_cons
      · exact (ps_set (i := 2) sc_law_draw.nd rfl (.inl rfl) (pe_op op_modX (pe_op op_powX (pe_op op_add (pv 2) (pe_op op_mulX pe_int (pe_ix (k_ix_list (K := K) rfl) (pv 0) pe_int (fun _ _ => rfl)))) pe_int) (pe_op op_add (pe_op op_powX pe_int pe_int) pe_int)))
      apply pss_one
      exact (ps_ret (pe_op op_modX (pe_op op_fdivX (pv 2) pe_int) (pv 1)))
    walk_at "sx"
    refine ixL (.inl (.inl hb)) (atI_n (j := 0) rfl rfl) ?_
    walk_at "sx"
    have hdm : ∀ i, CDivW i m := fun i => wide_div (b := 2001) h1 (big_lt h1 h2) (by omega) (by omega)
    by_cases h0 : 0 < x0
    · simp only [h0, if_true]
      refine ixL (.inl (.inl hb)) (atI_n (j := 0) rfl rfl) ?_
      walk_at "sx"
      refine ⟨h1, ?_⟩
      refine ixL (.inl (.inl hb)) (atI_n (j := 0) rfl rfl) ?_
      walk_at "sx"
      refine ⟨hdm _, ?_⟩
      refine setL hb (ixN_n (j := 0) rfl (by simp)) ?_
      exact k _ _ (Int.emod_nonneg _ (by omega)) (Int.emod_lt_of_pos _ h1) Fx.put ⟨_, _, _, upd_same, h3, h4, h5, by omega⟩
    · simp only [h0, if_false]
      refine ixL (.inl (.inl hb)) (atI_n (j := 2) rfl rfl) ?_
      walk_at "sx"
      refine setL hb (ixN_n (j := 2) rfl (by simp)) ?_
      have hb2 : (upd H b (.lst [V.int x0, V.int x1, V.int (x2 + 1)])) b = some (.lst [V.int x0, V.int x1, V.int (x2 + 1)]) := upd_same
      refine ixL (.inl (.inl hb2)) (atI_n (j := 1) rfl rfl) ?_
      walk_at "sx"
      refine ixL (.inl (.inl hb2)) (atI_n (j := 2) rfl rfl) ?_
      walk_at "sx"
      have c1 : CMulX 970051 (x2 + 1) := .inl (.inl ⟨by decide, by decide⟩)
      have c2 : CMulX 73 (x2 + 1) := .inl (.inl ⟨by decide, by decide⟩)
      have c3 : CPowX (x1 + 970051 * (x2 + 1)) 3 := ⟨by decide, by decide, Nat.lt_of_lt_of_le (log2_small (k := 200) (by decide) (by omega)) (by decide)⟩
      have t39 : Int.toNat 39 = 39 := rfl
      have t36 : Int.toNat 36 = 36 := rfl
      rw [t39, t36]
      refine ⟨c1, c3, ⟨by decide, by decide, by decide⟩, by decide, ?_⟩
      refine ixL (.inl (.inl hb2)) (atI_n (j := 2) rfl rfl) ?_
      walk_at "sx"
      generalize hz : (x1 + 970051 * (x2 + 1)) ^ Int.toNat 3 % (10 ^ 39 + 3) = z
      have hz0 : 0 ≤ z := by rw [← hz]; exact Int.emod_nonneg _ (by decide)
      have hz1 : z < 10 ^ 39 + 3 := by rw [← hz]; exact Int.emod_lt_of_pos _ (by decide)
      have c4 : CPowX (z + 73 * (x2 + 1)) 3 := ⟨by decide, by decide, Nat.lt_of_lt_of_le (log2_small (k := 200) (by decide) (by omega)) (by decide)⟩
      refine ⟨c2, c4, ⟨by decide, by decide, by decide⟩, by decide, ⟨by decide, by decide⟩, h1, ?_⟩
      exact k _ _ (Int.emod_nonneg _ (by omega)) (Int.emod_lt_of_pos _ h1) Fx.put ⟨_, _, _, hb2, h3, h4, by omega, by omega⟩
/-- a drawn site -/
def spNet : Sp := fun vs H Q _ => ∃ (b : Addr) (mo c : Nat), vs = [.ref b, .int mo] ∧ 1 ≤ mo ∧ mo ≤ 12 ∧ BagAt H b c ∧ c ≤ 100000 ∧
  ∀ s (G : Grid) H', Fx b H H' → BagAt H' b (c + 400) → GridN H H' s G → SiteOk G → G.length ≤ mo → Q (.ref s) H'
def RowsOk (m : Nat) (G : Grid) : Prop := ∀ (i : Nat) (r : List Nat), G[i]? = some r → r.Pairwise (· < ·) ∧ (∀ x ∈ r, x < m) ∧ i ∉ r
def JNe (H : Hp) (b : Addr) (mo m c : Nat) (st : Int) (i : Nat) (σ' : L2.St) (H' : Hp) : Prop := ∃ l3 f l6 l7 l8 G, σ' = [some (.ref b), some (.int mo), some (.int m), l3, some (.int st), some (.ref f), l6, l7, l8] ∧
  Fx b H H' ∧ BagAt H' b (c + 4 + 2 * m * i) ∧ GridN H H' f G ∧ G.length = i ∧ RowsOk m G
def JRo (H0 : Hp) (b : Addr) (mo m c : Nat) (st : Int) (f r : Addr) (i : Nat) (j : Nat) (σ' : L2.St) (H' : Hp) : Prop := ∃ l7 l8 R, σ' = [some (.ref b), some (.int mo), some (.int m), some (.int (i : Int)), some (.int st), some (.ref f), some (.ref r), l7, l8] ∧
  Fx b H0 H' ∧ BagAt H' b (c + 4 + 2 * m * i + 2 * j) ∧ H' r = some (.lst ((nz R).map V.int)) ∧ R.Pairwise (· < ·) ∧ (∀ x ∈ R, x < j) ∧ i ∉ R
theorem ok_law_net (T : Txt K mg) : FnOk P w K mg base CX0 2 T.f_law_net T.fd_law_net ["_law_source_here", "_law_most"] spNet := by
  refine T.F_law_net.ok sc_law_net (fun vs H Q E h => ?_) (fun cdv A outer s H vs Q E hr h => ?_)
  · obtain ⟨b, mo, c, rfl, _⟩ := h
    rfl
  · obtain ⟨b, mo, c, rfl, m1, m2, hB, hc, k⟩ := h
    apply Exists.intro
    apply And.intro
    · apply pss_cons
      · exact (ps_set (i := 2) sc_law_net.nd rfl (.inl rfl) (pe_ix (k_ix_list (K := K) rfl) (pe_lst (pa_cons (pe_op op_add pe_int (pe_call (ok_law_draw T) (hr.mono (by decide)) (by rfl) T.m_law_draw T.F_law_draw.kp T.b_law_draw .nil pass0 (pa_cons (pv 0) (pa_cons (pv 1) pa_nil)))) (pa_cons (pe_op op_add pe_int (pe_call (ok_law_draw T) (hr.mono (by decide)) (by rfl) T.m_law_draw T.F_law_draw.kp T.b_law_draw .nil pass0 (pa_cons (pv 0) (pa_cons (pe_callB (call_min2 rfl) (by rfl) T.n_min (by decide +kernel) (pa_cons (pv 1) (pa_cons pe_int pa_nil))) pa_nil)))) (pa_cons (pv 1) pa_nil)))) (pe_call (ok_law_draw T) (hr.mono (by decide)) (by rfl) T.m_law_draw T.F_law_draw.kp T.b_law_draw .nil pass0 (pa_cons (pv 0) (pa_cons pe_int pa_nil))) (fun _ _ => rfl)))
      apply pss_cons
      · exact (ps_par (i := 4) (j := 5) (by rfl) sc_law_net.nd rfl rfl (by decide) rfl rfl (pa_cons (pe_call (ok_law_draw T) (hr.mono (by decide)) (by rfl) T.m_law_draw T.F_law_draw.kp T.b_law_draw .nil pass0 (pa_cons (pv 0) (pa_cons pe_int pa_nil))) (pa_cons (pe_lst pa_nil) pa_nil)) (by rfl))
      apply pss_cons
      · apply ps_for PassesOwn.never rfl
        · exact (pi_range1 (by rfl) T.n_range (pa_cons (pv 2) pa_nil))
        · exact (pg_name (i := 3) sc_law_net.nd rfl (.inl rfl))
        · apply pss_cons
          · exact (ps_set (i := 6) sc_law_net.nd rfl (.inl rfl) (pe_lst pa_nil))
          apply pss_cons
          · apply ps_for PassesOwn.never rfl
            · exact (pi_range1 (by rfl) T.n_range (pa_cons (pv 2) pa_nil))
            · exact (pg_name (i := 7) sc_law_net.nd rfl (.inl rfl))
            · apply pss_cons
              · exact (ps_set (i := 8) sc_law_net.nd rfl (.inl rfl) (pe_lst (pa_cons pe_int (pa_cons (pe_callTy call_int1 (by rfl) T.n_int (by decide +kernel) (pa_cons (pe_cmpR op_eq (pv 7) (pe_op op_modX (pe_op op_add (pv 3) pe_int) (pv 2)) (by rfl)) pa_nil)) (pa_cons (pe_callTy call_int1 (by rfl) T.n_int (by decide +kernel) (pa_cons (pe_cmpR op_eq (pe_callB call_abs (by rfl) T.n_abs (by decide +kernel) (pa_cons (pe_op op_sub (pv 3) (pv 7)) pa_nil)) pe_int (by rfl)) pa_nil)) (pa_cons (pe_call (ok_law_draw T) (hr.mono (by decide)) (by rfl) T.m_law_draw T.F_law_draw.kp T.b_law_draw .nil pass0 (pa_cons (pv 0) (pa_cons pe_int pa_nil))) pa_nil))))))
              apply pss_cons
              · exact (ps_expr (k_bm (K := K) rfl (pe_bm PySem.F.plainAttrs_list PySem.F.slot_list_append PySem.F.type_list_append mt_append (pv 8) (pa_cons (pe_callTy call_int1 (by rfl) T.n_int (by decide +kernel) (pa_cons (pe_cmpR op_eq (pe_call (ok_law_draw T) (hr.mono (by decide)) (by rfl) T.m_law_draw T.F_law_draw.kp T.b_law_draw .nil pass0 (pa_cons (pv 0) (pa_cons pe_int pa_nil))) pe_int (by rfl)) pa_nil)) pa_nil))))
              apply pss_one
              apply ps_if
              · exact (PW.pt (pw_and (pt_cmpR op_ne (pv 7) (pv 3) (by rfl)) (pw_and1 (pt_cmpR op_eq (pe_ix (k_ix_list (K := K) rfl) (pv 8) (pv 4) (fun _ _ => rfl)) pe_int (by rfl)))))
              · apply pss_one
                exact (ps_expr (k_bm (K := K) rfl (pe_bm PySem.F.plainAttrs_list PySem.F.slot_list_append PySem.F.type_list_append mt_append (pv 6) (pa_cons (pv 7) pa_nil))))
              · exact pss_nil
          apply pss_one
          exact (ps_expr (k_bm (K := K) rfl (pe_bm PySem.F.plainAttrs_list PySem.F.slot_list_append PySem.F.type_list_append mt_append (pv 5) (pa_cons (pv 6) pa_nil))))
      apply pss_one
      exact (ps_ret (pv 5))
    obtain ⟨ob, hob⟩ := hB.some
    refine seq_asg (fun v H' => ∃ m : Nat, v = .int m ∧ 1 ≤ m ∧ m ≤ mo ∧ Fx b H H' ∧ BagAt H' b (c + 3)) (fun R hR => ?_) (fun v H1 hC => ?_)
    · walk_at "sx"
      refine ⟨b, _, _, rfl, by omega, big_of (by omega), hB, by omega, fun r1 H1 r10 r11 f1 b1 => ?_⟩
      walk_at "sx"
      refine ⟨_, _, ⟨rfl, rfl⟩, ?_⟩
      refine ⟨b, _, _, rfl, by split <;> omega, big_of (by split <;> omega), b1, by omega, fun r2 H2 r20 r21 f2 b2 => ?_⟩
      have r22 : r2 < mo := by split at r21 <;> omega
      walk_at "sx"
      refine ⟨sz_ok (by omega), fun z nz => ?_⟩
      have ez := Ex.new nz (o := .lst [V.int (1 + r1), V.int (1 + r2), V.int mo])
      refine ⟨b, _, _, rfl, by omega, big_of (by omega), b2.ex ez, by omega, fun r3 H3 r30 r31 f3 b3 => ?_⟩
      obtain ⟨x, hx, em⟩ := pickI (ns := [1 + r1, 1 + r2, (mo : Int)]) r30 r31
      simp only [List.mem_cons, List.mem_nil_iff, or_false] at hx
      refine ixL (.inl (.inl (f3 _ _ (b2.apart nz) upd_same))) em ?_
      exact hR _ _ ⟨x.toNat, by rw [Int.toNat_of_nonneg (by omega)], by omega, by omega, ((f1.trans f2).trans (Fx.of ez)).trans f3, b3⟩
    obtain ⟨m, rfl, n1, n2, f1, b1⟩ := hC
    simp only [L2.start, List.map_cons, List.map_nil, List.set_cons_zero, List.set_cons_succ]
    refine seq_cut (fun σ' H' => ∃ (st : Int) (f : Addr), σ' = [some (.ref b), some (.int mo), some (.int m), none, some (.int st), some (.ref f), none, none, none] ∧ 0 ≤ st ∧ st < 5 ∧ Fx b H H' ∧ BagAt H' b (c + 4) ∧ GridN H H' f []) (fun N hN => ?_) (fun σ2 H2 hC => ?_)
    · walk_at "sx"
      refine ⟨b, _, _, rfl, by omega, big_of (by omega), b1, by omega, fun st H2 s0 s1 f2 b2 => ?_⟩
      refine ⟨sz_ok (by omega), fun f nf => ⟨_, _, ⟨rfl, rfl⟩, ?_⟩⟩
      have ef := Ex.new nf (o := .lst [])
      have nfb := b2.apart nf
      refine hN _ _ ⟨st, f, rfl, s0, s1, (f1.trans f2).trans (Fx.of ef), b2.ex ef, fx_none (f1.trans f2) nf nfb, [], upd_same, rfl, List.nodup_nil, List.not_mem_nil, fun i p e => by simp at e⟩
    obtain ⟨st, f, rfl, s0, s1, f2, b2, g2⟩ := hC
    walk_at "sx"
    refine ⟨by omega, by omega, ?_⟩
    rw [Int.toNat_natCast]
    refine lg_rng (JNe H b mo m c st) ⟨none, f, none, none, none, [], rfl, f2, by simpa using b2, g2, rfl, fun i r e => by simp at e⟩ (fun i σ' H' hi hP => ?_) (fun σ' H' hP => ?_)
    · obtain ⟨l3, f, l6, l7, l8, G, rfl, fx, hb, gn, gl, rok⟩ := hP
      rw [show (0 : Int) + (i : Int) = (i : Int) by omega]
      simp only [x_gn, List.set_cons_zero, List.set_cons_succ]
      have mi : 2 * m * i ≤ 264 := by
        have a : m * i ≤ 12 * 11 := Nat.mul_le_mul (by omega) (by omega)
        have e : 2 * m * i = 2 * (m * i) := Nat.mul_assoc 2 m i
        omega
      refine seq_asg (fun v H1 => ∃ r, v = .ref r ∧ H' r = none ∧ Ex H' H1 ∧ H1 r = some (.lst [])) (fun R hR => ?_) (fun v H1 hC => ?_)
      · walk_at "sx"
        exact ⟨sz_ok (by omega), fun r nr => hR _ _ ⟨r, rfl, nr, Ex.new nr, upd_same⟩⟩
      obtain ⟨r, rfl, nr, e1, hr⟩ := hC
      have nrb := hb.apart nr
      refine seq_cut (fun σ' H2 => ∃ l7 l8 R, σ' = [some (.ref b), some (.int mo), some (.int m), some (.int (i : Int)), some (.int st), some (.ref f), some (.ref r), l7, l8] ∧ Fx b H' H2 ∧ BagAt H2 b (c + 4 + 2 * m * i + 2 * m) ∧ H2 r = some (.lst ((nz R).map V.int)) ∧ R.Pairwise (· < ·) ∧ (∀ x ∈ R, x < m) ∧ i ∉ R) (fun N hN => ?_) (fun σ2 H2 hC => ?_)
      · walk_at "sx"
        refine ⟨by omega, by omega, ?_⟩
        rw [Int.toNat_natCast]
        refine lg_rng (JRo H' b mo m c st f r i) ⟨l7, l8, [], rfl, Fx.of e1, hb.ex e1, hr, List.Pairwise.nil, fun x h => (List.not_mem_nil h).elim, List.not_mem_nil⟩ (fun j σ' H3 hj hP => ?_) (fun σ' H3 hP => ?_)
        · obtain ⟨l7, l8, R, rfl, fx3, b3, hr3, pw, lt, no⟩ := hP
          rw [show (0 : Int) + (j : Int) = (j : Int) by omega]
          simp only [x_gn, List.set_cons_zero, List.set_cons_succ]
          refine seq_asg (fun v H4 => ∃ p a0 a1 a2 a3 : Int, ∃ q, v = .ref q ∧ H3 q = none ∧ Fx b H3 H4 ∧ BagAt H4 b (c + 4 + 2 * m * i + 2 * j + 1) ∧ H4 q = some (.lst [.int a0, .int a1, .int a2, .int a3])) (fun R' hR => ?_) (fun v H4 hC => ?_)
          · walk_at "sx"
            have mm : (0 : Int) < (m : Int) := by omega
            refine ⟨mm, .inr ?_⟩
            refine .inr ?_
            refine ⟨b, _, _, rfl, by omega, big_of (by omega), b3, by omega, fun r4 H4 r40 r41 f4 b4 => ?_⟩
            refine ⟨sz_ok (by simp), fun q nq => ?_⟩
            exact hR _ _ ⟨0, _, _, _, _, q, rfl, fx_none f4 nq (b4.apart nq), f4.trans (Fx.of (Ex.new nq)), b4.ex (Ex.new nq), upd_same⟩
          obtain ⟨_, a0, a1, a2, a3, q, rfl, nq, f4, b4, hq⟩ := hC
          have nqb := b3.apart nq
          refine seq_cut (fun σ' H5 => σ' = [some (.ref b), some (.int mo), some (.int m), some (.int (i : Int)), some (.int st), some (.ref f), some (.ref r), some (.int (j : Int)), some (.ref q)] ∧ Fx b H3 H5 ∧ BagAt H5 b (c + 4 + 2 * m * i + 2 * j + 2) ∧ ∃ a4 : Int, H5 q = some (.lst [.int a0, .int a1, .int a2, .int a3, .int a4])) (fun N2 hN2 => ?_) (fun σ5 H5 hC => ?_)
          · walk_at "sx"
            refine ⟨tyL hq, ?_⟩
            refine ⟨b, _, _, rfl, by omega, big_of (by omega), b4, by omega, fun r5 H5 r50 r51 f5 b5 => ?_⟩
            walk_at "sx"
            refine .inr ?_
            refine appL (f5 _ _ nqb hq) (BC.sz_lt (by simp)) ?_
            exact hN2 _ _ ⟨rfl, (f4.trans f5).mut nq, b5.off nqb, _, upd_same⟩
          obtain ⟨rfl, f5, b5, a4, hq5⟩ := hC
          obtain ⟨pk, _, epk⟩ := pickI (ns := [a0, a1, a2, a3, a4]) s0 s1
          have hr5 := f5 _ _ nrb hr3
          have nqr : q ≠ r := Ne.symm (ne_of_none hr3 nq)
          walk_at "sx"
          by_cases c1 : (j : Int) = (i : Int)
          · rw [decide_eq_true c1]
            walk_at "sx"
            exact ⟨_, _, R, rfl, fx3.trans f5, b5, hr5, pw, fun x hx => by have := lt x hx; omega, no⟩
          · rw [decide_eq_false c1]
            walk_at "sx"
            refine ixL (.inl (.inl hq5)) epk ?_
            walk_at "sx"
            by_cases c2 : pk = 1
            · rw [if_pos c2]
              have rl : R.length ≤ j := nodup_lt j (asc_nodup pw) lt
              refine ⟨tyL hr5, appL hr5 (BC.sz_lt (by rw [List.length_map, nz_len]; omega)) ?_⟩
              rw [nz_v]
              refine ⟨_, _, R ++ [j], rfl, (fx3.trans f5).mut nr, b5.off nrb, upd_same, ?_, fun x hx => ?_, fun hx => ?_⟩
              · rw [List.pairwise_append]
                refine ⟨pw, List.pairwise_singleton _ _, fun x hx y hy => ?_⟩
                rw [List.mem_singleton.mp hy]
                exact lt x hx
              · rcases List.mem_append.mp hx with h | h
                · have := lt x h; omega
                · rw [List.mem_singleton.mp h]; omega
              · rcases List.mem_append.mp hx with h | h
                · exact no h
                · have := List.mem_singleton.mp h
                  omega
            · rw [if_neg c2]
              exact ⟨_, _, R, rfl, fx3.trans f5, b5, hr5, pw, fun x hx => by have := lt x hx; omega, no⟩
        · obtain ⟨l7, l8, R, rfl, fx3, b3, hr3, pw, lt, no⟩ := hP
          exact hN _ _ ⟨_, _, R, rfl, fx3, b3, hr3, pw, lt, no⟩
      obtain ⟨l7', l8', R, rfl, f12, b12, hr2, pw, lt, no⟩ := hC
      have nw := Nw.fx hob f12
      have nrH : H r = none := fx_none fx nr nrb
      obtain ⟨xs, hf, xl, g3⟩ := gn.push nrH nr nw hr2
      walk_at "sx"
      refine ⟨tyL hf, appL hf (BC.sz_lt (by omega)) ?_⟩
      have nfb : f ≠ b := fun e => by subst e; rw [gn.1] at hob; cases hob
      refine ⟨_, f, _, _, _, G ++ [R], rfl, (fx.trans f12).mut gn.1, ((b12.off nfb).mono ?_), g3, by rw [List.length_append, List.length_singleton, gl], fun u x e => ?_⟩
      · have e : 2 * m * (i + 1) = 2 * m * i + 2 * m := Nat.mul_succ (2 * m) i
        omega
      · by_cases hu : u < G.length
        · rw [List.getElem?_append_left hu] at e
          exact rok u x e
        · rw [List.getElem?_append_right (by omega)] at e
          have hu2 : u - G.length = 0 := by
            have := (List.getElem?_eq_some_iff.mp e).1
            rw [List.length_singleton] at this
            omega
          rw [hu2] at e
          obtain rfl : R = x := by simpa using e
          have : u = i := by omega
          subst this
          exact ⟨pw, lt, no⟩
    · obtain ⟨l3, f, l6, l7, l8, G, rfl, fx, hb, gn, gl, rok⟩ := hP
      walk_at "sx"
      have mi : 2 * m * m ≤ 288 := by
        have a : m * m ≤ 12 * 12 := Nat.mul_le_mul (by omega) (by omega)
        have e : 2 * m * m = 2 * (m * m) := Nat.mul_assoc 2 m m
        omega
      exact k f G _ fx (hb.mono (by omega)) gn ⟨by omega, by omega, fun i r e => (rok i r e).1, fun i r e x hx => by rw [gl]; exact (rok i r e).2.1 x hx, fun i r e => (rok i r e).2.2⟩ (by omega)
end
end LW

set_option Elab.async false
set_option linter.all false
set_option maxRecDepth 100000
set_option maxHeartbeats 4000000
namespace LW
open PySem PySem.Spec PyProof.Rows L2 BC Evl TR
local macro_rules | `(tactic| walk_at "sx") => `(tactic| try simp only [x_seq, x_next, x_brk, x_cnt, x_nev, x_ret, x_retN, x_drop, x_ifS, x_asg, x_gn, x_gsub, x_par, x_par3, x_aug, x_for, x_lc, x_rng1, x_rng2, x_rng3, x_ilist, x_itup, x_ienum, x_izip, x_izipA, x_istr, x_var, x_c, x_op, x_un, x_test, x_b, x_chain, x_and, x_or, x_not, x_andV, x_orV, x_notV, x_ife, x_nil, x_cons, x_lst, x_tup, x_cb, x_call, x_callK, x_bm, x_bm0, x_tru, x_sl, x_nopart, x_part, x_revL, x_I0, x_I, x_U, x_ip, x_ipC, x_eqI, x_neI, x_eqB, x_neB, x_eqS, x_neS, x_isB, x_isNB, x_lrg, x_gall, x_lenSet, x_sortSet, x_rg1, x_rg2,
  L2.start, List.map_cons, List.map_nil, List.length_cons, List.length_nil, Nat.reduceAdd, Nat.reduceSub, Nat.sub_self, Nat.zero_add, List.replicate, List.replicate_succ, List.replicate_zero, List.append_nil, List.cons_append, List.nil_append, List.set_cons_zero, List.set_cons_succ, List.getElem?_cons_zero, List.getElem?_cons_succ, Option.some.injEq, V.int.injEq, V.bl.injEq, V.ref.injEq, V.str.injEq, List.cons.injEq, and_true, true_and, exists_eq_left', exists_eq_left, exists_and_left, exists_eq, if_true, if_false, ite_true, ite_false, Bool.true_eq_false, Bool.false_eq_true, reduceIte, reduceCtorEq, Bool.not_true, Bool.not_false, decide_true, decide_false, decide_eq_true_eq, Bool.and_true, Bool.true_and, Bool.and_self, Bool.and_false, Bool.false_and, Bool.or_self, Bool.or_false, Bool.false_or, Bool.or_true, Bool.true_or, eq_self])

section
variable {P : Program} {w : World} {K : PySem.W.Frag} {mg : Str → Option Value} {base : Heap}
/-- lists of lists of numbers, so deep -/
inductive Si : Nat → PyData → Prop
  | int (n : Nat) (i : Int) : Si n (.int i)
  | lst {n : Nat} {ds : List PyData} (hl : ds.length ≤ 100000) (h : ∀ d ∈ ds, Si n d) : Si (n + 1) (.list ds)
def spFalse : Sp := fun _ _ _ _ => False
def spEq (K : PySem.W.Frag) (n : Nat) : Sp := fun vs H Q _ => ∃ (x y : V) (d : PyData), vs = [x, y] ∧ Dp K H x d ∧ Dp K H y d ∧ Si n d ∧ ∀ H', Ex H H' → Q (.bl true) H'
theorem eq_base (T : Txt K mg) : FnOk P w K mg base CX0 0 T.f_law_equal T.fd_law_equal ["_law_result", "_law_expected"] spFalse :=
  ⟨fun _ _ _ _ h => h.elim, fun _ _ _ _ _ _ _ _ _ _ _ _ _ h => h.elim⟩
theorem eq_step (T : Txt K mg) {lv n : Nat} {sp0 : Sp} (hsp : n = 0 ∨ ∃ n', n = n' + 1 ∧ sp0 = spEq K n') (G : FnOk P w K mg base CX0 lv T.f_law_equal T.fd_law_equal ["_law_result", "_law_expected"] sp0) :
    FnOk P w K mg base CX0 (lv + 1) T.f_law_equal T.fd_law_equal ["_law_result", "_law_expected"] (spEq K n) := by
  refine T.F_law_equal.ok sc_law_equal (fun vs H Q E h => ?_) (fun cdv A outer s H vs Q E hr h => ?_)
  · obtain ⟨x, y, d, rfl, _⟩ := h
    rfl
  · obtain ⟨x, y, d, rfl, hx, hy, hs, k⟩ := h
    apply Exists.intro
    apply And.intro
    · apply pss_cons
      · apply ps_if
        · exact (pt_val (pe_callB (k_isiT (K := K) rfl) (by rfl) T.n_isinstance (by decide +kernel) (pa_cons (pv 1) (pa_cons (pe_tup (pa_cons (pe_bltn (v := .ty "list") (by rfl) T.n_list (by decide +kernel) rfl) (pa_cons (pe_bltn (v := .ty "tuple") (by rfl) T.n_tuple (by decide +kernel) rfl) pa_nil))) pa_nil))))
        · apply pss_cons
          · apply ps_if
            · exact (PW.pt (pw_or (pt_not (pt_val (pe_callB (k_isiT (K := K) rfl) (by rfl) T.n_isinstance (by decide +kernel) (pa_cons (pv 0) (pa_cons (pe_tup (pa_cons (pe_bltn (v := .ty "list") (by rfl) T.n_list (by decide +kernel) rfl) (pa_cons (pe_bltn (v := .ty "tuple") (by rfl) T.n_tuple (by decide +kernel) rfl) pa_nil))) pa_nil))))) (pw_or1 (pt_cmpR op_ne (pe_callB (k_len (K := K) rfl) (by rfl) T.n_len PySem.boot_len (pa_cons (pv 0) pa_nil)) (pe_callB (k_len (K := K) rfl) (by rfl) T.n_len PySem.boot_len (pa_cons (pv 1) pa_nil)) (by rfl)))))
            · apply pss_one
              exact (ps_ret pe_bl)
            · exact pss_nil
          apply pss_cons
          · apply ps_if
            · exact (pt_cmpR op_ne (pe_callB (k_isi (K := K) rfl) (by rfl) T.n_isinstance (by decide +kernel) (pa_cons (pv 0) (pa_cons (pe_bltn (v := .ty "list") (by rfl) T.n_list (by decide +kernel) rfl) pa_nil))) (pe_callB (k_isi (K := K) rfl) (by rfl) T.n_isinstance (by decide +kernel) (pa_cons (pv 1) (pa_cons (pe_bltn (v := .ty "list") (by rfl) T.n_list (by decide +kernel) rfl) pa_nil))) (by rfl))
            · apply pss_one
              exact (ps_ret pe_bl)
            · exact pss_nil
          apply pss_one
          exact (ps_ret (pe_callB (k_all (K := K) rfl rfl) (by rfl) T.n_all (by decide +kernel) (pa_cons (pe_lc (own := [("_law_one", 2), ("_law_other", 3)]) rfl sc_law_equal.nd (k_pi_zipA (K := K) rfl (by rfl) T.n_zip (pa_cons (pv 0) (pa_cons (pv 1) pa_nil))) (blkOk_by (own := [("_law_one", 2), ("_law_other", 3)]) (N := ["_law_result", "_law_expected", "_law_one", "_law_other"]) (sc := defScope s_law_equal) (by decide +kernel)) (fun _ _ _ _ _ => by exact (k_tup (K := K) (n := 2) rfl rfl (pgs_cons (pg_name (i := 2) sc_law_equal.nd rfl (.inl rfl)) (pgs_cons (pg_name (i := 3) sc_law_equal.nd rfl (.inl rfl)) pgs_nil)))) (fun _ _ _ _ _ => by exact pts_nil) (fun _ _ _ _ _ => by exact (pe_call G hr (by rfl) T.m_law_equal T.F_law_equal.kp T.b_law_equal .nil pass0 (pa_cons (pv 2) (pa_cons (pv 3) pa_nil))))) pa_nil)))
        · exact pss_nil
      apply pss_cons
      · apply ps_if
        · exact (PW.pt (pw_or (pt_val (pe_callB (k_isiT (K := K) rfl) (by rfl) T.n_isinstance (by decide +kernel) (pa_cons (pv 1) (pa_cons (pe_tup (pa_cons (pe_bltn (v := .ty "bool") (by rfl) T.n_bool (by decide +kernel) rfl) (pa_cons (pe_bltn (v := .ty "str") (by rfl) T.n_str (by decide +kernel) rfl) pa_nil))) pa_nil)))) (pw_or1 (pt_cmpR op_isN (pv 1) pe_non (by rfl)))))
        · apply pss_one
          exact (ps_ret (pe_and (pe_cmpR op_eq (pe_callB (k_isi (K := K) rfl) (by rfl) T.n_isinstance (by decide +kernel) (pa_cons (pv 0) (pa_cons (pe_bltn (v := .ty "bool") (by rfl) T.n_bool (by decide +kernel) rfl) pa_nil))) (pe_callB (k_isi (K := K) rfl) (by rfl) T.n_isinstance (by decide +kernel) (pa_cons (pv 1) (pa_cons (pe_bltn (v := .ty "bool") (by rfl) T.n_bool (by decide +kernel) rfl) pa_nil))) (by rfl)) (pe_one (pe_cmpR op_eq (pv 0) (pv 1) (by rfl)))))
        · exact pss_nil
      apply pss_one
      exact (ps_ret (pe_and (pe_callB (k_isi (K := K) rfl) (by rfl) T.n_isinstance (by decide +kernel) (pa_cons (pv 0) (pa_cons (pe_bltn (v := .ty "int") (by rfl) T.n_int (by decide +kernel) rfl) pa_nil))) (pe_and (pe_not (pe_callB (k_isi (K := K) rfl) (by rfl) T.n_isinstance (by decide +kernel) (pa_cons (pv 0) (pa_cons (pe_bltn (v := .ty "bool") (by rfl) T.n_bool (by decide +kernel) rfl) pa_nil)))) (pe_one (pe_cmpR op_eq (pv 0) (pv 1) (by rfl))))))
    walk_at "sx"
    refine ⟨sz_ok (by omega), fun p np => ?_⟩
    have e1 := Ex.new np (o := .tup [V.ty "list", V.ty "tuple"])
    have ty := tyx_d (ex_d e1 _ _ hy)
    have tx := tyx_d (ex_d e1 _ _ hx)
    cases hs with
    | int n i =>
      simp only [tyn] at ty tx
      cases hx; cases hy
      refine isiT2 (b := false) (c := false) ty upd_same (by decide +kernel) (by decide +kernel) ?_
      walk_at "sx"
      refine ⟨sz_ok (by omega), fun p2 np2 => ?_⟩
      have e2 := Ex.new np2 (o := .tup [V.ty "bool", V.ty "str"])
      refine isiT2 (b := false) (c := false) (.base (.int i)) upd_same (by decide +kernel) (by decide +kernel) ?_
      walk_at "sx"
      refine isi_x (b := true) (.base (.int i)) (by decide +kernel) ?_
      walk_at "sx"
      refine isi_x (b := false) (.base (.int i)) (by decide +kernel) ?_
      walk_at "sx"
      exact k _ (e1.trans e2)
    | @lst n' ds hl h =>
      simp only [tyn] at ty tx
      obtain ⟨n2, en, rfl⟩ : ∃ n2, n' + 1 = n2 + 1 ∧ sp0 = spEq K n2 := by
        rcases hsp with q | ⟨n2, q1, q2⟩
        · omega
        · exact ⟨n2, q1, q2⟩
      obtain rfl : n' = n2 := by omega
      cases ex_d e1 _ _ hx with
      | lst hx1 hx2 =>
      cases ex_d e1 _ _ hy with
      | lst hy1 hy2 =>
      refine isiT2 (b := true) (c := false) ty upd_same (by decide +kernel) (by decide +kernel) ?_
      walk_at "sx"
      refine ⟨sz_ok (by omega), fun p2 np2 => ?_⟩
      have e2 := Ex.new np2 (o := .tup [V.ty "list", V.ty "tuple"])
      have tx2 := tyx_d (ex_d (e1.trans e2) _ _ hx)
      have ty2 := tyx_d (ex_d (e1.trans e2) _ _ hy)
      simp only [tyn] at ty2 tx2
      refine isiT2 (b := true) (c := false) tx2 upd_same (by decide +kernel) (by decide +kernel) ?_
      walk_at "sx"
      have hx3 := ex_l e2 hx1
      have hy3 := ex_l e2 hy1
      have lx := dp_len hx2
      have ly := dp_len hy2
      refine lenL hx3 (lenL hy3 ?_)
      rw [lx, ly]
      walk_at "sx"
      refine isi_x (b := true) tx2 (by decide +kernel) ?_
      refine isi_x (b := true) ty2 (by decide +kernel) ?_
      walk_at "sx"
      refine ⟨_, _, ⟨rfl, rfl⟩, _, _, .inl ⟨hx3, hy3, fun D nD => ?_⟩⟩
      refine lc_zip (fun _ => true) (fun _ => V.bl true) hx3 hy3 (by omega) nD (by omega) (fun u v => rfl) (fun i u v _ _ => tyes) (fun i u v hu hv _ => ?_) (fun H2 e3 hD => ?_)
      · obtain ⟨d1, f1, g1⟩ := dp_at hx2 hu
        obtain ⟨d2, f2, g2⟩ := dp_at hy2 hv
        rw [f1] at f2
        cases f2
        refine ev_call (vs := [u, v]) (ea_cons (ev_var rfl) (ea_cons (ev_var rfl) ea_nil)) (fun H3 e3 Q3 q3 E3 => ?_)
        exact ⟨u, v, d1, rfl, ex_d (e2.trans e3) _ _ g1, ex_d (e2.trans e3) _ _ g2, h _ (List.mem_of_getElem? f1), q3⟩
      · rw [kept_const] at hD
        have e5 : List.replicate ds.length (V.bl true) = (List.replicate ds.length true).map V.bl := by rw [List.map_replicate]
        rw [lx, e5] at hD
        refine allL (.inl (.inl hD)) ?_
        rw [all_true]
        exact k _ ((e1.trans e2).trans e3)
theorem ok_law_equal (T : Txt K mg) : FnOk P w K mg base CX0 3 T.f_law_equal T.fd_law_equal ["_law_result", "_law_expected"] (spEq K 2) :=
  eq_step T (.inr ⟨1, rfl, rfl⟩) (eq_step T (.inr ⟨0, rfl, rfl⟩) (eq_step T (n := 0) (.inl rfl) (eq_base T)))
theorem si_G (G : Grid) (h : G.length ≤ 1000) (hr : ∀ r ∈ G, r.length ≤ 1000) : Si 2 (dG G) := .lst (by rw [List.length_map]; omega) fun d hd => by
  obtain ⟨r, hm, rfl⟩ := List.mem_map.mp hd
  refine .lst (by rw [List.length_map, nz_len]; have := hr r hm; omega) fun d hd => ?_
  obtain ⟨x, _, rfl⟩ := List.mem_map.mp hd
  exact .int _ _
end
section
variable {P : Program} {w : World} {K : PySem.W.Frag} {mg : Str → Option Value} {base : Heap}
theorem linked_snoc (G : Grid) (x : Nat) : ∀ (L : List Nat), L ≠ [] → linked G (L ++ [x]) = (linked G L && decide (x ∈ row G (L.getLast?.getD 0)))
  | [], h => absurd rfl h
  | [p], _ => by
    show (decide (x ∈ row G p) && true) = (true && decide (x ∈ row G p))
    rw [Bool.true_and, Bool.and_true]
  | p :: q :: l, _ => by
    have ih := linked_snoc G x (q :: l) (by simp)
    show (decide (q ∈ row G p) && linked G ((q :: l) ++ [x])) = _
    rw [ih, ← Bool.and_assoc]
    rfl
theorem linked_take (G : Grid) : ∀ (L : List Nat) (n : Nat), linked G L = true → linked G (L.take n) = true
  | [], n, _ => by simp [linked]
  | [p], 0, _ => rfl
  | [p], n + 1, _ => by simp [linked]
  | p :: q :: l, 0, _ => rfl
  | p :: q :: l, 1, _ => rfl
  | p :: q :: l, n + 2, h => by
    have h' : decide (q ∈ row G p) = true ∧ linked G (q :: l) = true := by
      have : (decide (q ∈ row G p) && linked G (q :: l)) = true := h
      rwa [Bool.and_eq_true] at this
    have ih := linked_take G (q :: l) (n + 1) h'.2
    show (decide (q ∈ row G p) && linked G ((q :: l).take (n + 1))) = true
    rw [h'.1, ih]
    rfl
theorem last_nz {L : List Nat} (h : L ≠ []) : ((nz L).map V.int)[((nz L).map V.int).length - 1]? = some (.int ((L.getLast?.getD 0 : Nat) : Int)) := by
  rw [List.length_map, nz_len]
  refine nz_at ?_
  rw [List.getLast?_eq_getElem?]
  have : L.length - 1 < L.length := by have := List.length_pos_iff.mpr h; omega
  rw [List.getElem?_eq_getElem this]
  rfl
theorem last_in {L : List Nat} (h : L ≠ []) : L.getLast?.getD 0 ∈ L := by
  rw [List.getLast?_eq_some_getLast h]
  exact List.getLast_mem h
/-- a drawn walk -/
def spStroll : Sp := fun vs H Q _ => ∃ (b s : Addr) (G : Grid) (mo c : Nat) (H0 : Hp), vs = [.ref b, .ref s, .int mo] ∧ GridN H0 H s G ∧ (∃ o, H0 b = some o) ∧ SiteOk G ∧ 1 ≤ mo ∧ mo ≤ 60 ∧ BagAt H b c ∧ c ≤ 100000 ∧
  ∀ r (L : List Nat) H', H r = none → Fx b H H' → BagAt H' b (c + 1 + mo) → H' r = some (.lst ((nz L).map V.int)) → L ≠ [] → linked G L = true → (∀ x ∈ L, x < G.length) → L.length ≤ mo → Q (.ref r) H'
def JSt (H : Hp) (b s : Addr) (G : Grid) (mo c : Nat) (i : Nat) (σ' : L2.St) (H' : Hp) : Prop := ∃ f l4 l5 L, σ' = [some (.ref b), some (.ref s), some (.int mo), some (.ref f), l4, l5] ∧ H f = none ∧ Fx b H H' ∧ BagAt H' b (c + 1 + i) ∧ H' f = some (.lst ((nz L).map V.int)) ∧ L ≠ [] ∧ linked G L = true ∧ (∀ x ∈ L, x < G.length) ∧ L.length ≤ i + 1
theorem ok_law_stroll (T : Txt K mg) : FnOk P w K mg base CX0 2 T.f_law_stroll T.fd_law_stroll ["_law_source_here", "_law_net_here", "_law_most"] spStroll := by
  refine T.F_law_stroll.ok sc_law_stroll (fun vs H Q E h => ?_) (fun cdv A outer s H vs Q E hr h => ?_)
  · obtain ⟨b, s, G, mo, c, H0, rfl, _⟩ := h
    rfl
  · obtain ⟨b, s, G, mo, c, H0, rfl, hS, ⟨ob, hob⟩, ok, m1, m2, hB, hc, k⟩ := h
    apply Exists.intro
    apply And.intro
    · apply pss_cons
      · exact (ps_set (i := 3) sc_law_stroll.nd rfl (.inl rfl) (pe_lst (pa_cons (pe_call (ok_law_draw T) (hr.mono (by decide)) (by rfl) T.m_law_draw T.F_law_draw.kp T.b_law_draw .nil pass0 (pa_cons (pv 0) (pa_cons (pe_callB (k_len (K := K) rfl) (by rfl) T.n_len PySem.boot_len (pa_cons (pv 1) pa_nil)) pa_nil))) pa_nil)))
      apply pss_cons
      · apply ps_for PassesOwn.never rfl
        · exact (pi_range1 (by rfl) T.n_range (pa_cons (pe_op op_sub (pv 2) pe_int) pa_nil))
        · exact (pg_name (i := 4) sc_law_stroll.nd rfl (.inl rfl))
        · apply pss_cons
          · exact (ps_set (i := 5) sc_law_stroll.nd rfl (.inl rfl) (pe_ix (k_ix_list (K := K) rfl) (pv 1) (pe_ix (k_ix_list (K := K) rfl) (pv 3) (pe_un un_neg pe_int) (fun _ _ => rfl)) (fun _ _ => rfl)))
          apply pss_one
          apply ps_if
          · exact (pt_cmpR (k_neD (K := K) rfl hr.units) (pv 5) (pe_lst pa_nil) (by rfl))
          · apply pss_one
            exact (ps_expr (k_bm (K := K) rfl (pe_bm PySem.F.plainAttrs_list PySem.F.slot_list_append PySem.F.type_list_append mt_append (pv 3) (pa_cons (pe_ix (k_ix_list (K := K) rfl) (pv 5) (pe_call (ok_law_draw T) (hr.mono (by decide)) (by rfl) T.m_law_draw T.F_law_draw.kp T.b_law_draw .nil pass0 (pa_cons (pv 0) (pa_cons (pe_callB (k_len (K := K) rfl) (by rfl) T.n_len PySem.boot_len (pa_cons (pv 5) pa_nil)) pa_nil))) (fun _ _ => rfl)) pa_nil))))
          · exact pss_nil
      apply pss_one
      exact (ps_ret (pe_slice (k_sl_list (K := K) rfl) (pv 3) po_none (po_some (pv 2))))
    have n1 := ok.n1
    have n2 := ok.n2
    refine seq_asg (fun v H' => ∃ f p, v = .ref f ∧ H f = none ∧ Fx b H H' ∧ BagAt H' b (c + 1) ∧ H' f = some (.lst ((nz [p]).map V.int)) ∧ p < G.length) (fun R hR => ?_) (fun v H1 hC => ?_)
    · walk_at "sx"
      obtain ⟨xs, hs, hl, _⟩ := hS.at.lst
      refine lenL (.inl (.inl hs)) ?_
      rw [hl]
      refine ⟨b, _, _, rfl, by omega, big_of (by omega), hB, by omega, fun r H1 r0 r1 f1 b1 => ?_⟩
      refine ⟨sz_ok (by omega), fun f nf => ?_⟩
      have nfb := b1.apart nf
      refine hR _ _ ⟨f, r.toNat, rfl, fx_none f1 nf nfb, f1.trans (Fx.of (Ex.new nf)), b1.ex (Ex.new nf), ?_, by omega⟩
      rw [upd_same]
      show _ = some (HO.lst [V.int ((r.toNat : Nat) : Int)])
      rw [Int.toNat_of_nonneg r0]
    obtain ⟨f, p, rfl, nf, f1, b1, hf, hp⟩ := hC
    walk_at "sx"
    refine ⟨by omega, by omega, ?_⟩
    rw [show ((mo : Int) - 1).toNat = mo - 1 by omega]
    refine lg_rng (JSt H b s G mo c) ⟨f, none, none, [p], rfl, nf, f1, b1, hf, by simp, rfl, fun x hx => by rw [List.mem_singleton.mp hx]; exact hp, by simp⟩ (fun i σ' H' hi hP => ?_) (fun σ' H' hP => ?_)
    · obtain ⟨f, l4, l5, L, rfl, nf, fx, hb, hf, ne, lk, lt, ll⟩ := hP
      have gn := hS.nw (Nw.fx hob fx)
      have pl := lt _ (last_in ne)
      obtain ⟨q, xs, g1, g2, g3, g4, g5⟩ := gn.get pl
      have nfb : f ≠ b := hB.apart nf
      walk_at "sx"
      refine ixL (.inl (.inl hf)) (atI_last (last_nz ne)) ?_
      refine ixL (.inl (.inl g1)) (atI_n rfl g3) ?_
      refine ⟨sz_ok (by omega), fun z nz1 => ?_⟩
      have ez := Ex.new nz1 (o := .lst [])
      refine neInts (ms := []) (.inl (.inl (ez _ _ g4))) (.inl (.inl upd_same)) ?_
      walk_at "sx"
      by_cases c0 : row G (L.getLast?.getD 0) = []
      · rw [decide_eq_true (show nz (row G (L.getLast?.getD 0)) = [] by rw [c0]; rfl)]
        walk_at "sx"
        exact ⟨f, _, _, L, rfl, nf, fx.trans (Fx.of ez), (hb.ex ez).mono (by omega), ez _ _ hf, ne, lk, lt, by omega⟩
      · rw [decide_eq_false (fun e => c0 (by unfold nz at e; exact List.map_eq_nil_iff.mp e))]
        walk_at "sx"
        have rp := List.length_pos_iff.mpr c0
        have rl := ok.rlen (L.getLast?.getD 0)
        refine ⟨tyL (ez _ _ hf), lenL (.inl (.inl (ez _ _ g4))) ?_⟩
        rw [List.length_map, nz_len]
        refine ⟨b, _, _, rfl, by omega, big_of (by omega), hb.ex ez, by omega, fun r H2 r0 r1 f2 b2 => ?_⟩
        have nqb : q ≠ b := fun e => by subst e; rw [hob] at g5; cases g5
        have hx : (row G (L.getLast?.getD 0))[r.toNat]? = some (row G (L.getLast?.getD 0))[r.toNat] := List.getElem?_eq_getElem (by omega)
        have xm := List.mem_of_getElem? hx
        generalize (row G (L.getLast?.getD 0))[r.toNat] = x at hx xm
        refine ixL (.inl (.inl (f2 _ _ nqb (ez _ _ g4)))) (atI_n (j := r.toNat) (by omega) (nz_at hx)) ?_
        have hf2 := f2 _ _ nfb (ez _ _ hf)
        refine appL hf2 (BC.sz_lt (by rw [List.length_map, nz_len]; omega)) ?_
        rw [nz_v]
        refine ⟨f, _, _, L ++ [x], rfl, nf, ((fx.trans (Fx.of ez)).trans f2).mut nf, (b2.off nfb).mono (by omega), upd_same, by simp, ?_, fun y hy => ?_, by rw [List.length_append, List.length_singleton]; omega⟩
        · rw [linked_snoc G x L ne, lk, decide_eq_true xm]
          rfl
        · rcases List.mem_append.mp hy with h | h
          · exact lt y h
          · rw [List.mem_singleton.mp h]
            exact ok.rlt xm
    · obtain ⟨f, l4, l5, L, rfl, nf, fx, hb, hf, ne, lk, lt, ll⟩ := hP
      walk_at "sx"
      refine slL (.inl (.inl hf)) fun r nr => ?_
      have nrb := hb.apart nr
      refine k r (L.take mo) _ (fx_none fx nr nrb) (fx.trans (Fx.of (Ex.new nr))) ((hb.ex (Ex.new nr)).mono (by omega)) ?_ ?_ (linked_take G L mo lk) (fun x hx => lt x (List.mem_of_mem_take hx)) (by rw [List.length_take]; omega)
      · rw [upd_same, cut_take, ← List.map_take]
        unfold nz
        rw [← List.map_take]
      · exact fun e => ne (by rw [List.take_of_length_le (by omega)] at e; exact e)
end
section
variable {P : Program} {w : World} {K : PySem.W.Frag} {mg : Str → Option Value} {base : Heap}
theorem seqIx {r : Int} {n : Nat} (h0 : 0 ≤ r) (h1 : r < n) : seqIndex? r n = some r.toNat := by
  unfold seqIndex?
  have e : (if r < 0 then r + (n : Int) else r) = r := if_neg (by omega)
  simp only [e]
  rw [if_pos (by simp; omega)]
theorem erase_perm : ∀ {B : List Nat} {k : Nat} {x : Nat}, B[k]? = some x → (x :: B.eraseIdx k).Perm B
  | [], _, _, h => by simp at h
  | y :: B, 0, x, h => by
    obtain rfl : y = x := by simpa using h
    exact List.Perm.refl _
  | y :: B, k + 1, x, h => by
    rw [List.getElem?_cons_succ] at h
    rw [List.eraseIdx_cons_succ]
    exact (List.Perm.swap y x _).trans ((erase_perm h).cons y)
theorem erase_map (B : List Nat) (k : Nat) : ((nz B).map V.int).eraseIdx k = (nz (B.eraseIdx k)).map V.int := by
  induction B generalizing k with
  | nil => rfl
  | cons x B ih =>
    cases k with
    | zero => rfl
    | succ k =>
      show V.int x :: ((nz B).map V.int).eraseIdx k = V.int x :: (nz (B.eraseIdx k)).map V.int
      rw [ih]
/-- drawn pages -/
def spSome : Sp := fun vs H Q _ => ∃ (b : Addr) (n : Nat) (mo : Int) (c : Nat), vs = [.ref b, .int n, .int mo] ∧ n ≤ 100 ∧ 0 ≤ mo ∧ mo ≤ 1000 ∧ BagAt H b c ∧ c ≤ 100000 ∧
  ∀ r (L : List Nat) H', H r = none → Fx b H H' → BagAt H' b (c + 1 + n) → H' r = some (.lst ((nz L).map V.int)) → L.Nodup → (∀ x ∈ L, x < n) → Q (.ref r) H'
def PvS (H : Hp) (b l D : Addr) (n c : Nat) (i : Nat) (H' : Hp) : Prop := ∃ A B : List Nat, H' l = some (.lst ((nz B).map V.int)) ∧ H' D = some (.lst ((nz A).map V.int)) ∧ (A ++ B).Nodup ∧ (∀ x ∈ A ++ B, x < n) ∧ A.length = i ∧ A.length + B.length = n ∧ Fx b H H' ∧ BagAt H' b (c + 1 + i)
theorem ok_law_some (T : Txt K mg) : FnOk P w K mg base CX0 2 T.f_law_some T.fd_law_some ["_law_source_here", "_law_many", "_law_most"] spSome := by
  refine T.F_law_some.ok sc_law_some (fun vs H Q E h => ?_) (fun cdv A outer s H vs Q E hr h => ?_)
  · obtain ⟨b, n, mo, c, rfl, _⟩ := h
    rfl
  · obtain ⟨b, n, mo, c, rfl, hn, m0, m1, hB, hc, k⟩ := h
    apply Exists.intro
    apply And.intro
    · apply pss_cons
      · exact (ps_set (i := 3) sc_law_some.nd rfl (.inr rfl) (pe_listRg rfl (by rfl) T.n_list (prg_1 (by rfl) T.n_range (pv 1))))
      apply pss_one
      exact (ps_ret (pe_lc (own := [("_law_step", 4)]) rfl sc_law_some.nd (pi_range1 (by rfl) T.n_range (pa_cons (pe_callB (call_min2 rfl) (by rfl) T.n_min (by decide +kernel) (pa_cons (pv 1) (pa_cons (pe_call (ok_law_draw T) (hr.mono (by decide)) (by rfl) T.m_law_draw T.F_law_draw.kp T.b_law_draw .nil pass0 (pa_cons (pv 0) (pa_cons (pe_op op_add (pv 2) pe_int) pa_nil))) pa_nil))) pa_nil)) (blkOk_by (own := [("_law_step", 4)]) (N := ["_law_source_here", "_law_many", "_law_most", "_law_left", "_law_step"]) (sc := defScope s_law_some) (by decide +kernel)) (fun _ _ _ _ _ => by exact (pg_name (i := 4) sc_law_some.nd rfl (.inl rfl))) (fun _ _ _ _ _ => by exact pts_nil) (fun _ _ _ _ _ => by exact (k_bm (K := K) rfl (pe_bm PySem.F.plainAttrs_list PySem.F.slot_list_pop PySem.F.type_list_pop mt_popAt (pv 3) (pa_cons (pe_call (ok_law_draw T) (hr.mono (by decide)) (by rfl) T.m_law_draw T.F_law_draw.kp T.b_law_draw .nil pass0 (pa_cons (pv 0) (pa_cons (pe_callB (k_len (K := K) rfl) (by rfl) T.n_len PySem.boot_len (pa_cons (pv 3) pa_nil)) pa_nil))) pa_nil))))))
    refine seq_asg (fun v H' => ∃ l, v = .ref l ∧ H l = none ∧ Ex H H' ∧ H' l = some (.lst ((nz (List.range n)).map V.int))) (fun R hR => ?_) (fun v H1 hC => ?_)
    · walk_at "sx"
      refine ⟨.of_le (by omega) (by omega) (by omega) (by omega), fun q nq => ?_⟩
      refine hR _ _ ⟨q, rfl, nq, Ex.new nq, ?_⟩
      rw [upd_same, rgV_ints, show ((n : Int) - 0).toNat = n by omega, show ((List.range n).map fun i => (0 : Int) + ((i : Nat) : Int)) = nz (List.range n) from List.map_congr_left fun i _ => by omega]
    obtain ⟨l, rfl, nl, e1, hl⟩ := hC
    have nlb := hB.apart nl
    walk_at "sx"
    refine ⟨b, _, _, rfl, by omega, big_of (by omega), hB.ex e1, by omega, fun n' H2 n0 n1 f2 b2 => ?_⟩
    walk_at "sx"
    refine ⟨_, _, ⟨rfl, rfl⟩, ?_⟩
    obtain ⟨tn, ht, htn⟩ : ∃ tn : Nat, (if n' < (n : Int) then n' else (n : Int)) = (tn : Int) ∧ tn ≤ n := by
      refine ⟨(if n' < (n : Int) then n' else (n : Int)).toNat, ?_, ?_⟩
      · rw [Int.toNat_of_nonneg]
        split <;> omega
      · split <;> omega
    rw [ht]
    refine ⟨by omega, by omega, fun D nD => ?_⟩
    rw [Int.toNat_natCast]
    have hl2 := f2 _ _ nlb hl
    have nDl : D ≠ l := Ne.symm (ne_of_none hl2 nD)
    have nDb := b2.apart nD
    refine lc_rngE (lo := 0) (n := tn) (PvS H b l D n c) ⟨[], List.range n, (Ex.new nD) _ _ hl2, upd_same, List.nodup_range, fun x hx => List.mem_range.mp hx, rfl, by simp, ((Fx.of e1).trans f2).trans (Fx.of (Ex.new nD)), b2.off nDb⟩ (fun i H3 hi hP => ?_) (fun H3 hP => ?_)
    · obtain ⟨A, B, hB1, hA1, nd, pg, hl, hs, fx, hb⟩ := hP
      refine ⟨rfl, ?_⟩
      simp only [wipe, List.set_cons_zero, List.set_cons_succ]
      walk_at "sx"
      refine ⟨tyL hB1, lenL (.inl (.inl hB1)) ?_⟩
      rw [List.length_map, nz_len]
      refine ⟨b, _, _, rfl, by omega, big_of (by omega), hb, by omega, fun r H4 r0 r1 f4 b4 => ?_⟩
      have hB4 := f4 _ _ nlb hB1
      have hA4 := f4 _ _ nDb hA1
      have hx : B[r.toNat]? = some B[r.toNat] := List.getElem?_eq_getElem (by omega)
      have pm : (A ++ [B[r.toNat]]) ++ B.eraseIdx r.toNat |>.Perm (A ++ B) := by
        rw [List.append_assoc]
        exact List.Perm.append_left A (erase_perm hx)
      have le := List.length_eraseIdx_of_lt (l := B) (i := r.toNat) (by omega)
      generalize B[r.toNat] = x at hx pm
      refine ⟨l, _, r, r.toNat, .int (x : Int), rfl, rfl, hB4, by omega, by omega, seqIx r0 (by rw [List.length_map, nz_len]; omega), nz_at hx, ?_⟩
      refine ⟨(nz A).map V.int, by rw [upd_ne nDl]; exact hA4, BC.sz_lt (by rw [List.length_map, nz_len]; omega), A ++ [x], B.eraseIdx r.toNat, ?_, ?_, pm.nodup_iff.mpr nd, fun y hy => pg y (pm.mem_iff.mp hy), by rw [List.length_append, List.length_singleton, hl], by rw [List.length_append, List.length_singleton, le]; omega, ?_, ?_⟩
      · rw [upd_ne (Ne.symm nDl), upd_same, erase_map]
      · rw [upd_same, nz_v]
      · exact ((fx.trans f4).mut nl).mut (fresh_back e1 (fx_none f2 nD nDb))
      · exact (b4.off nlb).off nDb
    · obtain ⟨A, B, hB1, hA1, nd, pg, hl, hs, fx, hb⟩ := hP
      rw [List.nodup_append] at nd
      exact k D A H3 (fresh_back e1 (fx_none f2 nD nDb)) fx (hb.mono (by omega)) hA1 nd.1 (fun x hx => pg x (List.mem_append_left _ hx))
end
end LW

set_option Elab.async false
set_option linter.all false
set_option maxRecDepth 100000
set_option maxHeartbeats 4000000
namespace LW
open PySem PySem.Spec PyProof.Rows L2 BC Evl TR
local macro_rules | `(tactic| walk_at "sx") => `(tactic| try simp only [x_seq, x_next, x_brk, x_cnt, x_nev, x_ret, x_retN, x_drop, x_ifS, x_asg, x_gn, x_gsub, x_par, x_par3, x_aug, x_for, x_lc, x_rng1, x_rng2, x_rng3, x_ilist, x_itup, x_ienum, x_izip, x_izipA, x_istr, x_var, x_c, x_op, x_un, x_test, x_b, x_chain, x_and, x_or, x_not, x_andV, x_orV, x_notV, x_ife, x_nil, x_cons, x_lst, x_tup, x_cb, x_call, x_callK, x_bm, x_bm0, x_tru, x_sl, x_nopart, x_part, x_revL, x_I0, x_I, x_U, x_ip, x_ipC, x_eqI, x_neI, x_eqB, x_neB, x_eqS, x_neS, x_isB, x_isNB, x_lrg, x_gall, x_lenSet, x_sortSet, x_rg1, x_rg2,
  L2.start, List.map_cons, List.map_nil, List.length_cons, List.length_nil, Nat.reduceAdd, Nat.reduceSub, Nat.sub_self, Nat.zero_add, List.replicate, List.replicate_succ, List.replicate_zero, List.append_nil, List.cons_append, List.nil_append, List.set_cons_zero, List.set_cons_succ, List.getElem?_cons_zero, List.getElem?_cons_succ, Option.some.injEq, V.int.injEq, V.bl.injEq, V.ref.injEq, V.str.injEq, List.cons.injEq, and_true, true_and, exists_eq_left', exists_eq_left, exists_and_left, exists_eq, if_true, if_false, ite_true, ite_false, Bool.true_eq_false, Bool.false_eq_true, reduceIte, reduceCtorEq, Bool.not_true, Bool.not_false, decide_true, decide_false, decide_eq_true_eq, Bool.and_true, Bool.true_and, Bool.and_self, Bool.and_false, Bool.false_and, Bool.or_self, Bool.or_false, Bool.false_or, Bool.or_true, Bool.true_or, eq_self])

section
variable {P : Program} {w : World} {K : PySem.W.Frag} {mg : Str → Option Value} {base : Heap}
theorem wo_mem {G : Grid} {L : List Nat} {p q : Nat} (hp : p < G.length) : q ∈ row (wo G L) p ↔ p ∉ L ∧ q ∈ row G p ∧ q ∉ L := by
  rw [wo_row hp]
  unfold wor
  by_cases c : p ∈ L
  · simp [c]
  · simp [c]
theorem linked_wo {G : Grid} {L : List Nat} : ∀ (W : List Nat), linked G W = true → (∀ x ∈ W, x < G.length) → 2 ≤ W.length → (linked (wo G L) W = true ↔ ∀ x ∈ W, x ∉ L)
  | [], _, _, h => by simp at h
  | [_], _, _, h => by simp at h
  | [p, q], h, lt, _ => by
    have h' : (decide (q ∈ row G p) && true) = true := h
    have hq : q ∈ row G p := by simpa using h'
    have hp := lt p List.mem_cons_self
    show ((decide (q ∈ row (wo G L) p) && true) = true) ↔ _
    rw [Bool.and_true, decide_eq_true_eq, wo_mem hp]
    simp [hq]
  | p :: q :: r :: l, h, lt, _ => by
    have h' : (decide (q ∈ row G p) && linked G (q :: r :: l)) = true := h
    rw [Bool.and_eq_true, decide_eq_true_eq] at h'
    have ih := linked_wo (L := L) (q :: r :: l) h'.2 (fun x hx => lt x (List.mem_cons_of_mem _ hx)) (by simp)
    have hp := lt p List.mem_cons_self
    show ((decide (q ∈ row (wo G L) p) && linked (wo G L) (q :: r :: l)) = true) ↔ _
    rw [Bool.and_eq_true, decide_eq_true_eq, ih, wo_mem hp]
    constructor
    · rintro ⟨⟨a, _, _⟩, b⟩ x hx
      rcases List.mem_cons.mp hx with rfl | hx
      · exact a
      · exact b x hx
    · intro a
      exact ⟨⟨a p List.mem_cons_self, h'.1, a q (by simp)⟩, fun x hx => a x (List.mem_cons_of_mem _ hx)⟩
theorem free_eq {G : Grid} {L W : List Nat} (h : linked G W = true) (lt : ∀ x ∈ W, x < G.length) (ne : W ≠ []) : linked (wo G L) W = (decide (W.length = 1) || decide (W.filter (fun x => decide (x ∈ L)) = [])) := by
  have lp := List.length_pos_iff.mpr ne
  by_cases c : W.length = 1
  · rw [decide_eq_true c, Bool.true_or]
    match W, c with
    | [p], _ => rfl
  · rw [decide_eq_false c, Bool.false_or]
    have q := linked_wo (L := L) W h lt (by omega)
    by_cases z : W.filter (fun x => decide (x ∈ L)) = []
    · rw [decide_eq_true z]
      refine q.mpr fun x hx m => ?_
      have : x ∈ W.filter (fun x => decide (x ∈ L)) := List.mem_filter.mpr ⟨hx, decide_eq_true m⟩
      rw [z] at this
      exact List.not_mem_nil this
    · rw [decide_eq_false z]
      cases e : linked (wo G L) W with
      | false => rfl
      | true =>
        exact absurd (List.filter_eq_nil_iff.mpr fun x hx m => q.mp e x hx (of_decide_eq_true m)) z
def dGL (G : Grid) (L : List Nat) : PyData := .list [dG G, .list ((nz L).map PyData.int)]
theorem reprGL {H : Hp} {Q : VK} {p s g : Addr} {G : Grid} {L : List Nat} (hp : H p = some (.lst [.ref s, .ref g])) (hs : GridAt H s G) (hg : SqL K H g ((nz L).map V.int)) (g1 : G.length ≤ 12) (g2 : ∀ r ∈ G, r.length ≤ 12 ∧ ∀ x ∈ r, x < 12) (l1 : L.length ≤ 12) (l2 : ∀ x ∈ L, x < 12) (q : Q (.str (dGL G L).shown) H) : rRepr K [.ref p] H Q := by
  have sm : ∀ l : List Nat, (∀ x ∈ l, x < 12) → ∀ x ∈ nz l, x.natAbs < 10 ^ 12 := fun l h x hx => by
    obtain ⟨y, hy, rfl⟩ := List.mem_map.mp hx
    have := h y hy
    omega
  have wl : ∀ l : List Nat, (∀ x ∈ l, x < 12) → l.length ≤ 12 → (PyData.list ((nz l).map PyData.int)).weight ≤ 500 := fun l h h2 => by
    have := wt_ints (sm l h)
    rw [nz_len] at this
    omega
  have dl : ∀ l : List Nat, (PyData.list ((nz l).map PyData.int)).depth ≤ 1 := fun l => by
    simp only [PyData.depth]
    have := dep_all (ds := (nz l).map PyData.int) (n := 0) fun d m => by
      obtain ⟨x, hx, rfl⟩ := List.mem_map.mp m
      simp [PyData.depth]
    omega
  have mG : ∀ d ∈ G.map (fun r => PyData.list ((nz r).map PyData.int)), Tm d ∧ d.depth ≤ 1 ∧ d.weight ≤ 500 := fun d m => by
    obtain ⟨r, hr, rfl⟩ := List.mem_map.mp m
    exact ⟨tm_ints (sm r (g2 r hr).2), dl r, wl r (g2 r hr).2 (g2 r hr).1⟩
  have tG : Tm (dG G) := .list fun d m => (mG d m).1
  have dpG : (dG G).depth ≤ 2 := by
    unfold dG
    simp only [PyData.depth]
    have := dep_all fun d m => (mG d m).2.1
    omega
  have wG : (dG G).weight ≤ 7000 := by
    unfold dG
    simp only [PyData.weight]
    have := wt_all fun d m => (mG d m).2.2
    rw [List.length_map] at this
    omega
  refine reprX (.lst (.inl (.inl hp)) (.cons hs.dp (.cons (.lst hg (dp_ints _)) .nil))) (.list fun d m => ?_) ?_ ?_ q
  · simp only [List.mem_cons, List.mem_nil_iff, or_false] at m
    rcases m with rfl | rfl
    · exact tG
    · exact tm_ints (sm L l2)
  · simp only [PyData.depth]
    have := dep_all (ds := [dG G, .list ((nz L).map PyData.int)]) (n := 2) fun d m => by
      simp only [List.mem_cons, List.mem_nil_iff, or_false] at m
      rcases m with rfl | rfl
      · exact dpG
      · have := dl L; omega
    omega
  · simp only [PyData.weight]
    have := wt_all (ds := [dG G, .list ((nz L).map PyData.int)]) (n := 7000) fun d m => by
      simp only [List.mem_cons, List.mem_nil_iff, or_false] at m
      rcases m with rfl | rfl
      · exact wG
      · have := wl L l2 l1; omega
    simp only [List.length_cons, List.length_nil] at this
    omega
theorem site_small {G : Grid} (h : SiteOk G) : ∀ r ∈ G, r.length ≤ 12 ∧ ∀ x ∈ r, x < 12 := fun r m => by
  obtain ⟨i, hi, e⟩ := List.getElem_of_mem m
  have e' := List.getElem?_eq_some_iff.mpr ⟨hi, e⟩
  have n2 := h.n2
  exact ⟨h.len e', fun x hx => by have := h.lt i r e' x hx; omega⟩
def JDu (H2 : Hp) (σ0 : L2.St) (d : Addr) (G : Grid) (L : List Nat) (i : Nat) (σ' : L2.St) (H' : Hp) : Prop := (∃ l9 l10 l12, σ' = ((σ0.set 9 l9).set 10 l10).set 12 l12) ∧ Ex H2 H' ∧ GridN H2 H' d ((List.range i).map (wor G L))
def JAt (H3 : Hp) (σ0 : L2.St) (i : Nat) (σ' : L2.St) (H' : Hp) : Prop := (∃ l7 l9 l10 l13, σ' = (((σ0.set 7 l7).set 9 l9).set 10 l10).set 13 l13) ∧ Ex H3 H'
/-- the rows of f, the first i of them with their place behind -/
def ApAt (H3 H' : Hp) (f : Addr) (G : Grid) (ps : List Addr) (i : Nat) : Prop := H' f = some (.lst (ps.map V.ref)) ∧ ∀ j p, ps[j]? = some p → H' p = some (.lst (if j < i then (nz (row G j)).map V.int ++ [.int (j : Int)] else (nz (row G j)).map V.int))
def JAp (H3 : Hp) (σ0 : L2.St) (f : Addr) (G : Grid) (ps : List Addr) (i : Nat) (σ' : L2.St) (H' : Hp) : Prop := (∃ l9 l10, σ' = (σ0.set 9 l9).set 10 l10) ∧ Ex H3 H' ∧ ApAt H3 H' f G ps i
def JHe (H5 : Hp) (σ0 : L2.St) (G : Grid) (L : List Nat) (i : Nat) (σ' : L2.St) (H' : Hp) : Prop := (∃ h l9, σ' = (σ0.set 8 (some (.ref h))).set 9 l9 ∧ GridAt H' h (wo G (L.take i))) ∧ Ex H5 H'
/-- the state of a turn, by the slots that are known -/
def S15 (b : Addr) (mo : Nat) (s : Addr) (rest : List (Option V)) : L2.St := [some (.ref b), some (.int mo), some (.ref s)] ++ rest
theorem into_gone {G : Grid} {L : List Nat} {x : Nat} (h : x ∈ L) : into (wo G L) x = [] := by
  unfold into
  rw [List.filter_eq_nil_iff]
  intro i hi
  rw [List.mem_range, wo_len] at hi
  rw [decide_eq_true_eq, wo_mem hi]
  exact fun q => q.2.2 h
end
end LW

set_option Elab.async false
set_option linter.all false
set_option maxRecDepth 100000
set_option maxHeartbeats 4000000
namespace LW
open PySem PySem.Spec PyProof.Rows L2 BC Evl TR
local macro_rules | `(tactic| walk_at "sx") => `(tactic| try simp only [x_seq, x_next, x_brk, x_cnt, x_nev, x_ret, x_retN, x_drop, x_ifS, x_asg, x_gn, x_gsub, x_par, x_par3, x_aug, x_for, x_lc, x_rng1, x_rng2, x_rng3, x_ilist, x_itup, x_ienum, x_izip, x_izipA, x_istr, x_var, x_c, x_op, x_un, x_test, x_b, x_chain, x_and, x_or, x_not, x_andV, x_orV, x_notV, x_ife, x_nil, x_cons, x_lst, x_tup, x_cb, x_call, x_callK, x_bm, x_bm0, x_tru, x_sl, x_nopart, x_part, x_revL, x_I0, x_I, x_U, x_ip, x_ipC, x_eqI, x_neI, x_eqB, x_neB, x_eqS, x_neS, x_isB, x_isNB, x_lrg, x_gall, x_lenSet, x_sortSet, x_rg1, x_rg2,
  L2.start, List.map_cons, List.map_nil, List.length_cons, List.length_nil, Nat.reduceAdd, Nat.reduceSub, Nat.sub_self, Nat.zero_add, List.replicate, List.replicate_succ, List.replicate_zero, List.append_nil, List.cons_append, List.nil_append, List.set_cons_zero, List.set_cons_succ, List.getElem?_cons_zero, List.getElem?_cons_succ, Option.some.injEq, V.int.injEq, V.bl.injEq, V.ref.injEq, V.str.injEq, List.cons.injEq, and_true, true_and, exists_eq_left', exists_eq_left, exists_and_left, exists_eq, if_true, if_false, ite_true, ite_false, Bool.true_eq_false, Bool.false_eq_true, reduceIte, reduceCtorEq, Bool.not_true, Bool.not_false, decide_true, decide_false, decide_eq_true_eq, Bool.and_true, Bool.true_and, Bool.and_self, Bool.and_false, Bool.false_and, Bool.or_self, Bool.or_false, Bool.false_or, Bool.or_true, Bool.true_or, eq_self])

section
variable {P : Program} {w : World} {K : PySem.W.Frag} {mg : Str → Option Value} {base : Heap}
def spHolds : Sp := fun vs H Q _ => ∃ (b : Addr) (mo c : Nat), vs = [.ref b, .int mo] ∧ 1 ≤ mo ∧ mo ≤ 12 ∧ BagAt H b c ∧ c ≤ 1000 ∧ ∀ H', Fx b H H' → Q (.bl true) H'
def JSp (H : Hp) (b : Addr) (mo : Nat) (s : Addr) (G : Grid) (i : Nat) (σ' : L2.St) (H' : Hp) : Prop := ∃ l3 l4 l5 l6 l7 l8 l9 l10 l11 l12 l13 l14, σ' = [some (.ref b), some (.int mo), some (.ref s), l3, l4, l5, l6, l7, l8, l9, l10, l11, l12, l13, l14] ∧
  Fx b H H' ∧ BagAt H' b (2000 + 100 * i) ∧ GridN H H' s G
theorem ok_law_holds (T : Txt K mg) : FnG P w K mg base CX0 6 T.f_law_holds T.fd_law_holds ["_law_source_here", "_law_most"] spHolds := by
  refine fun_okN T.F_law_holds sc_law_holds (fun vs H Q E h => ?_) (fun cdv A outer s H vs Q E hG hr h => ?_)
  · obtain ⟨b, mo, c, rfl, _⟩ := h
    rfl
  · obtain ⟨b, mo, c, rfl, m1, m2, hB, hc, k⟩ := h
    apply Exists.intro
    apply And.intro
    · apply pss_cons
      · exact (ps_set (i := 2) sc_law_holds.nd rfl (.inl rfl) (pe_call (ok_law_net T) (hr.mono (by decide)) (by rfl) T.m_law_net T.F_law_net.kp T.b_law_net .nil pass0 (pa_cons (pv 0) (pa_cons (pv 1) pa_nil))))
      apply pss_cons
      · apply ps_for PassesOwn.never rfl
        · exact (pi_range1 (by rfl) T.n_range (pa_cons pe_int pa_nil))
        · exact (pg_name (i := 3) sc_law_holds.nd rfl (.inl rfl))
        · apply pss_cons
          · exact (ps_set (i := 4) sc_law_holds.nd rfl (.inr rfl) (pe_call (ok_law_some T) (hr.mono (by decide)) (by rfl) T.m_law_some T.F_law_some.kp T.b_law_some .nil pass0 (pa_cons (pv 0) (pa_cons (pe_callB (k_len (K := K) rfl) (by rfl) T.n_len PySem.boot_len (pa_cons (pv 2) pa_nil)) (pa_cons (pe_ix (k_ix_list (K := K) rfl) (pe_lst (pa_cons pe_int (pa_cons (pe_callB (k_len (K := K) rfl) (by rfl) T.n_len PySem.boot_len (pa_cons (pv 2) pa_nil)) pa_nil))) (pe_call (ok_law_draw T) (hr.mono (by decide)) (by rfl) T.m_law_draw T.F_law_draw.kp T.b_law_draw .nil pass0 (pa_cons (pv 0) (pa_cons pe_int pa_nil))) (fun _ _ => rfl)) pa_nil)))))
          apply pss_cons
          · exact (ps_set (i := 5) sc_law_holds.nd rfl (.inl rfl) (pe_lst pa_nil))
          apply pss_cons
          · apply ps_for PassesOwn.never rfl
            · exact (k_pi_enum (K := K) rfl (by rfl) T.n_enumerate (pa_cons (pv 2) pa_nil))
            · exact (k_tup (K := K) (n := 2) rfl rfl (pgs_cons (pg_name (i := 9) sc_law_holds.nd rfl (.inl rfl)) (pgs_cons (pg_name (i := 10) sc_law_holds.nd rfl (.inl rfl)) pgs_nil)))
            · apply pss_cons
              · exact (ps_setLc (i := 12) (own := [("_law_other", 14)]) rfl sc_law_holds.nd rfl rfl (sw_true rfl rfl rfl (by decide +kernel)) (k_pi_list (K := K) rfl (pv 10)) (blkOk_by (own := [("_law_other", 14)]) (N := ["_law_source_here", "_law_most", "_law_net_here", "_law_step", "_law_gone", "_law_due", "_law_before", "_law_attempt", "_law_here", "_law_spot", "_law_row", "_law_is_free", "_law_left", "_law_found", "_law_other"]) (sc := defScope s_law_holds) (by decide +kernel)) (fun _ _ _ _ _ => by exact (pg_name (i := 14) sc_law_holds.nd rfl (.inl rfl))) (fun _ _ _ _ _ => by exact (pts_one (pt_cmpR (k_notIn (K := K) rfl) (pv 14) (pv 4) (by rfl)))) (fun _ _ _ _ _ => by exact (pv 14)))
              apply pss_one
              exact (ps_expr (k_bm (K := K) rfl (pe_bm PySem.F.plainAttrs_list PySem.F.slot_list_append PySem.F.type_list_append mt_append (pv 5) (pa_cons (pe_ifExp (pt_cmpR (k_in (K := K) rfl) (pv 9) (pv 4) (by rfl)) (pe_lst pa_nil) (pv 12)) pa_nil))))
          apply pss_cons
          · exact (ps_set (i := 6) sc_law_holds.nd rfl (.inl rfl) (pe_callB (k_repr (K := K) rfl hG hr.units) (by rfl) T.n_repr (by decide +kernel) (pa_cons (pe_lst (pa_cons (pv 2) (pa_cons (pv 4) pa_nil))) pa_nil)))
          apply pss_cons
          · apply ps_for PassesOwn.never rfl
            · exact (pi_range1 (by rfl) T.n_range (pa_cons pe_int pa_nil))
            · exact (pg_name (i := 7) sc_law_holds.nd rfl (.inl rfl))
            · apply pss_cons
              · exact (ps_set (i := 13) sc_law_holds.nd rfl (.inl rfl) (pe_call (ok_site_without T) (hr.mono (by decide)) (by rfl) T.m_site_without T.F_site_without.kp T.b_site_without .nil pass0 (pa_cons (pv 2) (pa_cons (pv 4) pa_nil))))
              apply pss_cons
              · apply ps_if
                · exact (PW.pt (pw_or (pt_not (pt_val (pe_call (ok_law_equal T) (hr.mono (by decide)) (by rfl) T.m_law_equal T.F_law_equal.kp T.b_law_equal .nil pass0 (pa_cons (pv 13) (pa_cons (pv 5) pa_nil))))) (pw_or1 (pt_cmpR op_ne (pe_callB (k_repr (K := K) rfl hG hr.units) (by rfl) T.n_repr (by decide +kernel) (pa_cons (pe_lst (pa_cons (pv 2) (pa_cons (pv 4) pa_nil))) pa_nil)) (pv 6) (by rfl)))))
                · apply pss_one
                  exact (ps_ret pe_bl)
                · exact pss_nil
              apply pss_cons
              · apply ps_for PassesOwn.never rfl
                · exact (k_pi_enum (K := K) rfl (by rfl) T.n_enumerate (pa_cons (pv 13) pa_nil))
                · exact (k_tup (K := K) (n := 2) rfl rfl (pgs_cons (pg_name (i := 9) sc_law_holds.nd rfl (.inl rfl)) (pgs_cons (pg_name (i := 10) sc_law_holds.nd rfl (.inl rfl)) pgs_nil)))
                · apply pss_one
                  exact (ps_expr (k_bm (K := K) rfl (pe_bm PySem.F.plainAttrs_list PySem.F.slot_list_append PySem.F.type_list_append mt_append (pv 10) (pa_cons (pv 9) pa_nil))))
              apply pss_one
              apply ps_if
              · exact (pt_cmpR (k_neD (K := K) rfl hr.units) (pe_lc (own := [("_law_row", 10)]) rfl sc_law_holds.nd (k_pi_list (K := K) rfl (pv 13)) (blkOk_by (own := [("_law_row", 10)]) (N := ["_law_source_here", "_law_most", "_law_net_here", "_law_step", "_law_gone", "_law_due", "_law_before", "_law_attempt", "_law_here", "_law_spot", "_law_row", "_law_is_free", "_law_left", "_law_found", "_law_other"]) (sc := defScope s_law_holds) (by decide +kernel)) (fun _ _ _ _ _ => by exact (pg_name (i := 10) sc_law_holds.nd rfl (.inl rfl))) (fun _ _ _ _ _ => by exact pts_nil) (fun _ _ _ _ _ => by exact (pe_ix (k_ix_list (K := K) rfl) (pv 10) (pe_un un_neg pe_int) (fun _ _ => rfl)))) (pe_listRg rfl (by rfl) T.n_list (prg_1 (by rfl) T.n_range (pe_callB (k_len (K := K) rfl) (by rfl) T.n_len PySem.boot_len (pa_cons (pv 2) pa_nil)))) (by rfl))
              · apply pss_one
                exact (ps_ret pe_bl)
              · exact pss_nil
          apply pss_cons
          · exact (ps_set (i := 8) sc_law_holds.nd rfl (.inl rfl) (pv 2))
          apply pss_cons
          · apply ps_for PassesOwn.never rfl
            · exact (k_pi_list (K := K) rfl (pv 4))
            · exact (pg_name (i := 9) sc_law_holds.nd rfl (.inl rfl))
            · apply pss_cons
              · exact (ps_set (i := 8) sc_law_holds.nd rfl (.inl rfl) (pe_call (ok_site_without T) (hr.mono (by decide)) (by rfl) T.m_site_without T.F_site_without.kp T.b_site_without .nil pass0 (pa_cons (pv 8) (pa_cons (pe_lst (pa_cons (pv 9) pa_nil)) pa_nil))))
              apply pss_one
              apply ps_if
              · exact (PW.pt (pw_or (pt_cmpR (k_neD (K := K) rfl hr.units) (pe_call (ok_reached_from T) (hr.mono (by decide)) (by rfl) T.m_reached_from T.F_reached_from.kp T.b_reached_from .nil pass0 (pa_cons (pv 8) (pa_cons (pv 9) pa_nil))) (pe_lst (pa_cons (pv 9) pa_nil)) (by rfl)) (pw_or1 (pt_cmpR (k_neD (K := K) rfl hr.units) (pe_call (ok_links_into T) (hr.mono (by decide)) (by rfl) T.m_links_into T.F_links_into.kp T.b_links_into .nil pass0 (pa_cons (pv 8) (pa_cons (pv 9) pa_nil))) (pe_lst pa_nil) (by rfl)))))
              · apply pss_one
                exact (ps_ret pe_bl)
              · exact pss_nil
          apply pss_cons
          · apply ps_if
            · exact (PW.pt (pw_or (pt_cmpR (k_neD (K := K) rfl hr.units) (pv 8) (pv 5) (by rfl)) (pw_or1 (pt_cmpR (k_neD (K := K) rfl hr.units) (pe_call (ok_site_without T) (hr.mono (by decide)) (by rfl) T.m_site_without T.F_site_without.kp T.b_site_without .nil pass0 (pa_cons (pv 2) (pa_cons (k_rev (K := K) rfl (pv 4)) pa_nil))) (pv 5) (by rfl)))))
            · apply pss_one
              exact (ps_ret pe_bl)
            · exact pss_nil
          apply pss_cons
          · exact (ps_set (i := 10) sc_law_holds.nd rfl (.inl rfl) (pe_call (ok_law_stroll T) (hr.mono (by decide)) (by rfl) T.m_law_stroll T.F_law_stroll.kp T.b_law_stroll .nil pass0 (pa_cons (pv 0) (pa_cons (pv 2) (pa_cons (pe_op op_add pe_int (pe_call (ok_law_draw T) (hr.mono (by decide)) (by rfl) T.m_law_draw T.F_law_draw.kp T.b_law_draw .nil pass0 (pa_cons (pv 0) (pa_cons pe_int pa_nil)))) pa_nil)))))
          apply pss_cons
          · exact (ps_set (i := 11) sc_law_holds.nd rfl (.inl rfl) (pe_or (pe_cmpR op_eq (pe_callB (k_len (K := K) rfl) (by rfl) T.n_len PySem.boot_len (pa_cons (pv 10) pa_nil)) pe_int (by rfl)) (pe_one (pe_cmpR (k_eqD (K := K) rfl hr.units) (pe_lc (own := [("_law_spot", 9)]) rfl sc_law_holds.nd (k_pi_list (K := K) rfl (pv 10)) (blkOk_by (own := [("_law_spot", 9)]) (N := ["_law_source_here", "_law_most", "_law_net_here", "_law_step", "_law_gone", "_law_due", "_law_before", "_law_attempt", "_law_here", "_law_spot", "_law_row", "_law_is_free", "_law_left", "_law_found", "_law_other"]) (sc := defScope s_law_holds) (by decide +kernel)) (fun _ _ _ _ _ => by exact (pg_name (i := 9) sc_law_holds.nd rfl (.inl rfl))) (fun _ _ _ _ _ => by exact (pts_one (pt_cmpR (k_in (K := K) rfl) (pv 9) (pv 4) (by rfl)))) (fun _ _ _ _ _ => by exact (pv 9))) (pe_lst pa_nil) (by rfl)))))
          apply pss_one
          apply ps_if
          · exact (pt_cmpR op_ne (pe_call (ok_is_walk T) (hr.mono (by decide)) (by rfl) T.m_is_walk T.F_is_walk.kp T.b_is_walk .nil pass0 (pa_cons (pv 5) (pa_cons (pv 10) pa_nil))) (pv 11) (by rfl))
          · apply pss_one
            exact (ps_ret pe_bl)
          · exact pss_nil
      apply pss_one
      exact (ps_ret (pe_and (pe_cmpR (k_eqD (K := K) rfl hr.units) (pe_call (ok_site_without T) (hr.mono (by decide)) (by rfl) T.m_site_without T.F_site_without.kp T.b_site_without .nil pass0 (pa_cons (pv 2) (pa_cons (pe_lst pa_nil) pa_nil))) (pv 2) (by rfl)) (pe_one (pe_cmpR (k_eqD (K := K) rfl hr.units) (pe_call (ok_site_without T) (hr.mono (by decide)) (by rfl) T.m_site_without T.F_site_without.kp T.b_site_without .nil pass0 (pa_cons (pe_lst (pa_cons (pe_lst (pa_cons pe_int pa_nil)) (pa_cons (pe_lst (pa_cons pe_int pa_nil)) pa_nil))) (pa_cons (pe_lst (pa_cons pe_int pa_nil)) pa_nil))) (pe_lst (pa_cons (pe_lst pa_nil) (pa_cons (pe_lst pa_nil) pa_nil))) (by rfl)))))
    obtain ⟨ob, hob⟩ := hB.some
    refine seq_asg (fun v H' => ∃ s G, v = .ref s ∧ Fx b H H' ∧ BagAt H' b 2000 ∧ GridN H H' s G ∧ SiteOk G) (fun R hR => ?_) (fun v H1 hC => ?_)
    · walk_at "sx"
      refine ⟨b, mo, c, rfl, m1, m2, hB, by omega, fun s G H' f1 b1 g1 ok _ => hR _ _ ⟨s, G, rfl, f1, b1.mono (by omega), g1, ok⟩⟩
    obtain ⟨s, G, rfl, f1, b1, g1, ok⟩ := hC
    have n1 := ok.n1
    have n2 := ok.n2
    walk_at "sx"
    refine ⟨by omega, by omega, ?_⟩
    refine lg_rng (JSp H b mo s G) ⟨none, none, none, none, none, none, none, none, none, none, none, none, rfl, f1, by simpa using b1, g1⟩ (fun i σ' H' hi hP => ?_) (fun σ' H' hP => ?_)
    · obtain ⟨l3, l4, l5, l6, l7, l8, l9, l10, l11, l12, l13, l14, rfl, fx, hb, gn⟩ := hP
      have hi5 : i < 5 := hi
      simp only [x_gn, List.set_cons_zero, List.set_cons_succ]
      -- gone
      refine seq_asg (fun v H2 => ∃ g L, v = .ref g ∧ Fx b H' H2 ∧ BagAt H2 b (2000 + 100 * i + 20) ∧ H2 g = some (.lst ((nz L).map V.int)) ∧ (L : List Nat).Nodup ∧ (∀ x ∈ L, x < G.length) ∧ g ≠ b) (fun R hR => ?_) (fun v H2 hC => ?_)
      · obtain ⟨xs, hs, hl, _⟩ := gn.at.lst
        walk_at "sx"
        refine lenL (.inl (.inl hs)) ?_
        refine lenL (.inl (.inl hs)) ?_
        rw [hl]
        refine ⟨sz_ok (by simp), fun z nz1 => ?_⟩
        have ez := Ex.new nz1 (o := .lst [V.int 2, V.int ((G.length : Nat) : Int)])
        refine ⟨b, _, _, rfl, by omega, big_of (by omega), hb.ex ez, by omega, fun r H3 r0 r1 f3 b3 => ?_⟩
        obtain ⟨x, hx, em⟩ := pickI (ns := [2, ((G.length : Nat) : Int)]) r0 r1
        simp only [List.mem_cons, List.mem_nil_iff, or_false] at hx
        refine ixL (.inl (.inl (f3 _ _ (hb.apart nz1) upd_same))) em ?_
        refine ⟨b, G.length, x, _, rfl, by omega, by omega, by omega, b3, by omega, fun g L H4 ng f4 b4 hg nd lt => ?_⟩
        exact hR _ _ ⟨g, L, rfl, ((Fx.of ez).trans f3).trans f4, b4.mono (by omega), hg, nd, lt, b3.apart ng⟩
      obtain ⟨g, L, rfl, f2, b2, hg, nd, lt, ngb⟩ := hC
      have gn2 := gn.nw (Nw.fx hob f2)
      have ll := nodup_lt _ nd lt
      have l12' : ∀ x ∈ L, x < 12 := fun x hx => by have := lt x hx; omega
      simp only [List.set_cons_zero, List.set_cons_succ]
      -- due
      refine seq_asg (fun v H3 => ∃ d, v = .ref d ∧ H2 d = none ∧ Ex H2 H3 ∧ H3 d = some (.lst [])) (fun R hR => ?_) (fun v H3 hC => ?_)
      · walk_at "sx"
        exact ⟨sz_ok (by omega), fun d nd => hR _ _ ⟨d, rfl, nd, Ex.new nd, upd_same⟩⟩
      obtain ⟨d, rfl, nd2, e3, hd3⟩ := hC
      simp only [List.set_cons_zero, List.set_cons_succ]
      refine seq_cut (fun σ' H4 => ∃ l9 l10 l12, σ' = [some (.ref b), some (.int mo), some (.ref s), some (.int (0 + (i : Int))), some (.ref g), some (.ref d), l6, l7, l8, l9, l10, l11, l12, l13, l14] ∧ Ex H2 H4 ∧ GridN H2 H4 d (wo G L)) (fun N hN => ?_) (fun σ4 H4 hC => ?_)
      · obtain ⟨xs, hs, hl, hrow⟩ := (gn2.ex e3).at.lst
        walk_at "sx"
        refine ⟨_, .inl (.inl hs), ?_⟩
        have hsx : ∀ {H9 : Hp}, Ex H2 H9 → H9 s = some (.lst xs) := fun {H9} e => by
          obtain ⟨xs0, h1, _⟩ := gn2.at.lst
          have h2 := e3 _ _ h1
          rw [hs] at h2
          rw [e _ _ h1]
          exact h2.symm
        refine lg_enum (xs := xs) (JDu H2 [some (.ref b), some (.int mo), some (.ref s), some (.int (0 + (i : Int))), some (.ref g), some (.ref d), l6, l7, l8, l9, l10, l11, l12, l13, l14] d G L) ⟨⟨l9, l10, l12, rfl⟩, e3, nd2, [], hd3, rfl, List.nodup_nil, List.not_mem_nil, fun i p e => by simp at e⟩ (fun j σ' H' _ hP => .inl (.inl (hsx hP.2.1)))
          (fun j x σ' H5 T hx hP nT => ?_) (fun σ' H5 hP => ?_)
        · obtain ⟨⟨l9, l10, l12, rfl⟩, e5, g5⟩ := hP
          obtain ⟨hj, p, rfl, _⟩ := hrow j x hx
          obtain ⟨p', xs', q1, q2, q3, q4⟩ := gn2.at.get hj
          have exs : xs' = xs := by
            have h1 := e5 _ _ q1
            rw [hsx e5] at h1
            injection h1 with h1
            injection h1 with h1
            exact h1.symm
          subst exs
          rw [hx] at q3
          obtain rfl : p = p' := by injection q3 with q3; injection q3
          refine g_two upd_same ?_
          have eT := Ex.new nT (o := .tup [V.int j, V.ref p])
          simp only [List.set_cons_zero, List.set_cons_succ]
          have e6 := e5.trans eT
          have g6 := g5.ex eT
          generalize upd H5 T (.tup [V.int j, V.ref p]) = H6 at eT e6 g6 ⊢
          have hg6 := e6 _ _ hg
          have hp6 := e6 _ _ q4
          have rl := ok.rlen j
          refine seq_asg (fun v H7 => ∃ D, v = .ref D ∧ H6 D = none ∧ Ex H6 H7 ∧ H7 D = some (.lst ((nz ((row G j).filter fun x => !decide (x ∈ L))).map V.int))) (fun R hR => ?_) (fun v H7 hC => ?_)
          · walk_at "sx"
            refine ⟨⟨_, .inl (.inl hp6)⟩, fun D nD => ?_⟩
            refine lc_list (xs := (nz (row G j)).map V.int) (fun u => !decide ((row G j).getD u 0 ∈ L)) (fun u => V.int (((row G j).getD u 0 : Nat) : Int)) (.inl (.inl hp6)) nD (by rw [List.length_map, nz_len]; omega) (fun u => rfl) (fun u x hx => ?_) (fun u x hx _ => ?_) (fun H7 e7 hD => ?_)
            · obtain ⟨x, hx', rfl⟩ := at_nz hx
              refine et_is (et_test (ev_op (ev_var rfl) (ev_var rfl) (rv_niL (.inl (.inl hg6)) rfl (flat_ints (nz L))))) ?_
              rw [inV_ints, dec_nz, List.getD_eq_getElem?_getD, hx']
              rfl
            · obtain ⟨x, hx', rfl⟩ := at_nz hx
              refine ev_is (ev_var rfl) ?_
              rw [List.getD_eq_getElem?_getD, hx']
              rfl
            · rw [List.length_map, nz_len, kept_nz (row G j) (fun x => !decide (x ∈ L))] at hD
              exact hR _ _ ⟨D, rfl, nD, e7, hD⟩
          obtain ⟨D, rfl, nD, e7, hD⟩ := hC
          have fin : ∀ (r : Addr) (H8 : Hp), H6 r = none → Ex H6 H8 → H8 r = some (.lst ((nz (wor G L j)).map V.int)) → rAppend (.ref d) [.ref r] H8 fun x H9 => JDu H2 [some (.ref b), some (.int mo), some (.ref s), some (.int (0 + (i : Int))), some (.ref g), some (.ref d), l6, l7, l8, l9, l10, l11, l12, l13, l14] d G L (j + 1) [some (.ref b), some (.int mo), some (.ref s), some (.int (0 + (i : Int))), some (.ref g), some (.ref d), l6, l7, l8, some (.int j), some (.ref p), l11, some (.ref D), l13, l14] H9 := fun r H8 nr e8 hr => by
            obtain ⟨ys, h1, h2, g4⟩ := g6.push (fresh_back e6 nr) nr (Nw.of e8) hr
            refine appL h1 (BC.sz_lt (by rw [h2, List.length_map, List.length_range]; omega)) ?_
            refine ⟨⟨_, _, _, rfl⟩, (e6.trans e8).mut nd2, ?_⟩
            rw [List.range_succ, List.map_append]
            exact g4
          obtain ⟨fs, hfs⟩ : ∃ ys, H7 d = some (.lst ys) := by obtain ⟨_, ps, h1, _⟩ := g6; exact ⟨_, e7 _ _ h1⟩
          walk_at "sx"
          refine ⟨tyL hfs, inL (.inl (.inl (e7 _ _ hg6))) ?_⟩
          rw [dec_nz]
          by_cases c0 : j ∈ L
          · rw [decide_eq_true c0]
            walk_at "sx"
            refine ⟨sz_ok (by omega), fun r nr => ?_⟩
            refine fin r _ (fresh_back e7 nr) (e7.trans (Ex.new nr)) ?_
            rw [upd_same]
            unfold wor
            rw [if_pos c0]
            rfl
          · rw [decide_eq_false c0]
            walk_at "sx"
            refine fin D H7 nD e7 ?_
            rw [hD]
            unfold wor
            rw [if_neg c0]
        · obtain ⟨⟨l9, l10, l12, rfl⟩, e5, g5⟩ := hP
          rw [hl] at g5
          exact hN _ _ ⟨_, _, _, rfl, e5, g5⟩
      obtain ⟨l9', l10', l12'', rfl, e24, g4⟩ := hC
      have gn4 := gn2.ex e24
      have hg4 := e24 _ _ hg
      -- before
      refine seq_asg (fun v H5 => v = .str (dGL G L).shown ∧ Ex H4 H5) (fun R hR => ?_) (fun v H5 hC => ?_)
      · walk_at "sx"
        refine ⟨sz_ok (by omega), fun p np => ?_⟩
        have ep := Ex.new np (o := .lst [V.ref s, V.ref g])
        exact reprGL upd_same ((gn4.ex ep).at) (.inl (.inl (ep _ _ hg4))) n2 (site_small ok) (by omega) l12' (hR _ _ ⟨rfl, ep⟩)
      obtain ⟨rfl, e5⟩ := hC
      simp only [List.set_cons_zero, List.set_cons_succ]
      have e25 := e24.trans e5
      have hg5 := e25 _ _ hg
      have gn5 := gn2.ex e25
      have due : ∀ {H9 : Hp}, Ex H5 H9 → GridAt H9 d (wo G L) := fun {H9} e => (g4.ex (e5.trans e)).at
      -- the attempts
      refine seq_cut (fun σ' H6 => ∃ l7 l9 l10 l13, σ' = [some (.ref b), some (.int mo), some (.ref s), some (.int (0 + (i : Int))), some (.ref g), some (.ref d), some (.str (dGL G L).shown), l7, l8, l9, l10, l11, l12'', l13, l14] ∧ Ex H5 H6) (fun N hN => ?_) (fun σ6 H6 hC => ?_)
      · walk_at "sx"
        refine ⟨by omega, by omega, ?_⟩
        refine lg_rng (JAt H5 [some (.ref b), some (.int mo), some (.ref s), some (.int (0 + (i : Int))), some (.ref g), some (.ref d), some (.str (dGL G L).shown), l7, l8, l9', l10', l11, l12'', l13, l14]) ⟨⟨_, _, _, _, rfl⟩, Ex.refl _⟩ (fun j σ' H6 hj hP => ?_) (fun σ' H6 hP => ?_)
        · obtain ⟨⟨l7, l9, l10, l13, rfl⟩, e6⟩ := hP
          simp only [x_gn, List.set_cons_zero, List.set_cons_succ]
          have hg6 := e6 _ _ hg5
          have gn6 := gn5.ex e6
          have wl := wo_len G L
          have wok := wo_ok ok L
          refine seq_asg (fun v H7 => ∃ f, v = .ref f ∧ Ex H6 H7 ∧ GridN H6 H7 f (wo G L)) (fun R hR => ?_) (fun v H7 hC => ?_)
          · walk_at "sx"
            exact ⟨s, g, G, L, rfl, gn6.at, ok, .inl (.inl hg6), nd, lt, fun r H' e gN => hR _ _ ⟨r, rfl, e, gN⟩⟩
          obtain ⟨f, rfl, e7, gf⟩ := hC
          simp only [List.set_cons_zero, List.set_cons_succ]
          refine seq_cut (fun σ' H8 => σ' = [some (.ref b), some (.int mo), some (.ref s), some (.int (0 + (i : Int))), some (.ref g), some (.ref d), some (.str (dGL G L).shown), some (.int (0 + (j : Int))), l8, l9, l10, l11, l12'', some (.ref f), l14] ∧ Ex H7 H8) (fun N hN => ?_) (fun σ8 H8 hC => ?_)
          · walk_at "sx"
            refine ⟨_, _, dG (wo G L), rfl, gf.at.dp, (due (e6.trans e7)).dp, si_G _ (by omega) (fun r hr => by have := (site_small wok r hr).1; omega), fun H8 e8 => ?_⟩
            walk_at "sx"
            refine ⟨sz_ok (by omega), fun p np => ?_⟩
            have ep := Ex.new np (o := .lst [V.ref s, V.ref g])
            have e28 := (e7.trans e8).trans ep
            refine reprGL upd_same ((gn6.ex e28).at) (.inl (.inl (e28 _ _ hg6))) n2 (site_small ok) (by omega) l12' ?_
            walk_at "sx"
            exact hN _ _ ⟨rfl, e8.trans ep⟩
          obtain ⟨rfl, e8⟩ := hC
          obtain ⟨nf, ps, hf, pl, pn, fps, hps⟩ := gf.ex e8
          have e68 := e7.trans e8
          refine seq_cut (fun σ' H9 => ∃ l9 l10, σ' = [some (.ref b), some (.int mo), some (.ref s), some (.int (0 + (i : Int))), some (.ref g), some (.ref d), some (.str (dGL G L).shown), some (.int (0 + (j : Int))), l8, l9, l10, l11, l12'', some (.ref f), l14] ∧ Ex H6 H9 ∧ ApAt H6 H9 f (wo G L) ps G.length) (fun N hN => ?_) (fun σ9 H9 hC => ?_)
          · walk_at "sx"
            refine ⟨_, .inl (.inl hf), ?_⟩
            refine lg_enum (xs := ps.map V.ref) (JAp H6 [some (.ref b), some (.int mo), some (.ref s), some (.int (0 + (i : Int))), some (.ref g), some (.ref d), some (.str (dGL G L).shown), some (.int (0 + (j : Int))), l8, l9, l10, l11, l12'', some (.ref f), l14] f (wo G L) ps) ⟨⟨_, _, rfl⟩, e68, hf, fun u p h => by rw [if_neg (by omega)]; exact (hps u p h).2⟩ (fun u σ' H' _ hP => .inl (.inl hP.2.2.1)) (fun u x σ' H9 T hx hP nT => ?_) (fun σ' H9 hP => ?_)
            · obtain ⟨⟨l9, l10, rfl⟩, e9, hf9, hrows⟩ := hP
              rw [List.getElem?_map] at hx
              obtain ⟨p, hp, rfl⟩ : ∃ p, ps[u]? = some p ∧ x = .ref p := by
                cases q : ps[u]? with
                | none => rw [q] at hx; cases hx
                | some p => rw [q] at hx; cases hx; exact ⟨p, rfl, rfl⟩
              have hu := (List.getElem?_eq_some_iff.mp hp).1
              refine g_two upd_same ?_
              have eT := Ex.new nT (o := .tup [V.int u, V.ref p])
              simp only [List.set_cons_zero, List.set_cons_succ]
              have hpu := hrows u p hp
              rw [if_neg (by omega)] at hpu
              have hpT := eT _ _ hpu
              walk_at "sx"
              refine ⟨tyL hpT, appL hpT (BC.sz_lt (by rw [List.length_map, nz_len]; have := wok.rlen u; omega)) ?_⟩
              have nfp : f ≠ p := fun e => fps (e ▸ List.mem_of_getElem? hp)
              refine ⟨⟨_, _, rfl⟩, (e9.trans eT).mut (hps u p hp).1, by rw [upd_ne nfp]; exact eT _ _ hf9, fun v q hq => ?_⟩
              by_cases evu : v = u
              · subst evu
                rw [hp] at hq
                obtain rfl := Option.some.inj hq
                rw [upd_same, if_pos (by omega)]
              · have nqp : q ≠ p := fun e => by
                  subst e
                  exact evu (nd_at pn hq hp)
                have := eT _ _ (hrows v q hq)
                rw [upd_ne nqp, this]
                by_cases hv : v < u
                · rw [if_pos hv, if_pos (by omega)]
                · rw [if_neg hv, if_neg (by omega)]
            · obtain ⟨⟨l9, l10, rfl⟩, e9, ap⟩ := hP
              rw [List.length_map, pl, wl] at ap
              exact hN _ _ ⟨_, _, rfl, e9, ap⟩
          obtain ⟨l9, l10, rfl, e9, hf9, hrows⟩ := hC
          walk_at "sx"
          refine ⟨⟨_, .inl (.inl hf9)⟩, fun D nD => ?_⟩
          refine lc_list (xs := ps.map V.ref) (fun _ => true) (fun u => V.int ((u : Nat) : Int)) (.inl (.inl hf9)) nD (by rw [List.length_map]; omega) (fun u => rfl) (fun u x _ => tyes) (fun u x hx _ => ?_) (fun HA eA hD => ?_)
          · rw [List.getElem?_map] at hx
            obtain ⟨p, hp, rfl⟩ : ∃ p, ps[u]? = some p ∧ x = .ref p := by
              cases q : ps[u]? with
              | none => rw [q] at hx; cases hx
              | some p => rw [q] at hx; cases hx; exact ⟨p, rfl, rfl⟩
            have hu := (List.getElem?_eq_some_iff.mp hp).1
            have hpu := hrows u p hp
            rw [if_pos (by omega)] at hpu
            intro H3 e3 R hR
            walk_at "sx"
            refine ⟨_, rfl, ?_⟩
            refine ixL (.inl (.inl (e3 _ _ hpu))) (atI_last ?_) (hR _ (Ex.refl _))
            rw [List.length_append, List.length_singleton, Nat.add_sub_cancel, List.getElem?_append_right (Nat.le_refl _), Nat.sub_self]
            rfl
          · rw [List.length_map, pl, wl, kept_rng, List.filter_eq_self.mpr (fun _ _ => rfl)] at hD
            obtain ⟨xs, hs, hl, _⟩ := (gn5.ex ((e6.trans e9).trans eA)).at.lst
            refine lenL (.inl (.inl hs)) ?_
            rw [hl]
            refine ⟨_, rfl, .of_le (by omega) (by omega) (by omega) (by omega), fun q nq => ?_⟩
            have eq1 := Ex.new nq (o := .lst (rgV 0 ((G.length : Nat) : Int)))
            refine neInts (.inl (.inl (eq1 _ _ hD))) (ms := nz (List.range G.length)) (.inl (.inl ?_)) ?_
            · rw [upd_same, rgV_ints, show (((G.length : Nat) : Int) - 0).toNat = G.length by omega, show ((List.range G.length).map fun i => (0 : Int) + ((i : Nat) : Int)) = nz (List.range G.length) from List.map_congr_left fun i _ => by omega]
            · rw [decide_eq_true rfl]
              walk_at "sx"
              exact ⟨⟨_, _, _, _, rfl⟩, ((e6.trans e9).trans eA).trans eq1⟩
        · obtain ⟨⟨l7, l9, l10, l13, rfl⟩, e6⟩ := hP
          exact hN _ _ ⟨_, _, _, _, rfl, e6⟩
      obtain ⟨l7', l9'', l10'', l13', rfl, e26⟩ := hC
      have hg6 := e26 _ _ hg5
      have gn6 := gn5.ex e26
      -- one page after another
      refine seq_asg (fun v H7 => v = .ref s ∧ H7 = H6) (fun R hR => ?_) (fun v H7 hC => ?_)
      · walk_at "sx"
        exact hR _ _ ⟨rfl, rfl⟩
      obtain ⟨rfl, rfl⟩ := hC
      simp only [List.set_cons_zero, List.set_cons_succ]
      refine seq_cut (fun σ' H8 => ∃ h l9, σ' = [some (.ref b), some (.int mo), some (.ref s), some (.int (0 + (i : Int))), some (.ref g), some (.ref d), some (.str (dGL G L).shown), l7', some (.ref h), l9, l10'', l11, l12'', l13', l14] ∧ GridAt H8 h (wo G L) ∧ Ex H7 H8) (fun N hN => ?_) (fun σ8 H8 hC => ?_)
      · walk_at "sx"
        refine ⟨⟨_, .inl (.inl hg6)⟩, ?_⟩
        refine lg_list (xs := (nz L).map V.int) (JHe H7 [some (.ref b), some (.int mo), some (.ref s), some (.int (0 + (i : Int))), some (.ref g), some (.ref d), some (.str (dGL G L).shown), l7', some (.ref s), l9'', l10'', l11, l12'', l13', l14] G L) ⟨⟨s, _, rfl, by rw [List.take_zero, wo_nil]; exact gn6.at⟩, Ex.refl _⟩ (fun u σ' H' _ hP => .inl (.inl (hP.2 _ _ hg6))) (fun u x σ' H8 hx hP => ?_) (fun σ' H8 hP => ?_)
        · obtain ⟨⟨h, l9, rfl, gh⟩, e8⟩ := hP
          obtain ⟨x, hx', rfl⟩ := at_nz hx
          have xl := lt x (List.mem_of_getElem? hx')
          simp only [x_gn, List.set_cons_zero, List.set_cons_succ]
          have okt := wo_ok ok (L.take u)
          have hts : L.take (u + 1) = L.take u ++ [x] := by rw [List.take_add_one, hx']; rfl
          refine seq_asg (fun v H9 => ∃ h2, v = .ref h2 ∧ Ex H8 H9 ∧ GridAt H9 h2 (wo G (L.take (u + 1)))) (fun R hR => ?_) (fun v H9 hC => ?_)
          · walk_at "sx"
            refine ⟨sz_ok (by omega), fun z nz1 => ?_⟩
            have ez := Ex.new nz1 (o := .lst [V.int x])
            refine ⟨h, z, wo G (L.take u), [x], rfl, gh.ex ez, okt, .inl (.inl upd_same), (by simp), fun y hy => by rw [List.mem_singleton.mp hy, wo_len]; exact xl, fun r H9 e9 gr => ?_⟩
            have := gr.at
            rw [wo_wo, ← hts] at this
            exact hR _ _ ⟨r, rfl, ez.trans e9, this⟩
          obtain ⟨h2, rfl, e9, gh2⟩ := hC
          have xin : x ∈ L.take (u + 1) := by rw [hts]; exact List.mem_append_right _ List.mem_cons_self
          have okt2 := wo_ok ok (L.take (u + 1))
          have wl2 := wo_len G (L.take (u + 1))
          walk_at "sx"
          refine ⟨h2, _, x, rfl, gh2, okt2, by omega, by rw [wo_row xl]; unfold wor; rw [if_pos xin], fun r HA nr eA hr => ?_⟩
          refine ⟨sz_ok (by omega), fun z nz1 => ?_⟩
          have ez := Ex.new nz1 (o := .lst [V.int x])
          refine neInts (ms := nz [x]) (.inl (.inl (ez _ _ hr))) (.inl (.inl upd_same)) ?_
          rw [decide_eq_true rfl]
          walk_at "sx"
          refine ⟨h2, _, x, rfl, gh2.ex (eA.trans ez), okt2, by omega, fun r2 HB nr2 eB hr2 => ?_⟩
          refine ⟨sz_ok (by omega), fun z2 nz2 => ?_⟩
          have ez2 := Ex.new nz2 (o := .lst [])
          refine neInts (ms := []) (.inl (.inl (ez2 _ _ hr2))) (.inl (.inl upd_same)) ?_
          rw [decide_eq_true (show nz (into (wo G (L.take (u + 1))) x) = [] by rw [into_gone xin]; rfl)]
          walk_at "sx"
          exact ⟨⟨h2, _, rfl, gh2.ex (((eA.trans ez).trans eB).trans ez2)⟩, e8.trans (e9.trans (((eA.trans ez).trans eB).trans ez2))⟩
        · obtain ⟨⟨h, l9, rfl, gh⟩, e8⟩ := hP
          rw [List.length_map, nz_len, List.take_of_length_le (Nat.le_refl _)] at gh
          exact hN _ _ ⟨h, _, rfl, gh, e8⟩
      obtain ⟨h, l9z, rfl, gh, e8⟩ := hC
      have e58 := e26.trans e8
      have hg8 := e58 _ _ hg5
      have gn8 := gn5.ex e58
      refine seq_cut (fun σ' H9 => σ' = [some (.ref b), some (.int mo), some (.ref s), some (.int (0 + (i : Int))), some (.ref g), some (.ref d), some (.str (dGL G L).shown), l7', some (.ref h), l9z, l10'', l11, l12'', l13', l14] ∧ Ex H8 H9) (fun N hN => ?_) (fun σ9 H9 hC => ?_)
      · walk_at "sx"
        refine neGrid gh (due e58) ?_
        rw [decide_eq_true rfl]
        walk_at "sx"
        refine ⟨_, .inl (.inl hg8), fun z nz1 => ?_⟩
        have ez := Ex.new nz1 (o := .lst ((nz L).map V.int).reverse)
        refine ⟨s, z, G, L.reverse, rfl, gn8.at.ex ez, ok, .inl (.inl (by rw [upd_same, ← List.map_reverse]; unfold nz; rw [← List.map_reverse])), (List.reverse_perm L).nodup_iff.mpr nd, fun x hx => lt x (List.mem_reverse.mp hx), fun r H9 e9 gr => ?_⟩
        refine neGrid gr.at (due ((e58.trans ez).trans e9)) ?_
        rw [decide_eq_true (wo_same fun x => List.mem_reverse)]
        walk_at "sx"
        exact hN _ _ ⟨rfl, ez.trans e9⟩
      obtain ⟨rfl, e9⟩ := hC
      have e59 := e58.trans e9
      have b9 := (b2.ex e25).ex e59
      have gn9 := gn5.ex e59
      -- a walk
      refine seq_asg (fun v HA => ∃ r W, v = .ref r ∧ Fx b H9 HA ∧ BagAt HA b (2000 + 100 * i + 40) ∧ HA r = some (.lst ((nz W).map V.int)) ∧ W ≠ [] ∧ linked G W = true ∧ (∀ x ∈ W, x < G.length) ∧ W.length ≤ 6) (fun R hR => ?_) (fun v HA hC => ?_)
      · walk_at "sx"
        refine ⟨b, _, _, rfl, by omega, big_of (by omega), b9, by omega, fun r HA r0 r1 fA bA => ?_⟩
        walk_at "sx"
        refine ⟨b, s, G, (1 + r).toNat, _, H, by rw [Int.toNat_of_nonneg (by omega)], gn9.nw (Nw.fx hob fA), ⟨ob, hob⟩, ok, by omega, by omega, bA, by omega, fun q W HB nq fB bB hW ne lk lw lW => ?_⟩
        exact hR _ _ ⟨q, W, rfl, fA.trans fB, bB.mono (by omega), hW, ne, lk, lw, by omega⟩
      obtain ⟨r, W, rfl, fA, bA, hW, Wne, Wlk, Wlt, Wl⟩ := hC
      have gnA := gn9.nw (Nw.fx hob fA)
      have dueA : GridAt HA d (wo G L) := by
        have q : GridN H H9 d (wo G L) := (g4.ex (e5.trans e59)).lower (fx.trans f2) b2.some
        exact (q.nw (Nw.fx hob fA)).at
      have hgA := fA _ _ ngb (e59 _ _ hg5)
      simp only [List.set_cons_zero, List.set_cons_succ]
      refine seq_asg (fun v HB => v = .bl (linked (wo G L) W) ∧ Ex HA HB) (fun R hR => ?_) (fun v HB hC => ?_)
      · rw [free_eq Wlk Wlt Wne] at hR
        walk_at "sx"
        refine lenL (.inl (.inl hW)) ?_
        rw [List.length_map, nz_len]
        refine x_eqI.mpr ⟨_, rfl, ?_⟩
        by_cases c1 : W.length = 1
        · rw [decide_eq_true c1, Bool.true_or] at hR
          rw [decide_eq_true (show ((W.length : Nat) : Int) = 1 by omega), if_pos rfl]
          exact hR _ _ ⟨rfl, Ex.refl _⟩
        · rw [decide_eq_false c1, Bool.false_or] at hR
          rw [decide_eq_false (show ¬ ((W.length : Nat) : Int) = 1 by omega), if_neg (by decide)]
          refine ⟨⟨_, .inl (.inl hW)⟩, fun D nD => ?_⟩
          refine lc_list (xs := (nz W).map V.int) (fun u => decide (W.getD u 0 ∈ L)) (fun u => V.int ((W.getD u 0 : Nat) : Int)) (.inl (.inl hW)) nD (by rw [List.length_map, nz_len]; omega) (fun u => rfl) (fun u x hx => ?_) (fun u x hx _ => ?_) (fun HB eB hD => ?_)
          · obtain ⟨x, hx', rfl⟩ := at_nz hx
            intro H3 e3 R2 hR2
            walk_at "sx"
            refine ⟨_, rfl, _, rfl, ?_⟩
            refine inL (.inl (.inl (e3 _ _ hgA))) ⟨_, rfl, ?_⟩
            rw [dec_nz]
            rw [List.getD_eq_getElem?_getD, hx'] at hR2
            exact hR2 _ (Ex.refl _)
          · obtain ⟨x, hx', rfl⟩ := at_nz hx
            refine ev_is (ev_var rfl) ?_
            rw [List.getD_eq_getElem?_getD, hx']
            rfl
          · rw [List.length_map, nz_len, kept_nz W (fun x => decide (x ∈ L))] at hD
            refine ⟨sz_ok (by omega), fun z nz1 => ?_⟩
            have ez := Ex.new nz1 (o := .lst [])
            refine eqInts (ms := []) (.inl (.inl (ez _ _ hD))) (.inl (.inl upd_same)) ?_
            have de : decide (nz (W.filter fun x => decide (x ∈ L)) = []) = decide (W.filter (fun x => decide (x ∈ L)) = []) := by
              by_cases z : W.filter (fun x => decide (x ∈ L)) = []
              · rw [decide_eq_true z, decide_eq_true (by rw [z]; rfl)]
              · rw [decide_eq_false z, decide_eq_false (fun e => z (by unfold nz at e; exact List.map_eq_nil_iff.mp e))]
            rw [de]
            exact hR _ _ ⟨rfl, eB.trans ez⟩
      obtain ⟨rfl, eB⟩ := hC
      simp only [List.set_cons_zero, List.set_cons_succ]
      walk_at "sx"
      refine ⟨d, r, wo G L, W, rfl, dueA.ex eB, wo_ok ok L, .inl (.inl (eB _ _ hW)), Wne, fun x hx => by rw [wo_len]; exact Wlt x hx, by omega, fun HC eC => ?_⟩
      refine x_neB.mpr ?_
      rw [decide_eq_true rfl]
      walk_at "sx"
      have eAC := eB.trans eC
      exact ⟨_, _, _, _, _, _, _, _, _, _, _, _, rfl, (((fx.trans f2).trans (Fx.of (e25.trans e59))).trans fA).trans (Fx.of eAC), (bA.ex eAC).mono (by omega), gnA.ex eAC⟩
    · obtain ⟨l3, l4, l5, l6, l7, l8, l9, l10, l11, l12, l13, l14, rfl, fx, hb, gn⟩ := hP
      walk_at "sx"
      refine ⟨sz_ok (by omega), fun z nz1 => ?_⟩
      have ez := Ex.new nz1 (o := .lst [])
      refine ⟨s, z, G, [], rfl, gn.at.ex ez, ok, .inl (.inl upd_same), List.nodup_nil, fun x hx => (List.not_mem_nil hx).elim, fun r H1 e1 gr => ?_⟩
      have gr1 := gr.at
      rw [wo_nil] at gr1
      refine eqGrid gr1 (gn.at.ex (ez.trans e1)) ?_
      rw [decide_eq_true rfl]
      walk_at "sx"
      refine ⟨sz_ok (by omega), fun p np => ⟨sz_ok (by omega), fun q nq => ⟨sz_ok (by omega), fun t nt => ⟨sz_ok (by omega), fun u nu => ?_⟩⟩⟩⟩
      have x1 := Ex.new np (o := .lst [V.int 1])
      have x2 := Ex.new nq (o := .lst [V.int 0])
      have x3 := Ex.new nt (o := .lst [V.ref p, V.ref q])
      have x4 := Ex.new nu (o := .lst [V.int 1])
      have ok2 : SiteOk [[1], [0]] := ⟨by decide, by decide, fun i r e => ?_, fun i r e => ?_, fun i r e => ?_⟩
      · refine ⟨t, u, [[1], [0]], [1], rfl, ⟨[p, q], x4 _ _ upd_same, rfl, fun i a e => ?_⟩, ok2, .inl (.inl upd_same), by simp, fun x hx => by rw [List.mem_singleton.mp hx]; decide, fun v H5 e5 gv => ?_⟩
        · match i, e with
          | 0, e => cases e; exact (x2.trans (x3.trans x4)) _ _ upd_same
          | 1, e => cases e; exact (x3.trans x4) _ _ upd_same
          | i + 2, e => simp at e
        · refine ⟨sz_ok (by omega), fun y1 ny1 => ⟨sz_ok (by omega), fun y2 ny2 => ⟨sz_ok (by omega), fun y3 ny3 => ?_⟩⟩⟩
          have w1 := Ex.new ny1 (o := .lst [])
          have w2 := Ex.new ny2 (o := .lst [])
          have w3 := Ex.new ny3 (o := .lst [V.ref y1, V.ref y2])
          refine eqGrid (gv.at.ex ((w1.trans w2).trans w3)) (G := [[], []]) ⟨[y1, y2], upd_same, rfl, fun i a e => ?_⟩ ?_
          · match i, e with
            | 0, e => cases e; exact (w2.trans w3) _ _ upd_same
            | 1, e => cases e; exact w3 _ _ upd_same
            | i + 2, e => simp at e
          · rw [decide_eq_true (show wo [[1], [0]] [1] = [[], []] by decide)]
            exact k _ (fx.trans (Fx.of (((ez.trans e1).trans (((x1.trans x2).trans x3).trans x4)).trans (e5.trans ((w1.trans w2).trans w3)))))
      all_goals match i, e with
        | 0, e => cases e; decide
        | 1, e => cases e; decide
        | i + 2, e => simp at e
end
end LW

set_option Elab.async false
set_option linter.all false
set_option maxRecDepth 100000
set_option maxHeartbeats 4000000
namespace LW
open PySem PySem.Spec PyProof.Rows L2 BC Evl TR
local macro_rules | `(tactic| walk_at "sx") => `(tactic| try simp only [x_seq, x_next, x_brk, x_cnt, x_nev, x_ret, x_retN, x_drop, x_ifS, x_asg, x_gn, x_gsub, x_par, x_par3, x_aug, x_for, x_lc, x_rng1, x_rng2, x_rng3, x_ilist, x_itup, x_ienum, x_izip, x_izipA, x_istr, x_var, x_c, x_op, x_un, x_test, x_b, x_chain, x_and, x_or, x_not, x_andV, x_orV, x_notV, x_ife, x_nil, x_cons, x_lst, x_tup, x_cb, x_call, x_callK, x_bm, x_bm0, x_tru, x_sl, x_nopart, x_part, x_revL, x_I0, x_I, x_U, x_ip, x_ipC, x_eqI, x_neI, x_eqB, x_neB, x_eqS, x_neS, x_isB, x_isNB, x_lrg, x_gall, x_lenSet, x_sortSet, x_rg1, x_rg2,
  L2.start, List.map_cons, List.map_nil, List.length_cons, List.length_nil, Nat.reduceAdd, Nat.reduceSub, Nat.sub_self, Nat.zero_add, List.replicate, List.replicate_succ, List.replicate_zero, List.append_nil, List.cons_append, List.nil_append, List.set_cons_zero, List.set_cons_succ, List.getElem?_cons_zero, List.getElem?_cons_succ, Option.some.injEq, V.int.injEq, V.bl.injEq, V.ref.injEq, V.str.injEq, List.cons.injEq, and_true, true_and, exists_eq_left', exists_eq_left, exists_and_left, exists_eq, if_true, if_false, ite_true, ite_false, Bool.true_eq_false, Bool.false_eq_true, reduceIte, reduceCtorEq, Bool.not_true, Bool.not_false, decide_true, decide_false, decide_eq_true_eq, Bool.and_true, Bool.true_and, Bool.and_self, Bool.and_false, Bool.false_and, Bool.or_self, Bool.or_false, Bool.false_or, Bool.or_true, Bool.true_or, eq_self])

section
variable {P : Program} {w : World} {K : PySem.W.Frag} {mg : Str → Option Value} {base : Heap}
def spLaw (K : PySem.W.Frag) : Sp := fun vs H Q _ => ∃ (a : Addr) (ns : List Int), vs = [.ref a] ∧ SqL K H a (ns.map V.int) ∧ ns.length ≤ 63 ∧ ∀ H', Q (.bl true) H'
def JO (H1 : Hp) (a : Addr) (i : Nat) (σ' : L2.St) (H' : Hp) : Prop := ∃ l1 l2, σ' = [some (.ref a), l1, l2] ∧ Ex H1 H'
theorem ok_law (T : Txt K mg) : FnG P w K mg base CX0 7 T.f_law T.fd_law ["_law_script"] (spLaw K) := by
  refine fun_okN T.F_law sc_law (fun vs H Q E h => ?_) (fun cdv A outer s H vs Q E hG hr h => ?_)
  · obtain ⟨a, ns, rfl, _⟩ := h
    rfl
  · obtain ⟨a, ns, rfl, hA, hn, k⟩ := h
    apply Exists.intro
    apply And.intro
    · apply pss_cons
      · apply ps_for PassesOwn.never rfl
        · exact (k_pi_enum (K := K) rfl (by rfl) T.n_enumerate (pa_cons (pe_slice (k_sl_list (K := K) rfl) (pe_op (k_catS (K := K) rfl) (pv 0) (pe_lst (pa_cons pe_int pa_nil))) po_none (po_some (pe_callB (call_max2 rfl) (by rfl) T.n_max (by decide +kernel) (pa_cons pe_int (pa_cons (pe_callB (call_min2 rfl) (by rfl) T.n_min (by decide +kernel) (pa_cons (pe_callB (k_len (K := K) rfl) (by rfl) T.n_len PySem.boot_len (pa_cons (pv 0) pa_nil)) (pa_cons pe_int pa_nil))) pa_nil))))) pa_nil))
        · exact (k_tup (K := K) (n := 2) rfl rfl (pgs_cons (pg_name (i := 1) sc_law.nd rfl (.inl rfl)) (pgs_cons (pg_name (i := 2) sc_law.nd rfl (.inl rfl)) pgs_nil)))
        · apply pss_one
          apply ps_if
          · exact (pt_not (pt_val (pe_callG (ok_law_holds T) hG (hr.mono (by decide)) (by rfl) T.m_law_holds T.F_law_holds.kp T.b_law_holds .nil pass0 (pa_cons (pe_call (ok_law_source T) (hr.mono (by decide)) (by rfl) T.m_law_source T.F_law_source.kp T.b_law_source .nil pass0 (pa_cons (pv 2) (pa_cons (pv 1) pa_nil))) (pa_cons (pe_ifExp (pt_cmpR (k_eqD (K := K) rfl hr.units) (pv 0) (pe_lst pa_nil) (by rfl)) pe_int pe_int) pa_nil)))))
          · apply pss_one
            exact (ps_ret pe_bl)
          · exact pss_nil
      apply pss_one
      exact (ps_ret pe_bl)
    walk_at "sx"
    refine ⟨sz_ok (by omega), fun z nz => ?_⟩
    have ez := Ex.new nz (o := .lst [V.int 0])
    refine catS (ex_l ez hA) (.inl (.inl upd_same)) (sz_ok (by rw [List.length_map, List.length_singleton]; omega)) fun c nc => ?_
    have ec := Ex.new nc (o := .lst (ns.map V.int ++ [V.int 0]))
    have hA2 := ex_l (ez.trans ec) hA
    refine lenL hA2 ?_
    rw [List.length_map]
    refine ⟨_, _, ⟨rfl, rfl⟩, _, _, ⟨rfl, rfl⟩, ?_⟩
    refine slL (.inl (.inl upd_same)) fun L nL => ?_
    have hmem : ∀ x ∈ cutV (ns.map V.int ++ [V.int 0]) none (some (if (if (16 : Int) < ((ns.length : Nat) : Int) then (16 : Int) else ((ns.length : Nat) : Int)) > 1 then (if (16 : Int) < ((ns.length : Nat) : Int) then (16 : Int) else ((ns.length : Nat) : Int)) else 1)), ∃ n, x = V.int n := fun x hx => by
      rcases List.mem_append.mp (cutV_mem hx) with h | h
      · obtain ⟨n, _, e⟩ := List.mem_map.mp h
        exact ⟨n, e.symm⟩
      · exact ⟨0, List.mem_singleton.mp h⟩
    have hlen := cutV_len (ns.map V.int ++ [V.int 0]) none (some (if (if (16 : Int) < ((ns.length : Nat) : Int) then (16 : Int) else ((ns.length : Nat) : Int)) > 1 then (if (16 : Int) < ((ns.length : Nat) : Int) then (16 : Int) else ((ns.length : Nat) : Int)) else 1))
    rw [List.length_append, List.length_map, List.length_singleton] at hlen
    generalize (cutV (ns.map V.int ++ [V.int 0]) none (some (if (if (16 : Int) < ((ns.length : Nat) : Int) then (16 : Int) else ((ns.length : Nat) : Int)) > 1 then (if (16 : Int) < ((ns.length : Nat) : Int) then (16 : Int) else ((ns.length : Nat) : Int)) else 1))) = xs at hmem hlen ⊢
    have eL := Ex.new nL (o := .lst xs)
    have hL : (upd (upd (upd H z (.lst [V.int 0])) c (.lst (ns.map V.int ++ [V.int 0]))) L (.lst xs)) L = some (.lst xs) := upd_same
    have hA3 := ex_l eL hA2
    generalize (upd (upd (upd H z (.lst [V.int 0])) c (.lst (ns.map V.int ++ [V.int 0]))) L (.lst xs)) = H1 at hL hA3 ⊢
    refine ⟨L, rfl, xs, .inl (.inl hL), ?_⟩
    refine lg_enum (xs := xs) (JO H1 a) ⟨none, none, rfl, Ex.refl H1⟩ (fun i σ' H' hi hP => by obtain ⟨_, _, _, e⟩ := hP; exact .inl (.inl (e _ _ hL)))
      (fun i x σ' H' T hx hP nT => ?_) (fun σ' H' hP => ?_)
    · obtain ⟨l1, l2, rfl, e⟩ := hP
      obtain ⟨n, rfl⟩ := hmem x (List.mem_of_getElem? hx)
      have hi := (List.getElem?_eq_some_iff.mp hx).1
      refine g_two upd_same ?_
      have eT := Ex.new nT (o := .tup [V.int i, V.int n])
      simp only [List.set_cons_zero, List.set_cons_succ]
      walk_at "sx"
      refine ⟨n, i, rfl, by omega, fun b H2 nb e2 hb => ?_⟩
      have nbH : H' b = none := fresh_back eT nb
      have e12 := (e.trans eT).trans e2
      refine ⟨sz_ok (by omega), fun z nz => ?_⟩
      have ez := Ex.new nz (o := .lst [])
      refine eqInts (ms := []) (ex_l (e12.trans ez) hA3) (.inl (.inl upd_same)) ?_
      have fin : ∀ mo : Nat, 1 ≤ mo → mo ≤ 12 → spHolds [.ref b, .int mo] (upd H2 z (.lst [])) (fun x H3 => ∃ k, x = V.bl k ∧ (if (!k) = true then Q (.bl false) H3 else JO H1 a (i + 1) [some (.ref a), some (.int i), some (.int n)] H3)) E0 := fun mo h1 h2 => by
        refine ⟨b, mo, 0, rfl, h1, h2, hb.ex ez, by omega, fun H3 f3 => ⟨true, rfl, ?_⟩⟩
        rw [if_neg (by decide)]
        exact ⟨_, _, rfl, e.trans (((Fx.of (eT.trans e2)).trans ((Fx.of ez).trans f3)).ex nbH)⟩
      refine ⟨_, rfl, ?_⟩
      cases decide (ns = [])
      · rw [if_neg (by decide)]
        exact fin 12 (by omega) (by omega)
      · rw [if_pos rfl]
        exact fin 4 (by omega) (by omega)
    · obtain ⟨l1, l2, rfl, e⟩ := hP
      walk_at "sx"
      exact k _
end
end LW

set_option Elab.async false
set_option linter.all false
set_option maxRecDepth 100000
set_option maxHeartbeats 4000000
namespace LW
open PySem PySem.Spec PyProof.Rows L2 BC Evl TR
theorem all_mk {l : PySem.W.OpenLaw} {w : World} {K : PySem.W.Frag} {h : Heap} {mg : Str → Option Value} {fa : Addr} (X : K.In h) (G : h.Ns mainGlobals mg) (hfa : mg "law" = some (.ref fa))
    {f0 : Addr} {od0 an0 : Option Addr} {sl0 : Array (Option Value)} {oc0 kV0 dc0 pm0 cd0 ct0 : Value}
    {f1 : Addr} {od1 an1 : Option Addr} {sl1 : Array (Option Value)} {oc1 kV1 dc1 pm1 cd1 ct1 : Value}
    {f2 : Addr} {od2 an2 : Option Addr} {sl2 : Array (Option Value)} {oc2 kV2 dc2 pm2 cd2 ct2 : Value}
    {f3 : Addr} {od3 an3 : Option Addr} {sl3 : Array (Option Value)} {oc3 kV3 dc3 pm3 cd3 ct3 : Value}
    {f4 : Addr} {od4 an4 : Option Addr} {sl4 : Array (Option Value)} {oc4 kV4 dc4 pm4 cd4 ct4 : Value}
    {f5 : Addr} {od5 an5 : Option Addr} {sl5 : Array (Option Value)} {oc5 kV5 dc5 pm5 cd5 ct5 : Value}
    {f6 : Addr} {od6 an6 : Option Addr} {sl6 : Array (Option Value)} {oc6 kV6 dc6 pm6 cd6 ct6 : Value}
    {f7 : Addr} {od7 an7 : Option Addr} {sl7 : Array (Option Value)} {oc7 kV7 dc7 pm7 cd7 ct7 : Value}
    {f8 : Addr} {od8 an8 : Option Addr} {sl8 : Array (Option Value)} {oc8 kV8 dc8 pm8 cd8 ct8 : Value}
    {f9 : Addr} {od9 an9 : Option Addr} {sl9 : Array (Option Value)} {oc9 kV9 dc9 pm9 cd9 ct9 : Value}
    {f10 : Addr} {od10 an10 : Option Addr} {sl10 : Array (Option Value)} {oc10 kV10 dc10 pm10 cd10 ct10 : Value}
    {f11 : Addr} {od11 an11 : Option Addr} {sl11 : Array (Option Value)} {oc11 kV11 dc11 pm11 cd11 ct11 : Value}
    {f12 : Addr} {od12 an12 : Option Addr} {sl12 : Array (Option Value)} {oc12 kV12 dc12 pm12 cd12 ct12 : Value}
    {f13 : Addr} {od13 an13 : Option Addr} {sl13 : Array (Option Value)} {oc13 kV13 dc13 pm13 cd13 ct13 : Value}
    {f14 : Addr} {od14 an14 : Option Addr} {sl14 : Array (Option Value)} {oc14 kV14 dc14 pm14 cd14 ct14 : Value}
    {f15 : Addr} {od15 an15 : Option Addr} {sl15 : Array (Option Value)} {oc15 kV15 dc15 pm15 cd15 ct15 : Value}
    {f16 : Addr} {od16 an16 : Option Addr} {sl16 : Array (Option Value)} {oc16 kV16 dc16 pm16 cd16 ct16 : Value}
    {f17 : Addr} {od17 an17 : Option Addr} {sl17 : Array (Option Value)} {oc17 kV17 dc17 pm17 cd17 ct17 : Value}
    {f18 : Addr} {od18 an18 : Option Addr} {sl18 : Array (Option Value)} {oc18 kV18 dc18 pm18 cd18 ct18 : Value}
    {f19 : Addr} {od19 an19 : Option Addr} {sl19 : Array (Option Value)} {oc19 kV19 dc19 pm19 cd19 ct19 : Value}
    {tt_MOST_PAGES : Tok}
    {tt_MOST_STEPS : Tok}
    (a0 : PySem.W.nsIn K mainGlobals "is_integer" = some (some (.ref f0))) (l0 : K.lookup f0 = some ⟨oc0, od0, .func (PySem.W.fnOf "is_integer" "is_integer" (defArgs s_is_integer) (defBody s_is_integer) (defScope s_is_integer) .none kV0 dc0 pm0 an0 cd0 ct0), sl0⟩) (c0 : PySem.W.codeIn K cd0 "is_integer" = true) (k0 : PySem.W.keepIn K (.ref f0) = true)
    (a1 : PySem.W.nsIn K mainGlobals "is_row" = some (some (.ref f1))) (l1 : K.lookup f1 = some ⟨oc1, od1, .func (PySem.W.fnOf "is_row" "is_row" (defArgs s_is_row) (defBody s_is_row) (defScope s_is_row) .none kV1 dc1 pm1 an1 cd1 ct1), sl1⟩) (c1 : PySem.W.codeIn K cd1 "is_row" = true) (k1 : PySem.W.keepIn K (.ref f1) = true)
    (a2 : PySem.W.nsIn K mainGlobals "is_site" = some (some (.ref f2))) (l2 : K.lookup f2 = some ⟨oc2, od2, .func (PySem.W.fnOf "is_site" "is_site" (defArgs s_is_site) (defBody s_is_site) (defScope s_is_site) .none kV2 dc2 pm2 an2 cd2 ct2), sl2⟩) (c2 : PySem.W.codeIn K cd2 "is_site" = true) (k2 : PySem.W.keepIn K (.ref f2) = true)
    (a3 : PySem.W.nsIn K mainGlobals "check_site" = some (some (.ref f3))) (l3 : K.lookup f3 = some ⟨oc3, od3, .func (PySem.W.fnOf "check_site" "check_site" (defArgs s_check_site) (defBody s_check_site) (defScope s_check_site) .none kV3 dc3 pm3 an3 cd3 ct3), sl3⟩) (c3 : PySem.W.codeIn K cd3 "check_site" = true) (k3 : PySem.W.keepIn K (.ref f3) = true)
    (a4 : PySem.W.nsIn K mainGlobals "check_page" = some (some (.ref f4))) (l4 : K.lookup f4 = some ⟨oc4, od4, .func (PySem.W.fnOf "check_page" "check_page" (defArgs s_check_page) (defBody s_check_page) (defScope s_check_page) .none kV4 dc4 pm4 an4 cd4 ct4), sl4⟩) (c4 : PySem.W.codeIn K cd4 "check_page" = true) (k4 : PySem.W.keepIn K (.ref f4) = true)
    (a5 : PySem.W.nsIn K mainGlobals "check_pages" = some (some (.ref f5))) (l5 : K.lookup f5 = some ⟨oc5, od5, .func (PySem.W.fnOf "check_pages" "check_pages" (defArgs s_check_pages) (defBody s_check_pages) (defScope s_check_pages) .none kV5 dc5 pm5 an5 cd5 ct5), sl5⟩) (c5 : PySem.W.codeIn K cd5 "check_pages" = true) (k5 : PySem.W.keepIn K (.ref f5) = true)
    (a6 : PySem.W.nsIn K mainGlobals "is_linked_on" = some (some (.ref f6))) (l6 : K.lookup f6 = some ⟨oc6, od6, .func (PySem.W.fnOf "is_linked_on" "is_linked_on" (defArgs s_is_linked_on) (defBody s_is_linked_on) (defScope s_is_linked_on) .none kV6 dc6 pm6 an6 cd6 ct6), sl6⟩) (c6 : PySem.W.codeIn K cd6 "is_linked_on" = true) (k6 : PySem.W.keepIn K (.ref f6) = true)
    (a7 : PySem.W.nsIn K mainGlobals "is_walk_on" = some (some (.ref f7))) (l7 : K.lookup f7 = some ⟨oc7, od7, .func (PySem.W.fnOf "is_walk_on" "is_walk_on" (defArgs s_is_walk_on) (defBody s_is_walk_on) (defScope s_is_walk_on) .none kV7 dc7 pm7 an7 cd7 ct7), sl7⟩) (c7 : PySem.W.codeIn K cd7 "is_walk_on" = true) (k7 : PySem.W.keepIn K (.ref f7) = true)
    (a8 : PySem.W.nsIn K mainGlobals "is_walk" = some (some (.ref f8))) (l8 : K.lookup f8 = some ⟨oc8, od8, .func (PySem.W.fnOf "is_walk" "is_walk" (defArgs s_is_walk) (defBody s_is_walk) (defScope s_is_walk) .none kV8 dc8 pm8 an8 cd8 ct8), sl8⟩) (c8 : PySem.W.codeIn K cd8 "is_walk" = true) (k8 : PySem.W.keepIn K (.ref f8) = true)
    (a9 : PySem.W.nsIn K mainGlobals "links_into" = some (some (.ref f9))) (l9 : K.lookup f9 = some ⟨oc9, od9, .func (PySem.W.fnOf "links_into" "links_into" (defArgs s_links_into) (defBody s_links_into) (defScope s_links_into) .none kV9 dc9 pm9 an9 cd9 ct9), sl9⟩) (c9 : PySem.W.codeIn K cd9 "links_into" = true) (k9 : PySem.W.keepIn K (.ref f9) = true)
    (a10 : PySem.W.nsIn K mainGlobals "reached_from" = some (some (.ref f10))) (l10 : K.lookup f10 = some ⟨oc10, od10, .func (PySem.W.fnOf "reached_from" "reached_from" (defArgs s_reached_from) (defBody s_reached_from) (defScope s_reached_from) .none kV10 dc10 pm10 an10 cd10 ct10), sl10⟩) (c10 : PySem.W.codeIn K cd10 "reached_from" = true) (k10 : PySem.W.keepIn K (.ref f10) = true)
    (a11 : PySem.W.nsIn K mainGlobals "site_without" = some (some (.ref f11))) (l11 : K.lookup f11 = some ⟨oc11, od11, .func (PySem.W.fnOf "site_without" "site_without" (defArgs s_site_without) (defBody s_site_without) (defScope s_site_without) .none kV11 dc11 pm11 an11 cd11 ct11), sl11⟩) (c11 : PySem.W.codeIn K cd11 "site_without" = true) (k11 : PySem.W.keepIn K (.ref f11) = true)
    (a12 : PySem.W.nsIn K mainGlobals "_law_source" = some (some (.ref f12))) (l12 : K.lookup f12 = some ⟨oc12, od12, .func (PySem.W.fnOf "_law_source" "_law_source" (defArgs s_law_source) (defBody s_law_source) (defScope s_law_source) .none kV12 dc12 pm12 an12 cd12 ct12), sl12⟩) (c12 : PySem.W.codeIn K cd12 "_law_source" = true) (k12 : PySem.W.keepIn K (.ref f12) = true)
    (a13 : PySem.W.nsIn K mainGlobals "_law_draw" = some (some (.ref f13))) (l13 : K.lookup f13 = some ⟨oc13, od13, .func (PySem.W.fnOf "_law_draw" "_law_draw" (defArgs s_law_draw) (defBody s_law_draw) (defScope s_law_draw) .none kV13 dc13 pm13 an13 cd13 ct13), sl13⟩) (c13 : PySem.W.codeIn K cd13 "_law_draw" = true) (k13 : PySem.W.keepIn K (.ref f13) = true)
    (a14 : PySem.W.nsIn K mainGlobals "_law_net" = some (some (.ref f14))) (l14 : K.lookup f14 = some ⟨oc14, od14, .func (PySem.W.fnOf "_law_net" "_law_net" (defArgs s_law_net) (defBody s_law_net) (defScope s_law_net) .none kV14 dc14 pm14 an14 cd14 ct14), sl14⟩) (c14 : PySem.W.codeIn K cd14 "_law_net" = true) (k14 : PySem.W.keepIn K (.ref f14) = true)
    (a15 : PySem.W.nsIn K mainGlobals "_law_stroll" = some (some (.ref f15))) (l15 : K.lookup f15 = some ⟨oc15, od15, .func (PySem.W.fnOf "_law_stroll" "_law_stroll" (defArgs s_law_stroll) (defBody s_law_stroll) (defScope s_law_stroll) .none kV15 dc15 pm15 an15 cd15 ct15), sl15⟩) (c15 : PySem.W.codeIn K cd15 "_law_stroll" = true) (k15 : PySem.W.keepIn K (.ref f15) = true)
    (a16 : PySem.W.nsIn K mainGlobals "_law_some" = some (some (.ref f16))) (l16 : K.lookup f16 = some ⟨oc16, od16, .func (PySem.W.fnOf "_law_some" "_law_some" (defArgs s_law_some) (defBody s_law_some) (defScope s_law_some) .none kV16 dc16 pm16 an16 cd16 ct16), sl16⟩) (c16 : PySem.W.codeIn K cd16 "_law_some" = true) (k16 : PySem.W.keepIn K (.ref f16) = true)
    (a17 : PySem.W.nsIn K mainGlobals "_law_equal" = some (some (.ref f17))) (l17 : K.lookup f17 = some ⟨oc17, od17, .func (PySem.W.fnOf "_law_equal" "_law_equal" (defArgs s_law_equal) (defBody s_law_equal) (defScope s_law_equal) .none kV17 dc17 pm17 an17 cd17 ct17), sl17⟩) (c17 : PySem.W.codeIn K cd17 "_law_equal" = true) (k17 : PySem.W.keepIn K (.ref f17) = true)
    (a18 : PySem.W.nsIn K mainGlobals "_law_holds" = some (some (.ref f18))) (l18 : K.lookup f18 = some ⟨oc18, od18, .func (PySem.W.fnOf "_law_holds" "_law_holds" (defArgs s_law_holds) (defBody s_law_holds) (defScope s_law_holds) .none kV18 dc18 pm18 an18 cd18 ct18), sl18⟩) (c18 : PySem.W.codeIn K cd18 "_law_holds" = true) (k18 : PySem.W.keepIn K (.ref f18) = true)
    (a19 : PySem.W.nsIn K mainGlobals "law" = some (some (.ref f19))) (l19 : K.lookup f19 = some ⟨oc19, od19, .func (PySem.W.fnOf "law" "law" (defArgs s_law) (defBody s_law) (defScope s_law) .none kV19 dc19 pm19 an19 cd19 ct19), sl19⟩) (c19 : PySem.W.codeIn K cd19 "law" = true) (k19 : PySem.W.keepIn K (.ref f19) = true)
    (q_MOST_PAGES : PySem.W.nsIn K mainGlobals "MOST_PAGES" = some (some (.int 12 tt_MOST_PAGES)))
    (q_MOST_STEPS : PySem.W.nsIn K mainGlobals "MOST_STEPS" = some (some (.int 60 tt_MOST_STEPS)))
    (z_abs : PySem.W.nsIn K mainGlobals "abs" = some none)
    (z_all : PySem.W.nsIn K mainGlobals "all" = some none)
    (z_bool : PySem.W.nsIn K mainGlobals "bool" = some none)
    (z_enumerate : PySem.W.nsIn K mainGlobals "enumerate" = some none)
    (z_int : PySem.W.nsIn K mainGlobals "int" = some none)
    (z_isinstance : PySem.W.nsIn K mainGlobals "isinstance" = some none)
    (z_len : PySem.W.nsIn K mainGlobals "len" = some none)
    (z_list : PySem.W.nsIn K mainGlobals "list" = some none)
    (z_max : PySem.W.nsIn K mainGlobals "max" = some none)
    (z_min : PySem.W.nsIn K mainGlobals "min" = some none)
    (z_range : PySem.W.nsIn K mainGlobals "range" = some none)
    (z_repr : PySem.W.nsIn K mainGlobals "repr" = some none)
    (z_set : PySem.W.nsIn K mainGlobals "set" = some none)
    (z_sorted : PySem.W.nsIn K mainGlobals "sorted" = some none)
    (z_str : PySem.W.nsIn K mainGlobals "str" = some none)
    (z_tuple : PySem.W.nsIn K mainGlobals "tuple" = some none)
    (z_zip : PySem.W.nsIn K mainGlobals "zip" = some none) :
    ∃ fd : FuncData, (∀ (s : Shared) (v : Value), BindsTo s fd ⟨[v], []⟩ [("_law_script", v)]) ∧ ∀ base : Heap, K.In base → base.Ns mainGlobals mg → FnG l.prog w K mg base CX0 7 fa fd ["_law_script"] (spLaw K) := by
  have e := hfa.symm.trans (PySem.W.mg_of X G a19)
  cases e
  let T : Txt K mg := ⟨f0, _, fun_mk (st := s_is_integer) l0 c0 k0, PySem.W.mg_of X G a0, (fun_mk (st := s_is_integer) l0 c0 k0).binds fun _ _ _ _ _ _ us hl => match us, hl with | [_, _, _], _ => rfl,
    f1, _, fun_mk (st := s_is_row) l1 c1 k1, PySem.W.mg_of X G a1, (fun_mk (st := s_is_row) l1 c1 k1).binds fun _ _ _ _ _ _ us hl => match us, hl with | [_, _, _], _ => rfl,
    f2, _, fun_mk (st := s_is_site) l2 c2 k2, PySem.W.mg_of X G a2, (fun_mk (st := s_is_site) l2 c2 k2).binds fun _ _ _ _ _ _ us hl => match us, hl with | [_], _ => rfl,
    f3, _, fun_mk (st := s_check_site) l3 c3 k3, PySem.W.mg_of X G a3, (fun_mk (st := s_check_site) l3 c3 k3).binds fun _ _ _ _ _ _ us hl => match us, hl with | [_], _ => rfl,
    f4, _, fun_mk (st := s_check_page) l4 c4 k4, PySem.W.mg_of X G a4, (fun_mk (st := s_check_page) l4 c4 k4).binds fun _ _ _ _ _ _ us hl => match us, hl with | [_, _], _ => rfl,
    f5, _, fun_mk (st := s_check_pages) l5 c5 k5, PySem.W.mg_of X G a5, (fun_mk (st := s_check_pages) l5 c5 k5).binds fun _ _ _ _ _ _ us hl => match us, hl with | [_, _], _ => rfl,
    f6, _, fun_mk (st := s_is_linked_on) l6 c6 k6, PySem.W.mg_of X G a6, (fun_mk (st := s_is_linked_on) l6 c6 k6).binds fun _ _ _ _ _ _ us hl => match us, hl with | [_, _], _ => rfl,
    f7, _, fun_mk (st := s_is_walk_on) l7 c7 k7, PySem.W.mg_of X G a7, (fun_mk (st := s_is_walk_on) l7 c7 k7).binds fun _ _ _ _ _ _ us hl => match us, hl with | [_, _], _ => rfl,
    f8, _, fun_mk (st := s_is_walk) l8 c8 k8, PySem.W.mg_of X G a8, (fun_mk (st := s_is_walk) l8 c8 k8).binds fun _ _ _ _ _ _ us hl => match us, hl with | [_, _], _ => rfl,
    f9, _, fun_mk (st := s_links_into) l9 c9 k9, PySem.W.mg_of X G a9, (fun_mk (st := s_links_into) l9 c9 k9).binds fun _ _ _ _ _ _ us hl => match us, hl with | [_, _], _ => rfl,
    f10, _, fun_mk (st := s_reached_from) l10 c10 k10, PySem.W.mg_of X G a10, (fun_mk (st := s_reached_from) l10 c10 k10).binds fun _ _ _ _ _ _ us hl => match us, hl with | [_, _], _ => rfl,
    f11, _, fun_mk (st := s_site_without) l11 c11 k11, PySem.W.mg_of X G a11, (fun_mk (st := s_site_without) l11 c11 k11).binds fun _ _ _ _ _ _ us hl => match us, hl with | [_, _], _ => rfl,
    f12, _, fun_mk (st := s_law_source) l12 c12 k12, PySem.W.mg_of X G a12, (fun_mk (st := s_law_source) l12 c12 k12).binds fun _ _ _ _ _ _ us hl => match us, hl with | [_, _], _ => rfl,
    f13, _, fun_mk (st := s_law_draw) l13 c13 k13, PySem.W.mg_of X G a13, (fun_mk (st := s_law_draw) l13 c13 k13).binds fun _ _ _ _ _ _ us hl => match us, hl with | [_, _], _ => rfl,
    f14, _, fun_mk (st := s_law_net) l14 c14 k14, PySem.W.mg_of X G a14, (fun_mk (st := s_law_net) l14 c14 k14).binds fun _ _ _ _ _ _ us hl => match us, hl with | [_, _], _ => rfl,
    f15, _, fun_mk (st := s_law_stroll) l15 c15 k15, PySem.W.mg_of X G a15, (fun_mk (st := s_law_stroll) l15 c15 k15).binds fun _ _ _ _ _ _ us hl => match us, hl with | [_, _, _], _ => rfl,
    f16, _, fun_mk (st := s_law_some) l16 c16 k16, PySem.W.mg_of X G a16, (fun_mk (st := s_law_some) l16 c16 k16).binds fun _ _ _ _ _ _ us hl => match us, hl with | [_, _, _], _ => rfl,
    f17, _, fun_mk (st := s_law_equal) l17 c17 k17, PySem.W.mg_of X G a17, (fun_mk (st := s_law_equal) l17 c17 k17).binds fun _ _ _ _ _ _ us hl => match us, hl with | [_, _], _ => rfl,
    f18, _, fun_mk (st := s_law_holds) l18 c18 k18, PySem.W.mg_of X G a18, (fun_mk (st := s_law_holds) l18 c18 k18).binds fun _ _ _ _ _ _ us hl => match us, hl with | [_, _], _ => rfl,
    fa, _, fun_mk (st := s_law) l19 c19 k19, PySem.W.mg_of X G a19, (fun_mk (st := s_law) l19 c19 k19).binds fun _ _ _ _ _ _ us hl => match us, hl with | [_], _ => rfl,
    tt_MOST_PAGES, PySem.W.mg_of X G q_MOST_PAGES,
    tt_MOST_STEPS, PySem.W.mg_of X G q_MOST_STEPS,
    PySem.W.mg_none_of X G z_abs,
    PySem.W.mg_none_of X G z_all,
    PySem.W.mg_none_of X G z_bool,
    PySem.W.mg_none_of X G z_enumerate,
    PySem.W.mg_none_of X G z_int,
    PySem.W.mg_none_of X G z_isinstance,
    PySem.W.mg_none_of X G z_len,
    PySem.W.mg_none_of X G z_list,
    PySem.W.mg_none_of X G z_max,
    PySem.W.mg_none_of X G z_min,
    PySem.W.mg_none_of X G z_range,
    PySem.W.mg_none_of X G z_repr,
    PySem.W.mg_none_of X G z_set,
    PySem.W.mg_none_of X G z_sorted,
    PySem.W.mg_none_of X G z_str,
    PySem.W.mg_none_of X G z_tuple,
    PySem.W.mg_none_of X G z_zip⟩
  exact ⟨T.fd_law, fun s v => .of_eq rfl, fun base _ _ => ok_law T⟩

end LW
open PySem PySem.W PyProof.Rows
set_option maxHeartbeats 0 in
theorem PySem.Challenge.cw_breadcrumbs_k05_sites_without_pages_holds : PySem.Challenge.rw_breadcrumbs_k05_sites_without_pages.Holds := by
  w_on; o_law; k_head; (case hw => w_witness2)
  k_fill
  refine BC.walk_G (l := PySem.Challenge.rw_breadcrumbs_k05_sites_without_pages) (n := 63) (k := 7) (x := "_law_script") (sp := fun w => LW.spLaw _) rfl (by decide) rfl ⟨rfl, by decide, by decide⟩ (fun w h Y => PySem.W.kIn_of Y) ?F (fun w H a ns hl hS => ⟨a, ns, rfl, hS, hl, fun _ => rfl⟩)
  case F =>
    intro w mg fa h KX G hmg
    refine' LW.all_mk KX G hmg ?a0 ?l0 ?c0 ?k0 ?a1 ?l1 ?c1 ?k1 ?a2 ?l2 ?c2 ?k2 ?a3 ?l3 ?c3 ?k3 ?a4 ?l4 ?c4 ?k4 ?a5 ?l5 ?c5 ?k5 ?a6 ?l6 ?c6 ?k6 ?a7 ?l7 ?c7 ?k7 ?a8 ?l8 ?c8 ?k8 ?a9 ?l9 ?c9 ?k9 ?a10 ?l10 ?c10 ?k10 ?a11 ?l11 ?c11 ?k11 ?a12 ?l12 ?c12 ?k12 ?a13 ?l13 ?c13 ?k13 ?a14 ?l14 ?c14 ?k14 ?a15 ?l15 ?c15 ?k15 ?a16 ?l16 ?c16 ?k16 ?a17 ?l17 ?c17 ?k17 ?a18 ?l18 ?c18 ?k18 ?a19 ?l19 ?c19 ?k19 ?q_MOST_PAGES ?q_MOST_STEPS ?z_abs ?z_all ?z_bool ?z_enumerate ?z_int ?z_isinstance ?z_len ?z_list ?z_max ?z_min ?z_range ?z_repr ?z_set ?z_sorted ?z_str ?z_tuple ?z_zip
    (case a0 => k_is); (case l0 => k_is); (case c0 => k_is); (case k0 => k_is); (case a1 => k_is); (case l1 => k_is); (case c1 => k_is); (case k1 => k_is); (case a2 => k_is); (case l2 => k_is); (case c2 => k_is); (case k2 => k_is); (case a3 => k_is); (case l3 => k_is); (case c3 => k_is); (case k3 => k_is); (case a4 => k_is); (case l4 => k_is); (case c4 => k_is); (case k4 => k_is); (case a5 => k_is); (case l5 => k_is); (case c5 => k_is); (case k5 => k_is); (case a6 => k_is); (case l6 => k_is); (case c6 => k_is); (case k6 => k_is); (case a7 => k_is); (case l7 => k_is); (case c7 => k_is); (case k7 => k_is); (case a8 => k_is); (case l8 => k_is); (case c8 => k_is); (case k8 => k_is); (case a9 => k_is); (case l9 => k_is); (case c9 => k_is); (case k9 => k_is); (case a10 => k_is); (case l10 => k_is); (case c10 => k_is); (case k10 => k_is); (case a11 => k_is); (case l11 => k_is); (case c11 => k_is); (case k11 => k_is); (case a12 => k_is); (case l12 => k_is); (case c12 => k_is); (case k12 => k_is); (case a13 => k_is); (case l13 => k_is); (case c13 => k_is); (case k13 => k_is); (case a14 => k_is); (case l14 => k_is); (case c14 => k_is); (case k14 => k_is); (case a15 => k_is); (case l15 => k_is); (case c15 => k_is); (case k15 => k_is); (case a16 => k_is); (case l16 => k_is); (case c16 => k_is); (case k16 => k_is); (case a17 => k_is); (case l17 => k_is); (case c17 => k_is); (case k17 => k_is); (case a18 => k_is); (case l18 => k_is); (case c18 => k_is); (case k18 => k_is); (case a19 => k_is); (case l19 => k_is); (case c19 => k_is); (case k19 => k_is); (case q_MOST_PAGES => k_is); (case q_MOST_STEPS => k_is); (case z_abs => k_is); (case z_all => k_is); (case z_bool => k_is); (case z_enumerate => k_is); (case z_int => k_is); (case z_isinstance => k_is); (case z_len => k_is); (case z_list => k_is); (case z_max => k_is); (case z_min => k_is); (case z_range => k_is); (case z_repr => k_is); (case z_set => k_is); (case z_sorted => k_is); (case z_str => k_is); (case z_tuple => k_is); (case z_zip => k_is)

