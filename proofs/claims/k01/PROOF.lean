import PyProof.Rows.All
import Wide.All
import OpenK.AllK
import Wide.FinOn
import HandS.ForMost
import HandS.IsInst
import HandS.Style
import HandS.Wide
import HandS.Evl
import HandS.Zip
import HandS.SortKw
import HandS.Conv
import HandS.TupLe
import HandS.RaiseMore
import HandS.Dict
import HandS.Defaults
import HandS.SetFor
import HandS.Strs
import HandS.Property
import HandS.DictComp
import HandS.ListItems
import HandS.DictTup
import HandS.SortRule
import PySem.Challenge.RW_breadcrumbs_k01_sites_recognized
set_option Elab.async false
set_option linter.all false
set_option maxRecDepth 100000
set_option maxHeartbeats 4000000
namespace BC
open PySem PySem.Spec PyProof.Rows L2
section
variable {X : Cx}
/-- a power of a number of any size that matters here -/
def CPowX (i j : Int) : Prop := 0 ≤ j ∧ j ≤ 1000 ∧ i.natAbs.log2 < 100000
theorem op_powX : OpR X (binaryOp .Pow) (rI CPowX fun i j => .int (i ^ j.toNat)) := opI fun i j _ _ _ _ _ hc q => by
  obtain ⟨h0, h1, h2⟩ := hc
  refine pow_int h0 ?_ q
  have hb : Builtin.Int.intBits i ≤ 100000 := by
    unfold Builtin.Int.intBits
    split <;> omega
  have h3 : (Builtin.Int.intBits i : Int) * j ≤ 100000 * j := Int.mul_le_mul_of_nonneg_right (by omega) h0
  omega
/-- a product: one factor small, or both of bounded size -/
def CMulX (i j : Int) : Prop := CMul i j ∨ CMulW i j
theorem op_mulX : OpR X (binaryOp .Mult) (rI CMulX fun i j => .int (i * j)) := opI fun _ _ _ _ _ _ _ hc q => by
  rcases hc with hc | hc
  · exact mul_int q hc.ok
  · exact mul_int q hc.ok
theorem op_fdivX : OpR X (binaryOp .FloorDiv) (rI CDivW fun i j => .int (i / j)) := op_fdivW
theorem op_modX : OpR X (binaryOp .Mod) (rI (fun _ j => 0 < j) fun i j => .int (i % j)) := opI fun i j _ _ _ _ _ hc q => by
  refine mod_int' (show j ≠ 0 by omega) ?_
  rw [Int.fmod_eq_emod_of_nonneg i (by omega)]
  exact q
def ipC (C : Int → Int → Prop) (f : Int → Int → Int) : TIp := fun x y H Q => ∃ i j, x = .int i ∧ y = .int j ∧ C i j ∧ Q (.int (f i j)) H
theorem ip_mulX : PIp X .Mult (ipC CMulX fun i j => i * j) := by
  intro pins s σ H x y v u Q I r1 r2 h
  obtain ⟨i, j, rfl, rfl, hc, q⟩ := h
  obtain ⟨t, rfl⟩ := r1
  obtain ⟨t', rfl⟩ := r2
  have ok : IntMulOk i j := by
    rcases hc with hc | hc
    · exact hc.ok
    · exact hc.ok
  exact imul_int ⟨.int (i * j), H, I.tok _, ⟨_, rfl⟩, q⟩ ok
end
end BC

/-! ### readings opened one construct at a time: full applications alone, so that what stands in a loop is left closed -/
namespace BC
open PySem PySem.Spec PyProof.Rows L2
section
variable {K : PySem.W.Frag} {σ : L2.St} {H : Hp} {Q : VK} {QT : Bool → Hp → Prop} {QA : List V → Hp → Prop} {D : Ends} {ta tb tc : TE} {t u : TT} {a : TA} {r r' : R2} {i j : Nat} {v x y : V} {s1 s2 : TS} {g : TG} {QG : L2.St → Hp → Prop}
def LoopG (J : It) (g : TG) (tb : TS) : TS := fun D σ H => ∃ W : Nat → Nat → L2.St → Hp → Prop, (∃ m, W 0 m σ H) ∧ ∀ i m σ H, W i m σ H →
  (J.stop i H ∧ D.nx σ H) ∨ (J.go i H ∧ ∃ N : L2.St → Hp → Prop, (∀ σ' H', N σ' H' → ∃ m', m' < m ∧ W (i + 1) m' σ' H') ∧ ∀ x H', J.yld i H x H' → g x σ H' fun σ2 H2 => tb { D with nx := N, ct := N, bk := D.nx } σ2 H2)
def LcG (J : It) (g : TG) (tt : TT) (te : TE) (vs : List Nat) (σ : L2.St) (Dl : Addr) (H1 : Hp) (Q : VK) : Prop := ∃ W : Nat → Nat → Hp → Prop, (∃ m, W 0 m (upd H1 Dl (.lst []))) ∧ ∀ i m H, W i m H →
  (J.stop i H ∧ Q (.ref Dl) H) ∨ (J.go i H ∧ ∃ Nx : Hp → Prop, (∀ H', Nx H' → ∃ m', m' < m ∧ W (i + 1) m' H') ∧ ∀ x H', J.yld i H x H' → g x (wipe σ vs) H' fun σ2 H2 => wipe σ2 vs = wipe σ vs ∧ tt σ2 H2 fun b H3 =>
    if b = true then te σ2 H3 fun y H4 => ∃ acc, H4 Dl = some (.lst acc) ∧ acc.length < sizeLine ∧ Nx (upd H4 Dl (.lst (acc ++ [y]))) else Nx H3)
theorem x_seq : tSeq s1 s2 D σ H = s1 { D with nx := s2 D } σ H := rfl
theorem x_next : tNext D σ H = D.nx σ H := rfl
theorem x_brk : tBreak D σ H = D.bk σ H := rfl
theorem x_cnt : tCont D σ H = D.ct σ H := rfl
theorem x_nev : tNever D σ H = False := rfl
theorem x_ret : tRet ta D σ H = ta σ H D.rt := rfl
theorem x_retN : tRetN D σ H = D.rt .non H := rfl
theorem x_drop : tDrop ta D σ H = ta σ H (fun _ H1 => D.nx σ H1) := rfl
theorem x_ifS : tIfS t s1 s2 D σ H = t σ H (fun b H1 => if b = true then s1 D σ H1 else s2 D σ H1) := rfl
theorem x_asg : tAsg ta g D σ H = ta σ H (fun x H1 => g x σ H1 D.nx) := rfl
theorem x_gn : gName i v σ H QG = QG (σ.set i (some v)) H := rfl
theorem x_gsub {o ix : TE} {st : TSet} : gSub o ix st v σ H QG = o σ H (fun o H1 => ix σ H1 fun i H2 => st o i v H2 fun H3 => QG σ H3) := rfl
theorem x_par : tPar i j a D σ H = a σ H (fun vs H1 => ∃ v w, vs = [v, w] ∧ D.nx ((σ.set i (some v)).set j (some w)) H1) := rfl
theorem x_par3 {l : Nat} : tPar3 i j l a D σ H = a σ H (fun vs H1 => ∃ u v w, vs = [u, v, w] ∧ D.nx (((σ.set i (some u)).set j (some v)).set l (some w)) H1) := rfl
theorem x_aug {ti : TIp} : tAug i ta ti D σ H = ∃ x, σ[i]? = some (some x) ∧ ta σ H fun y H1 => ti x y H1 fun z H2 => D.nx (σ.set i (some z)) H2 := rfl
theorem x_for {wi : TI} : tFor wi g s1 D σ H = wi σ H (fun J H1 => LoopG J g s1 D σ H1) := rfl
theorem x_lc {wi : TI} {vs : List Nat} : tLc wi g t ta vs σ H Q = wi σ H (fun J H1 => ∀ Dl, H1 Dl = none → LcG J g t ta vs σ Dl H1 Q) := rfl
theorem x_rng1 {R : It → Hp → Prop} : iRng1 a σ H R = a σ H (fun vs H1 => ∃ j : Int, vs = [.int j] ∧ -(2 ^ 62) ≤ j ∧ j < 2 ^ 62 ∧ R (Itr 0 j.toNat) H1) := rfl
theorem x_rng2 {R : It → Hp → Prop} : iRng2 a σ H R = a σ H (fun vs H1 => ∃ i j : Int, vs = [.int i, .int j] ∧ (-(2 ^ 62) ≤ i ∧ i < 2 ^ 62 ∧ -(2 ^ 62) ≤ j ∧ j < 2 ^ 62) ∧ R (Itr i (j - i).toNat) H1) := rfl
theorem x_rng3 {R : It → Hp → Prop} : iRng3 a σ H R = a σ H (fun vs H1 => ∃ (i j c : Int) (n : Nat), vs = [.int i, .int j, .int c] ∧ RgC i j c n ∧ R (Itc i c n) H1) := rfl
theorem x_ilist {R : It → Hp → Prop} : iList K ta σ H R = ta σ H (fun x H1 => ∃ a, x = .ref a ∧ (∃ xs, SqL K H1 a xs) ∧ R (Itl K a) H1) := rfl
theorem x_itup {R : It → Hp → Prop} : iTup K ta σ H R = ta σ H (fun x H1 => ∃ a, x = .ref a ∧ (∃ xs, SqT K H1 a xs) ∧ R (Itt K a) H1) := rfl
theorem x_ienum {R : It → Hp → Prop} : iEnum K a σ H R = a σ H (fun vs H1 => ∃ a xs, vs = [.ref a] ∧ SqL K H1 a xs ∧ R (Ite K a) H1) := rfl
theorem x_izip {R : It → Hp → Prop} : iZip K a σ H R = a σ H (fun vs H1 => ∃ a b xs ys, vs = [.ref a, .ref b] ∧ SqL K H1 a xs ∧ SqL K H1 b ys ∧ R (Itz K a b) H1) := rfl
theorem x_istr {R : It → Hp → Prop} : iStr ta σ H R = ta σ H (fun v H1 => ∃ x, v = .str x ∧ R (Its x) H1) := rfl
theorem x_var : tVar i σ H Q = ∃ v, σ[i]? = some (some v) ∧ Q v H := rfl
theorem x_c : tC v σ H Q = Q v H := rfl
theorem x_op : tOp r ta tb σ H Q = ta σ H (fun x H1 => tb σ H1 fun y H2 => r x y H2 Q) := rfl
theorem x_un {ru : V → Hp → VK → Prop} : tUn ru ta σ H Q = ta σ H (fun x H1 => ru x H1 Q) := rfl
theorem x_test : tTest ta σ H QT = ta σ H (fun x H' => ∃ k, x = .bl k ∧ QT k H') := rfl
theorem x_b : tB ta σ H QT = ta σ H (fun x H' => ∃ k, x = .bl k ∧ QT k H') := rfl
theorem x_chain : tChain r r' ta tb tc σ H Q = ta σ H (fun x H1 => tb σ H1 fun y H2 => r x y H2 fun z H3 => ∃ k, z = .bl k ∧ (if k = true then tc σ H3 fun w' H4 => r' y w' H4 Q else Q (.bl false) H3)) := rfl
theorem x_and : tAnd t u σ H QT = t σ H (fun c H1 => if c = true then u σ H1 QT else QT false H1) := rfl
theorem x_or : tOr t u σ H QT = t σ H (fun c H1 => if c = true then QT true H1 else u σ H1 QT) := rfl
theorem x_not : tNot t σ H QT = t σ H (fun c H1 => QT (!c) H1) := rfl
theorem x_andV : tAndV ta tb σ H Q = ta σ H (fun x H1 => ∃ c, x = .bl c ∧ if c = true then tb σ H1 Q else Q (.bl false) H1) := rfl
theorem x_orV : tOrV ta tb σ H Q = ta σ H (fun x H1 => ∃ c, x = .bl c ∧ if c = true then Q (.bl true) H1 else tb σ H1 Q) := rfl
theorem x_notV : tNotV ta σ H Q = ta σ H (fun x H1 => ∃ c, x = .bl c ∧ Q (.bl (!c)) H1) := rfl
theorem x_ife : tIf t ta tb σ H Q = t σ H (fun c H1 => if c = true then ta σ H1 Q else tb σ H1 Q) := rfl
theorem x_nil : tNil σ H QA = QA [] H := rfl
theorem x_cons {rest : TA} : tCons ta rest σ H QA = ta σ H (fun x H1 => rest σ H1 fun xs H2 => QA (x :: xs) H2) := rfl
theorem x_lst : tLst a σ H Q = a σ H (fun xs H1 => xs.length ≤ sizeLine ∧ ∀ p, H1 p = none → Q (.ref p) (upd H1 p (.lst xs))) := rfl
theorem x_tup : tTup a σ H Q = a σ H (fun xs H1 => xs.length ≤ sizeLine ∧ ∀ p, H1 p = none → Q (.ref p) (upd H1 p (.tup xs))) := rfl
theorem x_cb {rc : List V → Hp → VK → Prop} : tCB rc a σ H Q = a σ H (fun vs H1 => rc vs H1 Q) := rfl
theorem x_call {sp : Sp} {dvs : List V} {E : XK} : tCall sp dvs E a σ H Q = a σ H (fun vs H1 => sp (vs ++ dvs) H1 Q E) := rfl
theorem x_callK {sp : Sp} {gV : List V → List V → List V} {E : XK} {b : TA} : tCallK sp gV E a b σ H Q = a σ H (fun vs H1 => b σ H1 fun zs H2 => sp (gV vs zs) H2 Q E) := rfl
theorem x_bm {T : String} {rm : V → List V → Hp → VK → Prop} : tBM K T rm ta a σ H Q = ta σ H (fun x H1 => tyV K T x H1 ∧ a σ H1 fun xs H2 => rm x xs H2 Q) := rfl
theorem x_bm0 {T : String} {rm : V → List V → Hp → VK → Prop} : tBM0 K T rm ta σ H Q = ta σ H (fun x H1 => tyV K T x H1 ∧ rm x [] H1 Q) := rfl
theorem x_sl {rs : V → Option Int → Option Int → Hp → VK → Prop} {tl th : TO} : tSl rs ta tl th σ H Q = ta σ H (fun x H1 => tl σ H1 fun l H2 => th σ H2 fun u H3 => rs x l u H3 Q) := rfl
theorem x_nopart {QO : Option Int → Hp → Prop} : tNoPart σ H QO = QO none H := rfl
theorem x_part {QO : Option Int → Hp → Prop} : tPart ta σ H QO = ta σ H (fun x H1 => ∃ i, x = .int i ∧ QO (some i) H1) := rfl
theorem x_revL : tRevL K ta σ H Q = ta σ H (fun x H1 => ∃ a xs, x = .ref a ∧ SqL K H1 a xs ∧ ∀ p, H1 p = none → Q (.ref p) (upd H1 p (.lst xs.reverse))) := rfl
theorem x_I0 {f : Int → Int → V} {m n : Int} : rI0 f (.int m) (.int n) H Q ↔ Q (f m n) H := ⟨fun ⟨i, j, e1, e2, q⟩ => by cases e1; cases e2; exact q, fun q => ⟨m, n, rfl, rfl, q⟩⟩
theorem x_I {C : Int → Int → Prop} {f : Int → Int → V} {m n : Int} : rI C f (.int m) (.int n) H Q ↔ C m n ∧ Q (f m n) H := ⟨fun ⟨i, j, e1, e2, q⟩ => by cases e1; cases e2; exact q, fun q => ⟨m, n, rfl, rfl, q⟩⟩
theorem x_U {f : Int → V} {m : Int} : rU f (.int m) H Q ↔ Q (f m) H := ⟨fun ⟨i, e1, q⟩ => by cases e1; exact q, fun q => ⟨m, rfl, q⟩⟩
theorem x_ip {f : Int → Int → Int} {m n : Int} : ipI f (.int m) (.int n) H Q ↔ Q (.int (f m n)) H := ⟨fun ⟨i, j, e1, e2, q⟩ => by cases e1; cases e2; exact q, fun q => ⟨m, n, rfl, rfl, q⟩⟩
theorem x_ipC {C : Int → Int → Prop} {f : Int → Int → Int} {m n : Int} : ipC C f (.int m) (.int n) H Q ↔ C m n ∧ Q (.int (f m n)) H := ⟨fun ⟨i, j, e1, e2, q⟩ => by cases e1; cases e2; exact q, fun q => ⟨m, n, rfl, rfl, q⟩⟩
theorem x_eqI {m n : Int} : rEq (.int m) (.int n) H Q ↔ Q (.bl (decide (m = n))) H := by
  unfold rEq
  rw [show scal (V.int m) (V.int n) = true from rfl]
  by_cases e : m = n
  · subst e; simp
  · simp [e]
theorem x_neI {m n : Int} : rNe (.int m) (.int n) H Q ↔ Q (.bl (!decide (m = n))) H := by
  unfold rNe
  rw [show scal (V.int m) (V.int n) = true from rfl]
  by_cases e : m = n
  · subst e; simp
  · simp [e]
end
/-! ### the rules that speak of the written part, by its own name -/
section
variable {X : Cx} {K : PySem.W.Frag}
theorem k_pi_list {tg l : Expr} {tl : TE} (hK : X.K = K) (hl : PE X l tl) : PI X tg l (iList K tl) := by subst hK; exact pi_list hl
theorem k_pi_tup {tg l : Expr} {tl : TE} (hK : X.K = K) (hl : PE X l tl) : PI X tg l (iTup K tl) := by subst hK; exact pi_tup hl
theorem k_pi_enum {e : Expr} {ta : TA} {p pos tpos : Pos} {elts : List Expr} {kk : Nat} (hK : X.K = K) (hg : Gl X "enumerate") (hm : X.mg "enumerate" = none) (ha : PA X [e] ta) (hs : starEach [e] X.env = [(false, eval e X.env)] := by rfl) : PI X (.Tuple elts kk tpos) (.Call (.Name "enumerate" p) [e] [] pos) (iEnum K ta) := by subst hK; exact pi_enum hg hm ha hs
theorem k_pi_zip {e e2 : Expr} {ta : TA} {p pos tpos : Pos} {elts : List Expr} {kk : Nat} (hK : X.K = K) (hg : Gl X "zip") (hm : X.mg "zip" = none) (ha : PA X [e, e2] ta)
    (hs : starEach [e, e2] X.env = (false, eval e X.env) :: starEach [e2] X.env := by rfl) (hpl : (backTo pos (starEach [e2] X.env)).any (·.1) = false := by rfl) : PI X (.Tuple elts kk tpos) (.Call (.Name "zip" p) [e, e2] [] pos) (iZip K ta) := by subst hK; exact pi_zip hg hm ha hs hpl
theorem k_ix_list (hK : X.K = K) : IxR X (rIxL K) := by subst hK; exact ix_list
theorem k_ix_tup (hK : X.K = K) : IxR X (rIxT K) := by subst hK; exact ix_tup
theorem k_sl_list (hK : X.K = K) : SlR X (rSlL K) := by subst hK; exact sl_list
theorem k_in (hK : X.K = K) : OpR X (compareOp .In) (rIn K false) := by subst hK; exact op_in_seq
theorem k_notIn (hK : X.K = K) : OpR X (compareOp .NotIn) (rIn K true) := by subst hK; exact op_notIn_seq
theorem k_eqD (hK : X.K = K) (hu : X.A.units + 64 < cLine) : OpR X (compareOp .Eq) (rEqD K) := by subst hK; exact op_eqD hu
theorem k_neD (hK : X.K = K) (hu : X.A.units + 64 < cLine) : OpR X (compareOp .NotEq) (rNeD K) := by subst hK; exact op_neD hu
def rLen (K : PySem.W.Frag) : List V → Hp → VK → Prop := fun xs H Q => ∃ p ys, xs = [.ref p] ∧ (SqL K H p ys ∨ SqT K H p ys) ∧ Q (.int ys.length) H
def rListOf (K : PySem.W.Frag) : List V → Hp → VK → Prop := fun xs H Q => ∃ p ys, xs = [.ref p] ∧ (SqL K H p ys ∨ SqT K H p ys) ∧ ∀ l, H l = none → Q (.ref l) (upd H l (.lst ys))
def rTupOf (K : PySem.W.Frag) : List V → Hp → VK → Prop := fun xs H Q => ∃ p ys, xs = [.ref p] ∧ ((SqL K H p ys ∧ ∀ l, H l = none → Q (.ref l) (upd H l (.tup ys))) ∨ (SqT K H p ys ∧ Q (.ref p) H))
theorem k_len (hK : X.K = K) : CallR X (.builtin "len") (rLen K) := by subst hK; exact call_len_seq
theorem k_listOf (hK : X.K = K) : CallR X (.type "list") (rListOf K) := by subst hK; exact call_list_of
theorem k_tupOf (hK : X.K = K) : CallR X (.type "tuple") (rTupOf K) := by subst hK; exact call_tuple_of
theorem k_isi (hK : X.K = K) : CallR X (.builtin "isinstance") (rIsi K) := by subst hK; exact call_isi
theorem k_sum (hK : X.K = K) (hc : X.calm = true) : CallR X (.builtin "sum") (rSum K) := by subst hK; exact cr_sum hc
theorem k_all (hK : X.K = K) (hc : X.calm = true) : CallR X (.builtin "all") (rAll K) := by subst hK; exact cr_all hc
theorem k_any (hK : X.K = K) (hc : X.calm = true) : CallR X (.builtin "any") (rAny K) := by subst hK; exact cr_any hc
theorem k_sorted (hK : X.K = K) : CallR X (.builtin "sorted") (rSorted K) := by subst hK; exact cr_sorted
def tTruK (K : PySem.W.Frag) (ta : TE) : TT := fun σ H Q => ta σ H fun x H' => ∃ k, TruV K x H' k ∧ Q k H'
theorem k_truth {a : Expr} {ta : TE} (hK : X.K = K) (ha : PE X a ta) (he : ∀ whole, isTrue a X.env whole = (do let v ← whole; standAt a.pos; holding [v] (truthy v))) : PT X a (tTruK K ta) := by subst hK; exact pt_truth ha he
theorem k_tup {es : List Expr} {k n : Nat} {pos : Pos} {t : TGs} (hK : X.K = K) (hc : X.calm = true) (h : PGs X es t)
    (hn : (assignEach es X.env).length = n := by rfl) (hst : (assignEach es X.env).findIdx? (·.1) = none := by rfl) : PG X (.Tuple es k pos) (gTup K n t) := by subst hK; exact pg_tup hc h hn hst
theorem k_bm0 {T : String} {to : TE} {r : V → List V → Hp → VK → Prop} {e : Expr} (hK : X.K = K) (h : PE X e (tBM0 X.K T r to)) : PE X e (tBM0 K T r to) := by subst hK; exact h
theorem k_bm {T : String} {to : TE} {ta : TA} {r : V → List V → Hp → VK → Prop} {e : Expr} (hK : X.K = K) (h : PE X e (tBM X.K T r to ta)) : PE X e (tBM K T r to ta) := by subst hK; exact h
theorem k_rev {e : Expr} {te : TE} {k : Nat} {p1 p2 p3 pos : Pos} (hK : X.K = K) (he : PE X e te) : PE X (.Subscript e (.Slice none none (some (.UnaryOp .USub (.Constant (.int 1) k p1) p2)) p3) pos) (tRevL K te) := by subst hK; exact pe_revL he
theorem k_index (hK : X.K = K) : MtR X "list.index" (rIndex K) := by subst hK; exact mt_index
end
section
variable {K : PySem.W.Frag} {σ : L2.St} {H : Hp} {ta : TE} {QT : Bool → Hp → Prop}
theorem x_tru : tTruK K ta σ H QT = ta σ H (fun x H' => ∃ k, TruV K x H' k ∧ QT k H') := rfl
end
/-! ### loops -/
section
variable {K : PySem.W.Frag} {σ : L2.St} {H : Hp} {D : Ends} {g : TG} {tb : TS}
theorem lg_rng {lo : Int} {n : Nat} (Pv : Nat → L2.St → Hp → Prop) (h0 : Pv 0 σ H)
    (hs : ∀ i σ H, i < n → Pv i σ H → g (.int (lo + i)) σ H fun σ2 H2 => tb { D with nx := Pv (i + 1), ct := Pv (i + 1), bk := D.nx } σ2 H2) (hd : ∀ σ H, Pv n σ H → D.nx σ H) : LoopG (Itr lo n) g tb D σ H := for_range Pv h0 hs hd
theorem lg_rngC {lo c : Int} {n : Nat} (Pv : Nat → L2.St → Hp → Prop) (h0 : Pv 0 σ H)
    (hs : ∀ i σ H, i < n → Pv i σ H → g (.int (lo + (i : Nat) * c)) σ H fun σ2 H2 => tb { D with nx := Pv (i + 1), ct := Pv (i + 1), bk := D.nx } σ2 H2) (hd : ∀ σ H, Pv n σ H → D.nx σ H) : LoopG (Itc lo c n) g tb D σ H := for_rangeC Pv h0 hs hd
theorem lg_list {a : Addr} {xs : List V} (Pv : Nat → L2.St → Hp → Prop) (h0 : Pv 0 σ H) (hl : ∀ i σ H, i ≤ xs.length → Pv i σ H → SqL K H a xs)
    (hs : ∀ i x σ H, xs[i]? = some x → Pv i σ H → g x σ H fun σ2 H2 => tb { D with nx := Pv (i + 1), ct := Pv (i + 1), bk := D.nx } σ2 H2) (hd : ∀ σ H, Pv xs.length σ H → D.nx σ H) : LoopG (Itl K a) g tb D σ H := for_list Pv h0 hl hs hd
/-- enumerate over a list that stands still: each pair is a new tuple -/
theorem lg_enum {a : Addr} {xs : List V} (Pv : Nat → L2.St → Hp → Prop) (h0 : Pv 0 σ H) (hl : ∀ i σ H, i ≤ xs.length → Pv i σ H → SqL K H a xs)
    (hs : ∀ i x σ H T, xs[i]? = some x → Pv i σ H → H T = none → g (.ref T) σ (upd H T (.tup [.int (i : Nat), x])) fun σ2 H2 => tb { D with nx := Pv (i + 1), ct := Pv (i + 1), bk := D.nx } σ2 H2) (hd : ∀ σ H, Pv xs.length σ H → D.nx σ H) : LoopG (Ite K a) g tb D σ H := by
  refine ⟨fun i m σ H => m = xs.length - i ∧ i ≤ xs.length ∧ Pv i σ H, ⟨xs.length, by simp, Nat.zero_le _, h0⟩, ?_⟩
  rintro i m σ H ⟨rfl, hi, p⟩
  have q := hl i σ H hi p
  by_cases hlt : i < xs.length
  · refine .inr ⟨⟨xs, xs[i], q, by simp [hlt]⟩, Pv (i + 1), fun σ' H' p' => ⟨xs.length - (i + 1), by omega, rfl, hlt, p'⟩, fun x H' y => ?_⟩
    obtain ⟨T, x', rfl, hT, rfl, f⟩ := y
    exact hs i x' σ H T (f xs q) p hT
  · have e : i = xs.length := by omega
    subst e
    exact .inl ⟨⟨xs, q, Nat.le_refl _⟩, hd σ H p⟩
/-- a pair unpacked -/
theorem g_two {i j : Nat} {T : Addr} {x y : V} {QG : L2.St → Hp → Prop} (h : H T = some (.tup [x, y])) (q : QG ((σ.set i (some x)).set j (some y)) H) : gTup K 2 (gCons (gName i) (gCons (gName j) gNil)) (.ref T) σ H QG :=
  ⟨T, [x, y], rfl, .inl (.inl h), rfl, x, [y], rfl, y, [], rfl, rfl, q⟩
end
/-! ### comprehensions over lists whose elements are given by a function of the turn -/
section
variable {K : PySem.W.Frag} {σ : L2.St} {H1 : Hp} {g : TG} {tt : TT} {te : TE} {vs : List Nat} {Dl : Addr} {Q : VK}
theorem lc_g (n : Nat) {J : It} (Pv : Nat → Hp → Prop) (h0 : Pv 0 (upd H1 Dl (.lst []))) (hst : ∀ H, Pv n H → J.stop n H) (hgo : ∀ i H, i < n → Pv i H → J.go i H)
    (hs : ∀ i H x H', i < n → Pv i H → J.yld i H x H' → g x (wipe σ vs) H' fun σ2 H2 => wipe σ2 vs = wipe σ vs ∧ tt σ2 H2 fun b H3 =>
      if b = true then te σ2 H3 fun y H4 => ∃ acc, H4 Dl = some (.lst acc) ∧ acc.length < sizeLine ∧ Pv (i + 1) (upd H4 Dl (.lst (acc ++ [y]))) else Pv (i + 1) H3) (hd : ∀ H, Pv n H → Q (.ref Dl) H) : LcG J g tt te vs σ Dl H1 Q := by
  refine ⟨fun i m H => m = n - i ∧ i ≤ n ∧ Pv i H, ⟨n, by simp, Nat.zero_le _, h0⟩, ?_⟩
  rintro i m H ⟨rfl, hi, p⟩
  by_cases hlt : i < n
  · exact .inr ⟨hgo i H hlt p, Pv (i + 1), fun H' p' => ⟨n - (i + 1), by omega, rfl, hlt, p'⟩, fun x H' y => hs i H x H' hlt p y⟩
  · have e : i = n := by omega
    subst e
    exact .inl ⟨hst H p, hd H p⟩
end
/-! ### comprehensions that change nothing -/
section
variable {K : PySem.W.Frag} {σ : L2.St} {H1 : Hp} {g : TG} {tt : TT} {te : TE} {vs : List Nat} {Dl : Addr} {Q : VK}
def kept (n : Nat) (keep : Nat → Bool) (f : Nat → V) : List V := ((List.range n).filter keep).map f
theorem kept_yes {n : Nat} {k : Nat → Bool} {f : Nat → V} (h : k n = true) : kept (n + 1) k f = kept n k f ++ [f n] := by
  unfold kept
  rw [List.range_succ, List.filter_append, List.map_append]
  simp [h]
theorem kept_no {n : Nat} {k : Nat → Bool} {f : Nat → V} (h : k n = false) : kept (n + 1) k f = kept n k f := by
  unfold kept
  rw [List.range_succ, List.filter_append, List.map_append]
  simp [h]
theorem kept_len (n : Nat) (k : Nat → Bool) (f : Nat → V) : (kept n k f).length ≤ n := by
  unfold kept
  rw [List.length_map]
  exact Nat.le_trans (List.length_filter_le _ _) (by rw [List.length_range]; exact Nat.le_refl _)
theorem kept_all (n : Nat) (f : Nat → V) : kept n (fun _ => true) f = (List.range n).map f := by
  unfold kept
  rw [List.filter_eq_self.mpr (by simp)]
theorem lc_pure {J : It} (n : Nat) (item : Nat → L2.St) (keep : Nat → Bool) (f : Nat → V) (hD : H1 Dl = none) (hn : n ≤ 100000)
    (hst : ∀ H', Evl.Ex H1 H' → J.stop n H') (hgo : ∀ i H', i < n → Evl.Ex H1 H' → J.go i H')
    (hy : ∀ i H' x H'' (QG : L2.St → Hp → Prop), i < n → Evl.Ex H1 H' → J.yld i H' x H'' → (Evl.Ex H' H'' → QG (item i) H'') → g x (wipe σ vs) H'' QG)
    (hw : ∀ i, i < n → wipe (item i) vs = wipe σ vs) (ht : ∀ i, i < n → Evl.EvT tt (item i) H1 (keep i)) (he : ∀ i, i < n → keep i = true → Evl.Ev te (item i) H1 (f i))
    (hd : ∀ H', Evl.Ex H1 H' → H' Dl = some (.lst (kept n keep f)) → Q (.ref Dl) H') : LcG J g tt te vs σ Dl H1 Q := by
  refine lc_g n (fun i H' => Evl.Ex H1 H' ∧ H' Dl = some (.lst (kept i keep f))) ⟨Evl.Ex.new hD, upd_same⟩ (fun H' h => hst H' h.1) (fun i H' hi h => hgo i H' hi h.1) (fun i H' x H'' hi h y => ?_) (fun H' h => hd H' h.1 h.2)
  obtain ⟨e, hl⟩ := h
  refine hy i H' x H'' _ hi e y fun e2 => ⟨hw i hi, ht i hi H'' (e.trans e2) _ fun H3 e3 => ?_⟩
  have hl3 := e3 _ _ (e2 _ _ hl)
  cases hk : keep i with
  | false =>
    show (if false = true then _ else _)
    rw [if_neg Bool.false_ne_true, kept_no hk]
    exact ⟨(e.trans e2).trans e3, hl3⟩
  | true =>
    show (if true = true then _ else _)
    rw [if_pos rfl]
    refine he i hi hk H3 ((e.trans e2).trans e3) _ fun H4 e4 => ⟨_, e4 _ _ hl3, Nat.lt_of_lt_of_le (Nat.lt_of_le_of_lt (kept_len i keep f) hi) (Nat.le_trans hn (by decide)), ?_⟩
    rw [kept_yes hk]
    exact ⟨(((e.trans e2).trans e3).trans e4).mut hD, upd_same⟩
theorem tyes {σ : L2.St} {H : Hp} : Evl.EvT tYes σ H true := fun H1 _ _ q => q H1 (Evl.Ex.refl H1)
theorem lc_enum {a : Addr} {xs : List V} {j k : Nat} (keep : Nat → Bool) (f : Nat → V) (hx : SqL K H1 a xs) (hD : H1 Dl = none) (hn : xs.length ≤ 100000)
    (hw : ∀ u v : V, wipe (((wipe σ vs).set j (some u)).set k (some v)) vs = wipe σ vs)
    (ht : ∀ i x, xs[i]? = some x → Evl.EvT tt (((wipe σ vs).set j (some (.int (i : Nat)))).set k (some x)) H1 (keep i))
    (he : ∀ i x, xs[i]? = some x → keep i = true → Evl.Ev te (((wipe σ vs).set j (some (.int (i : Nat)))).set k (some x)) H1 (f i))
    (hd : ∀ H', Evl.Ex H1 H' → H' Dl = some (.lst (kept xs.length keep f)) → Q (.ref Dl) H') : LcG (Ite K a) (gTup K 2 (gCons (gName j) (gCons (gName k) gNil))) tt te vs σ Dl H1 Q := by
  refine lc_pure xs.length (fun i => ((wipe σ vs).set j (some (.int (i : Nat)))).set k (some (xs.getD i .non))) keep f hD hn (fun H' e => ⟨xs, Evl.ex_l e hx, Nat.le_refl _⟩) (fun i H' hi e => ⟨xs, xs[i], Evl.ex_l e hx, List.getElem?_eq_getElem hi⟩)
    (fun i H' x H'' QG hi e y q => ?_) (fun i hi => hw _ _) (fun i hi => ht i _ (by rw [List.getD_eq_getElem?_getD, List.getElem?_eq_getElem hi]; rfl)) (fun i hi => he i _ (by rw [List.getD_eq_getElem?_getD, List.getElem?_eq_getElem hi]; rfl)) hd
  obtain ⟨T, v, rfl, hT, rfl, hf⟩ := y
  have hv := hf xs (Evl.ex_l e hx)
  have e1 : xs.getD i .non = v := by rw [List.getD_eq_getElem?_getD, hv]; rfl
  refine g_two upd_same ?_
  have q2 := q (Evl.Ex.new hT)
  rw [e1] at q2
  exact q2
theorem lc_list {a : Addr} {xs : List V} {j : Nat} (keep : Nat → Bool) (f : Nat → V) (hx : SqL K H1 a xs) (hD : H1 Dl = none) (hn : xs.length ≤ 100000)
    (hw : ∀ u : V, wipe ((wipe σ vs).set j (some u)) vs = wipe σ vs)
    (ht : ∀ i x, xs[i]? = some x → Evl.EvT tt ((wipe σ vs).set j (some x)) H1 (keep i))
    (he : ∀ i x, xs[i]? = some x → keep i = true → Evl.Ev te ((wipe σ vs).set j (some x)) H1 (f i))
    (hd : ∀ H', Evl.Ex H1 H' → H' Dl = some (.lst (kept xs.length keep f)) → Q (.ref Dl) H') : LcG (Itl K a) (gName j) tt te vs σ Dl H1 Q := by
  refine lc_pure xs.length (fun i => (wipe σ vs).set j (some (xs.getD i .non))) keep f hD hn (fun H' e => ⟨xs, Evl.ex_l e hx, Nat.le_refl _⟩) (fun i H' hi e => ⟨xs, xs[i], Evl.ex_l e hx, List.getElem?_eq_getElem hi⟩)
    (fun i H' x H'' QG hi e y q => ?_) (fun i hi => hw _) (fun i hi => ht i _ (by rw [List.getD_eq_getElem?_getD, List.getElem?_eq_getElem hi]; rfl)) (fun i hi => he i _ (by rw [List.getD_eq_getElem?_getD, List.getElem?_eq_getElem hi]; rfl)) hd
  obtain ⟨rfl, hf⟩ := y
  have hv := hf xs (Evl.ex_l e hx)
  have e1 : xs.getD i .non = x := by rw [List.getD_eq_getElem?_getD, hv]; rfl
  show QG _ _
  rw [← e1]
  exact q (Evl.Ex.refl _)
theorem lc_rng {lo : Int} {n j : Nat} (keep : Nat → Bool) (f : Nat → V) (hD : H1 Dl = none) (hn : n ≤ 100000)
    (hw : ∀ u : V, wipe ((wipe σ vs).set j (some u)) vs = wipe σ vs)
    (ht : ∀ i, i < n → Evl.EvT tt ((wipe σ vs).set j (some (.int (lo + i)))) H1 (keep i))
    (he : ∀ i, i < n → keep i = true → Evl.Ev te ((wipe σ vs).set j (some (.int (lo + i)))) H1 (f i))
    (hd : ∀ H', Evl.Ex H1 H' → H' Dl = some (.lst (kept n keep f)) → Q (.ref Dl) H') : LcG (Itr lo n) (gName j) tt te vs σ Dl H1 Q := by
  refine lc_pure n (fun i => (wipe σ vs).set j (some (.int (lo + i)))) keep f hD hn (fun H' e => Nat.le_refl _) (fun i H' hi e => hi)
    (fun i H' x H'' QG hi e y q => ?_) (fun i hi => hw _) ht he hd
  obtain ⟨rfl, rfl⟩ := y
  exact q (Evl.Ex.refl _)
end
/-! ### operations on values -/
section
variable {K : PySem.W.Frag} {H : Hp} {Q : VK}
theorem isi_int {i : Int} {T : String} {b : Bool} (h : kitB "int" T = some b) (q : Q (.bl b) H) : rIsi K [.int i, .ty T] H Q :=
  ⟨.int i, .ty T, .type "int", .type T, b, rfl, .ty T, .base (.int i), kit_ty h, q⟩
theorem ixL {p : Addr} {xs : List V} {i : Int} {v : V} (h : SqL K H p xs) (hi : atI xs i = some v) (q : Q v H) : rIxL K (.ref p) (.int i) H Q := ⟨p, xs, i, v, rfl, rfl, h, hi, q⟩
theorem setL {p : Addr} {xs : List V} {i : Int} {j : Nat} {v : V} {R : Hp → Prop} (h : H p = some (.lst xs)) (hj : ixN xs.length i = some j) (q : R (upd H p (.lst (xs.set j v)))) : rSetL (.ref p) (.int i) v H R := ⟨p, xs, i, j, rfl, rfl, h, hj, q⟩
theorem repL {p : Addr} {xs : List V} {k : Int} (h : H p = some (.lst xs)) (h1 : -(2 ^ 63) ≤ k) (h2 : k < 2 ^ 63) (hz : xs.length * k.toNat ≤ sizeLine) (q : ∀ l, H l = none → Q (.ref l) (upd H l (.lst (List.replicate k.toNat xs).flatten))) : rRep (.ref p) (.int k) H Q := ⟨p, k, xs, rfl, rfl, h, h1, h2, hz, q⟩
theorem catL {p b : Addr} {xs ys : List V} (h : H p = some (.lst xs)) (hb : H b = some (.lst ys)) (hz : xs.length + ys.length ≤ sizeLine) (q : ∀ l, H l = none → Q (.ref l) (upd H l (.lst (xs ++ ys)))) : rCat (.ref p) (.ref b) H Q := ⟨p, b, xs, ys, rfl, rfl, h, hb, hz, q⟩
theorem sumL {p : Addr} {ns : List Int} (h : SqL K H p (ns.map V.int)) (q : Q (.int ns.sum) H) : rSum K [.ref p] H Q := ⟨p, ns, rfl, h, q⟩
theorem appL {p : Addr} {xs : List V} {y : V} (h : H p = some (.lst xs)) (hz : xs.length < sizeLine) (q : Q .non (upd H p (.lst (xs ++ [y])))) : rAppend (.ref p) [y] H Q := ⟨p, xs, y, rfl, rfl, h, hz, q⟩
theorem tyL {p : Addr} {xs : List V} (h : H p = some (.lst xs)) : tyV K "list" (.ref p) H := Or.inl ⟨rfl, _, Or.inl (Or.inl h)⟩
theorem atI_n {xs : List V} {i : Int} {j : Nat} {v : V} (e : i = (j : Int)) (h : xs[j]? = some v) : atI xs i = some v := by
  subst e
  have hj := (List.getElem?_eq_some_iff.mp h).1
  unfold atI ixN
  rw [if_pos (by omega), if_pos (by omega)]
  exact h
theorem ixN_n {n : Nat} {i : Int} {j : Nat} (e : i = (j : Int)) (h : j < n) : ixN n i = some j := by
  subst e
  unfold ixN
  rw [if_pos (by omega), if_pos (by omega)]
  rfl
theorem sz_ok {n : Nat} (h : n ≤ 100000) : n ≤ sizeLine := Nat.le_trans h (by decide)
theorem sz_lt {n : Nat} (h : n < 100000) : n < sizeLine := Nat.lt_of_lt_of_le h (by decide)
end
end BC

set_option Elab.async false
set_option linter.all false
set_option maxRecDepth 100000
set_option maxHeartbeats 4000000
namespace BC
open PySem PySem.Spec PyProof.Rows L2 Evl RZ
/-! ### all but the object at b stands -/
def Fx (b : Addr) (H H' : Hp) : Prop := ∀ a o, a ≠ b → H a = some o → H' a = some o
theorem Fx.refl (b : Addr) (H : Hp) : Fx b H H := fun _ _ _ h => h
theorem Fx.trans {b : Addr} {H H1 H2 : Hp} (x : Fx b H H1) (y : Fx b H1 H2) : Fx b H H2 := fun a o n h => y a o n (x a o n h)
theorem Fx.of {b : Addr} {H H' : Hp} (e : Ex H H') : Fx b H H' := fun a o _ h => e a o h
theorem Fx.put {b : Addr} {H : Hp} {o : HO} : Fx b H (upd H b o) := fun a u n h => by rw [upd_ne n]; exact h
theorem Fx.ex {b : Addr} {H H' : Hp} (x : Fx b H H') (h : H b = none) : Ex H H' := fun a o e => x a o (ne_of_none e h) e
theorem Fx.l {K : PySem.W.Frag} {b a : Addr} {H H' : Hp} {xs : List V} (x : Fx b H H') (n : a ≠ b) (h : SqL K H a xs) : SqL K H' a xs := by
  rcases h with h | h
  · rcases h with h | ⟨o, h⟩
    · exact .inl (.inl (x a _ n h))
    · exact .inl (.inr ⟨o, x a _ n h⟩)
  · exact .inr h
/-! ### lists -/
theorem cutV_mem {xs : List V} {lo hi : Option Int} {x : V} (h : x ∈ cutV xs lo hi) : x ∈ xs := by
  unfold cutV at h
  exact List.mem_of_mem_drop (List.mem_of_mem_take h)
theorem cutV_len (xs : List V) (lo hi : Option Int) : (cutV xs lo hi).length ≤ xs.length := by
  unfold cutV
  rw [List.length_take, List.length_drop]
  omega
theorem two_at0 {x y r : Int} {n : Nat} (h0 : 0 ≤ r) (h1 : r < 2) (hx0 : 0 ≤ x) (hx1 : x ≤ n) (hy0 : 0 ≤ y) (hy1 : y ≤ n) : ∃ m : Nat, m ≤ n ∧ atI [V.int x, V.int y] r = some (.int m) := by
  by_cases e : r = 0
  · exact ⟨x.toNat, by omega, by rw [Int.toNat_of_nonneg hx0]; exact atI_n (j := 0) e rfl⟩
  · exact ⟨y.toNat, by omega, by rw [Int.toNat_of_nonneg hy0]; exact atI_n (j := 1) (by omega) rfl⟩
theorem two_at {x y r : Int} {n : Nat} (h0 : 0 ≤ r) (h1 : r < 2) (hx0 : 1 ≤ x) (hx1 : x ≤ n) (hy0 : 1 ≤ y) (hy1 : y ≤ n) : ∃ m : Nat, 1 ≤ m ∧ m ≤ n ∧ atI [V.int x, V.int y] r = some (.int m) := by
  by_cases e : r = 0
  · exact ⟨x.toNat, by omega, by omega, by rw [Int.toNat_of_nonneg (by omega)]; exact atI_n (j := 0) e rfl⟩
  · exact ⟨y.toNat, by omega, by omega, by rw [Int.toNat_of_nonneg (by omega)]; exact atI_n (j := 1) (by omega) rfl⟩
/-- a written list read at a drawn place -/
theorem pick {xs : List V} {r : Int} (h0 : 0 ≤ r) (h1 : r < xs.length) : ∃ v, v ∈ xs ∧ atI xs r = some v := by
  have hj : r.toNat < xs.length := by omega
  exact ⟨xs[r.toNat], List.getElem_mem hj, atI_n (j := r.toNat) (by omega) (List.getElem?_eq_getElem hj)⟩
theorem rep_one (n : Nat) (v : V) : (List.replicate n [v]).flatten = List.replicate n v := by
  induction n with
  | zero => rfl
  | succ n ih => rw [List.replicate_succ, List.flatten_cons, ih]; rfl
theorem take_succ {xs : List V} {i : Nat} {v : V} (h : xs[i]? = some v) : xs.take (i + 1) = xs.take i ++ [v] := by
  rw [List.take_add_one, h]
  rfl
theorem log2_small {i : Int} {k : Nat} (hk : 0 < k) (h : i.natAbs < 2 ^ k) : i.natAbs.log2 < k := PySem.Flt.log2_lt_of hk h
/-! ### kinds -/
section
variable {X : Cx} {K : PySem.W.Frag} {H : Hp} {Q : VK}
theorem k_pi_zipA {e e2 : Expr} {ta : TA} {p pos tpos : Pos} {elts : List Expr} {kk : Nat} (hK : X.K = K) (hg : Gl X "zip") (hm : X.mg "zip" = none) (ha : PA X [e, e2] ta)
    (hs : starEach [e, e2] X.env = (false, eval e X.env) :: starEach [e2] X.env := by rfl) (hpl : (backTo pos (starEach [e2] X.env)).any (·.1) = false := by rfl) : PI X (.Tuple elts kk tpos) (.Call (.Name "zip" p) [e, e2] [] pos) (iZipA K ta) := by subst hK; exact pi_zipA hg hm ha hs hpl
theorem k_isiT (hK : X.K = K) : CallR X (.builtin "isinstance") (rIsiT K) := by subst hK; exact call_isiT
theorem tyx_l {a : Addr} {xs : List V} (h : SqL K H a xs) : TyX K H (.ref a) (.type "list") := by
  rcases h with (h | ⟨o, h⟩) | ⟨o, its, n, h, c, _⟩
  · exact .base (.lst h)
  · exact .base (.frz h)
  · exact .kList h c
theorem tyx_t {a : Addr} {xs : List V} (h : SqT K H a xs) : TyX K H (.ref a) (.type "tuple") := by
  rcases h with (h | ⟨o, h⟩) | ⟨o, its, n, h, c, _⟩
  · exact .base (.tup h)
  · exact .fTuple h
  · exact .kTuple h c
def tyn : PyData → String
  | .none => "NoneType"
  | .bool _ => "bool"
  | .int _ => "int"
  | .str _ => "str"
  | .list _ => "list"
  | .tuple _ => "tuple"
  | .dict _ => "dict"
theorem tyx_d {v : V} {d : PyData} (h : Dp K H v d) : TyX K H v (.type (tyn d)) := by
  cases h with
  | non => exact .base .non
  | bl b => exact .base (.bl b)
  | int i => exact .base (.int i)
  | str x => exact .base (.str x)
  | lst h _ => exact tyx_l h
  | tup h _ => exact tyx_t h
theorem isi_x {v : V} {A T : String} {b : Bool} (h : TyX K H v (.type A)) (hk : kitB A T = some b) (q : Q (.bl b) H) : rIsi K [v, .ty T] H Q :=
  ⟨v, .ty T, .type A, .type T, b, rfl, .ty T, h, kit_ty hk, q⟩
theorem kit_two {A B C : String} {b c : Bool} (h1 : kitB A B = some b) (h2 : kitB A C = some c) : PySem.W.kitAny K (.type A) [.type B, .type C] = some (b || c) := by
  refine kitAny_cons (kit_ty h1) (fun e => ?_) (fun e => by rw [e]; rfl)
  subst e
  refine kitAny_cons (kit_ty h2) (fun e => ?_) (fun e => by rw [e]; rfl)
  subst e
  exact kitAny_nil
theorem isiT2 {v : V} {p : Addr} {A B C : String} {b c : Bool} (h : TyX K H v (.type A)) (hp : H p = some (.tup [.ty B, .ty C])) (h1 : kitB A B = some b) (h2 : kitB A C = some c) (q : Q (.bl (b || c)) H) : rIsiT K [v, .ref p] H Q :=
  ⟨v, p, [.ty B, .ty C], .type A, [.type B, .type C], b || c, rfl, hp, .cons (.ty B) (.cons (.ty C) .nil), h, kit_two h1 h2, q⟩
theorem ex_d {H H' : Hp} (e : Ex H H') : ∀ (d : PyData) (v : V), Dp K H v d → Dp K H' v d
  | .none, _, h => by cases h; exact .non
  | .bool _, _, h => by cases h; exact .bl _
  | .int _, _, h => by cases h; exact .int _
  | .str _, _, h => by cases h; exact .str _
  | .dict _, _, h => by cases h
  | .list ds, _, h => by
    cases h with
    | lst h1 h2 => exact .lst (ex_l e h1) (all ds _ h2)
  | .tuple ds, _, h => by
    cases h with
    | tup h1 h2 => exact .tup (ex_t e h1) (all ds _ h2)
where
  all : ∀ (ds : List PyData) (vs : List V), DpAll K H vs ds → DpAll K H' vs ds
  | [], _, h => by cases h; exact .nil
  | d :: ds, _, h => by
    cases h with
    | cons h1 h2 => exact .cons (ex_d e d _ h1) (all ds _ h2)
theorem dp_len : ∀ {vs : List V} {ds : List PyData}, DpAll K H vs ds → vs.length = ds.length
  | _, _, .nil => rfl
  | _, _, .cons _ h => by rw [List.length_cons, List.length_cons, dp_len h]
theorem dp_at : ∀ {vs : List V} {ds : List PyData} {i : Nat} {v : V}, DpAll K H vs ds → vs[i]? = some v → ∃ d, ds[i]? = some d ∧ Dp K H v d
  | _, _, _, _, .nil, e => by simp at e
  | _, _, 0, _, .cons h _, e => by simp at e; subst e; exact ⟨_, rfl, h⟩
  | _, _, i + 1, _, .cons _ h, e => by
    obtain ⟨d, e1, e2⟩ := dp_at (i := i) h (by simpa using e)
    exact ⟨d, by simpa using e1, e2⟩
theorem dp_ints : ∀ ns : List Int, DpAll K H (ns.map V.int) (ns.map PyData.int)
  | [] => .nil
  | n :: ns => .cons (.int n) (dp_ints ns)
/-- data of so many levels, of moderate size -/
inductive Sh : Nat → PyData → Prop
  | non (n : Nat) : Sh n .none
  | bl (n : Nat) (b : Bool) : Sh n (.bool b)
  | int (n : Nat) (i : Int) : Sh n (.int i)
  | str (n : Nat) (x : Str) : Sh n (.str x)
  | lst {n : Nat} {ds : List PyData} (hl : ds.length ≤ 100000) (h : ∀ d ∈ ds, Sh n d) : Sh (n + 1) (.list ds)
  | tup {n : Nat} {ds : List PyData} (hl : ds.length ≤ 100000) (h : ∀ d ∈ ds, Sh n d) : Sh (n + 1) (.tuple ds)
theorem sh_ints (ns : List Int) (h : ns.length ≤ 100000) : Sh 1 (.list (ns.map PyData.int)) := .lst (by rw [List.length_map]; exact h) fun d hd => by
  obtain ⟨n, _, rfl⟩ := List.mem_map.mp hd
  exact .int 0 n
end
/-! ### more readings -/
section
variable {K : PySem.W.Frag} {σ : L2.St} {H H1 : Hp} {g : TG} {tt : TT} {te : TE} {vs : List Nat} {Dl : Addr} {Q : VK}
theorem x_eqB {m n : Bool} : rEq (.bl m) (.bl n) H Q ↔ Q (.bl (decide (m = n))) H := by
  unfold rEq
  rw [show scal (V.bl m) (V.bl n) = true from rfl]
  cases m <;> cases n <;> simp
theorem x_neB {m n : Bool} : rNe (.bl m) (.bl n) H Q ↔ Q (.bl (!decide (m = n))) H := by
  unfold rNe
  rw [show scal (V.bl m) (V.bl n) = true from rfl]
  cases m <;> cases n <;> simp
theorem x_eqS {m n : Str} : rEq (.str m) (.str n) H Q ↔ Q (.bl (decide (m = n))) H := by
  unfold rEq
  rw [show scal (V.str m) (V.str n) = true from rfl]
  by_cases e : m = n
  · subst e; simp
  · simp [e]
theorem x_neS {m n : Str} : rNe (.str m) (.str n) H Q ↔ Q (.bl (!decide (m = n))) H := by
  unfold rNe
  rw [show scal (V.str m) (V.str n) = true from rfl]
  by_cases e : m = n
  · subst e; simp
  · simp [e]
theorem allL {p : Addr} {bs : List Bool} (h : SqL K H p (bs.map V.bl)) (q : Q (.bl (bs.all id)) H) : rAll K [.ref p] H Q := ⟨p, bs, rfl, h, q⟩
theorem anyL {p : Addr} {bs : List Bool} (h : SqL K H p (bs.map V.bl)) (q : Q (.bl (bs.any id)) H) : rAny K [.ref p] H Q := ⟨p, bs, rfl, h, q⟩
theorem lenL {p : Addr} {xs : List V} (h : SqL K H p xs) (q : Q (.int (xs.length : Nat)) H) : rLen K [.ref p] H Q := ⟨p, xs, rfl, .inl h, q⟩
theorem lenT {p : Addr} {xs : List V} (h : SqT K H p xs) (q : Q (.int (xs.length : Nat)) H) : rLen K [.ref p] H Q := ⟨p, xs, rfl, .inr h, q⟩
theorem x_izipA {a : TA} {R : It → Hp → Prop} : iZipA K a σ H R = a σ H (fun vs H1 => ∃ a b xs ys, vs = [.ref a, .ref b] ∧ ((SqL K H1 a xs ∧ SqL K H1 b ys ∧ R (Itz K a b) H1) ∨ (SqT K H1 a xs ∧ SqT K H1 b ys ∧ R (ItzT K a b) H1))) := rfl
theorem eq_same {v : V} (h : scal v v = true) (q : Q (.bl true) H) : rEq v v H Q := ⟨h, by rw [decide_eq_true rfl]; exact q⟩
theorem g_three {i j l : Nat} {T : Addr} {x y z : V} {QG : L2.St → Hp → Prop} (h : H T = some (.tup [x, y, z])) (q : QG (((σ.set i (some x)).set j (some y)).set l (some z)) H) : gTup K 3 (gCons (gName i) (gCons (gName j) (gCons (gName l) gNil))) (.ref T) σ H QG :=
  ⟨T, [x, y, z], rfl, .inl (.inl h), rfl, x, [y, z], rfl, y, [z], rfl, z, [], rfl, rfl, q⟩
theorem lc_zip {a b : Addr} {xs ys : List V} {j k : Nat} (keep : Nat → Bool) (f : Nat → V) (hx : SqL K H1 a xs) (hy : SqL K H1 b ys) (he0 : xs.length = ys.length) (hD : H1 Dl = none) (hn : xs.length ≤ 100000)
    (hw : ∀ u v : V, wipe (((wipe σ vs).set j (some u)).set k (some v)) vs = wipe σ vs)
    (ht : ∀ i x y, xs[i]? = some x → ys[i]? = some y → Evl.EvT tt (((wipe σ vs).set j (some x)).set k (some y)) H1 (keep i))
    (he : ∀ i x y, xs[i]? = some x → ys[i]? = some y → keep i = true → Evl.Ev te (((wipe σ vs).set j (some x)).set k (some y)) H1 (f i))
    (hd : ∀ H', Evl.Ex H1 H' → H' Dl = some (.lst (kept xs.length keep f)) → Q (.ref Dl) H') : LcG (Itz K a b) (gTup K 2 (gCons (gName j) (gCons (gName k) gNil))) tt te vs σ Dl H1 Q := by
  have gx : ∀ i, i < xs.length → xs[i]? = some (xs.getD i .non) := fun i hi => by rw [List.getD_eq_getElem?_getD, List.getElem?_eq_getElem hi]; rfl
  have gy : ∀ i, i < xs.length → ys[i]? = some (ys.getD i .non) := fun i hi => by rw [List.getD_eq_getElem?_getD, List.getElem?_eq_getElem (by omega)]; rfl
  refine lc_pure xs.length (fun i => ((wipe σ vs).set j (some (xs.getD i .non))).set k (some (ys.getD i .non))) keep f hD hn (fun H' e => ⟨xs, ys, Evl.ex_l e hx, Evl.ex_l e hy, .inl (Nat.le_refl _)⟩)
    (fun i H' hi e => ⟨xs, ys, _, _, Evl.ex_l e hx, Evl.ex_l e hy, gx i hi, gy i hi⟩)
    (fun i H' x H'' QG hi e y q => ?_) (fun i hi => hw _ _) (fun i hi => ht i _ _ (gx i hi) (gy i hi)) (fun i hi => he i _ _ (gx i hi) (gy i hi)) hd
  obtain ⟨T, u, v, rfl, hT, rfl, hf, hf2⟩ := y
  have hu := hf xs (Evl.ex_l e hx)
  have hv := hf2 ys (Evl.ex_l e hy)
  have e1 : xs.getD i .non = u := by rw [List.getD_eq_getElem?_getD, hu]; rfl
  have e2 : ys.getD i .non = v := by rw [List.getD_eq_getElem?_getD, hv]; rfl
  refine g_two upd_same ?_
  have q2 := q (Evl.Ex.new hT)
  rw [e1, e2] at q2
  exact q2
theorem lc_zipT {a b : Addr} {xs ys : List V} {j k : Nat} (keep : Nat → Bool) (f : Nat → V) (hx : SqT K H1 a xs) (hy : SqT K H1 b ys) (he0 : xs.length = ys.length) (hD : H1 Dl = none) (hn : xs.length ≤ 100000)
    (hw : ∀ u v : V, wipe (((wipe σ vs).set j (some u)).set k (some v)) vs = wipe σ vs)
    (ht : ∀ i x y, xs[i]? = some x → ys[i]? = some y → Evl.EvT tt (((wipe σ vs).set j (some x)).set k (some y)) H1 (keep i))
    (he : ∀ i x y, xs[i]? = some x → ys[i]? = some y → keep i = true → Evl.Ev te (((wipe σ vs).set j (some x)).set k (some y)) H1 (f i))
    (hd : ∀ H', Evl.Ex H1 H' → H' Dl = some (.lst (kept xs.length keep f)) → Q (.ref Dl) H') : LcG (ItzT K a b) (gTup K 2 (gCons (gName j) (gCons (gName k) gNil))) tt te vs σ Dl H1 Q := by
  have gx : ∀ i, i < xs.length → xs[i]? = some (xs.getD i .non) := fun i hi => by rw [List.getD_eq_getElem?_getD, List.getElem?_eq_getElem hi]; rfl
  have gy : ∀ i, i < xs.length → ys[i]? = some (ys.getD i .non) := fun i hi => by rw [List.getD_eq_getElem?_getD, List.getElem?_eq_getElem (by omega)]; rfl
  refine lc_pure xs.length (fun i => ((wipe σ vs).set j (some (xs.getD i .non))).set k (some (ys.getD i .non))) keep f hD hn (fun H' e => ⟨xs, ys, Evl.ex_t e hx, Evl.ex_t e hy, .inl (Nat.le_refl _)⟩)
    (fun i H' hi e => ⟨xs, ys, _, _, Evl.ex_t e hx, Evl.ex_t e hy, gx i hi, gy i hi⟩)
    (fun i H' x H'' QG hi e y q => ?_) (fun i hi => hw _ _) (fun i hi => ht i _ _ (gx i hi) (gy i hi)) (fun i hi => he i _ _ (gx i hi) (gy i hi)) hd
  obtain ⟨T, u, v, rfl, hT, rfl, hf, hf2⟩ := y
  have hu := hf xs (Evl.ex_t e hx)
  have hv := hf2 ys (Evl.ex_t e hy)
  have e1 : xs.getD i .non = u := by rw [List.getD_eq_getElem?_getD, hu]; rfl
  have e2 : ys.getD i .non = v := by rw [List.getD_eq_getElem?_getD, hv]; rfl
  refine g_two upd_same ?_
  have q2 := q (Evl.Ex.new hT)
  rw [e1, e2] at q2
  exact q2
theorem all_true (n : Nat) : ((List.replicate n true).all id) = true := by
  induction n with
  | zero => rfl
  | succ n ih => rw [List.replicate_succ, List.all_cons, ih]; rfl
theorem kept_const (n : Nat) (v : V) : kept n (fun _ => true) (fun _ => v) = List.replicate n v := by
  rw [kept_all]
  apply List.ext_getElem?
  intro j
  rw [List.getElem?_map]
  by_cases h : j < n
  · rw [List.getElem?_range h, List.getElem?_replicate, if_pos h]
    rfl
  · rw [List.getElem?_eq_none (by rw [List.length_range]; omega), List.getElem?_eq_none (by rw [List.length_replicate]; omega)]
    rfl
end
end BC

set_option Elab.async false
set_option linter.all false
set_option maxRecDepth 100000
set_option maxHeartbeats 4000000
/-! repr of lists wants to know that no repr is under way around: promises that hold where nothing is guarded -/
namespace BC
open PySem PySem.Spec PyProof.Rows L2 Evl
/-- nothing is guarded around -/
def G0 (A : Around) : Prop := A.guards = some []
theorem G0.deeper {A : Around} (g : G0 A) (env : Env) : G0 (A.deeper env) := g
/-- FnOk where nothing is guarded around -/
structure FnG (P : Program) (w : World) (K : PySem.W.Frag) (mg : Str → Option Value) (base : Heap) (CX : CXT) (k : Nat) (f : Addr) (fd : FuncData) (ps : List Str) (sp : Sp) : Prop where
  size : ∀ vs H Q E, sp vs H Q E → vs.length = ps.length
  go : ∀ (A : Around) (outer : List Env) (s : Shared) (H : Hp) (args : Args) (us : List Value) (vs : List V) (Q : VK) (E : XK), G0 A → Room k A → Env0 P w K mg base A outer s H →
    BindsTo s fd args (ps.zip us) → Vals vs us → sp vs H Q E → codeAny (model P w) A (.call (.ref f) args) (CR CX outer P w H s Q E) s
section
variable {P : Program} {w : World} {K : PySem.W.Frag} {mg : Str → Option Value} {base : Heap} {CX : CXT} {k : Nat} {f : Addr} {fd : FuncData} {ps : List Str} {sp : Sp}
theorem FnG.of (F : FnOk P w K mg base CX k f fd ps sp) : FnG P w K mg base CX k f fd ps sp :=
  ⟨F.len, fun A outer s H args us vs Q E _ => F.run A outer s H args us vs Q E⟩
theorem FnG.up (F : FnG P w K mg base CX k f fd ps sp) {j : Nat} (h : k ≤ j) : FnG P w K mg base CX j f fd ps sp :=
  ⟨F.size, fun A outer s H args us vs Q E g hr => F.go A outer s H args us vs Q E g (hr.mono h)⟩
/-- the rule for a def -/
theorem fun_okG {x qual : Str} {st : Stmt} {N : List Str} (F : Fun K x qual st f fd) (S : FnScope N ps (defScope st)) (size : ∀ vs H Q E, sp vs H Q E → vs.length = ps.length)
    (body : ∀ (cdv : Value) (A : Around) (outer : List Env) (s : Shared) (H : Hp) (vs : List V) (Q : VK) (E : XK), G0 (A.deeper (envOfC qual (defScope st) s.heap.objs.size f cdv)) → Room k (A.deeper (envOfC qual (defScope st) s.heap.objs.size f cdv)) → sp vs H Q E →
      ∃ t, PSs (cxOf CX P w K mg base N qual (defScope st) f cdv A outer s H E) (defBody st) t ∧ t { nx := fun _ H' => Q .non H', rt := Q } (start N vs) H) : FnG P w K mg base CX (k + 1) f fd ps sp := by
  obtain ⟨oc, od, kV, doc, pm, an, cdv, ct, osl, rfl, lk, hcd⟩ := F.ex
  refine ⟨size, fun A outer s H args us vs Q E g room env bind vals prom => ?_⟩
  have inK : K.In s.heap := env.mod.kin.keeps fun b o q => (env.bs b o q).1
  have loose : s.heap.NoLimit := env.mod.nolimit.keeps fun b o q => (env.bs b o q).1
  have kinds : ∀ z ∈ ps.zip us, (defScope st).names.lookup z.1 = some .local ∨ ((defScope st).names.lookup z.1 = some .cell ∧ ((cellsFrom (s.heap.objs.size + 1) (defScope st).names []).lookup z.1).isSome = true) := by
    rintro ⟨n, v⟩ hz
    have hn := (List.of_mem_zip hz).1
    rcases S.par n hn with h | h
    · exact Or.inl h
    · exact Or.inr ⟨h, PySem.W.cellsFrom_some _ _ _ (Or.inl h)⟩
  refine codeAny_call_function room.depth (inK _ _ lk) rfl S.co S.gen rfl (PySem.W.codeRec_of inK hcd) (bind _ _ _ _ ?_)
  refine wpAny_newFunctionEnv_cells S.kind kinds fun env' e1 s1 into => ?_
  subst e1
  refine ⟨loose.keeps into.toInCall.keep, codeAny_func ?_⟩
  obtain ⟨t, deriv, read⟩ := body cdv A outer s H vs Q E (g.deeper _) (room.deeper _) prom
  have I := inv_start (CX := CX) (E := E) S room.hd env (size _ _ _ _ prom) vals into
  refine wpAny_mono (deriv.run [] s1 (start N vs) H _ I read) (fun flow s' ends => ?_) fun _ _ q => q
  have done : ∀ {σ2 : L2.St} {H2 : Hp} {v : V} {u : Value}, Inv (cxOf CX P w K mg base N qual (defScope st) f cdv A outer s H E) [] σ2 H2 s' → RelV v u → Q v H2 → CE outer P w H s Q u s' := by
    intro σ2 H2 v u J rel q
    exact ⟨v, H2, J.os, J.bare, J.base, J.hok, rel, q⟩
  match flow, ends with
  | .ret u, ends =>
    obtain ⟨v, σ2, H2, J, rel, q⟩ := ends
    exact done J rel q
  | .next, ends =>
    obtain ⟨σ2, H2, J, q⟩ := ends
    exact done (v := V.non) (u := Value.none) J rfl q
  | .brk, ends =>
    obtain ⟨_, _, _, q⟩ := ends
    exact q.elim
  | .cont, ends =>
    obtain ⟨_, _, _, q⟩ := ends
    exact q.elim
end
section
variable {X : Cx} {CX : CXT} {k : Nat} {f : Addr} {fd : FuncData} {ps : List Str} {sp : Sp} {dvs : List V} {ds : List Value} {E : XK} {x : Str} {p pos : Pos} {e : Expr} {es : List Expr} {t : TA}
theorem call_G {pins : List (Addr × Obj)} {σ : L2.St} {H : Hp} {s : Shared} {Q : VK} {us : List Value} {vs : List V} (F : FnG X.prog X.w X.K X.mg X.base CX k f fd ps sp) (g : G0 X.A) (hr : Room k X.A) (hb : Binds X.K fd ps ds) (hd : Vals dvs ds)
    (hx : Passes CX X E) (I : Inv X pins σ H s) (r : Vals vs us) (h : sp (vs ++ dvs) H Q E) : wpAny (model X.prog X.w) X.A (call (.ref f) us) (EP X pins σ Q) X.xe s := by
  have both : Vals (vs ++ dvs) (us ++ ds) := r.append hd
  have many : (us ++ ds).length = ps.length := both.length.symm.trans (F.size _ _ _ _ h)
  have run := F.go X.A X.stack s H ⟨us, []⟩ (us ++ ds) (vs ++ dvs) Q E g hr I.env0 (hb s us I.kIn many) both h
  refine wpAny_call (codeAny_mono run fun res s' q => ?_)
  match res, q with
  | .error err, q => exact hx pins σ H s err s' I q
  | .ok (.ret u), q => exact I.after q
theorem pe_callG (F : FnG X.prog X.w X.K X.mg X.base CX k f fd ps sp) (g : G0 X.A) (hr : Room k X.A) (hg : Gl X x) (hm : X.mg x = some (.ref f)) (hk : PySem.W.keepIn X.K (.ref f) = true) (hb : Binds X.K fd ps ds) (hd : Vals dvs ds) (hx : Passes CX X E)
    (ha : PA X (e :: es) t) (hdb : (x == ("__debug__" : Str)) = false := by decide) (he : starEach (e :: es) X.env = (false, eval e X.env) :: starEach es X.env := by rfl) (hpl : (backTo pos (starEach es X.env)).any (·.1) = false := by rfl) :
    PE X (.Call (.Name x p) (e :: es) [] pos) (tCall sp dvs E t) := by
  constructor
  intro pins s σ H Q I h
  have args := ha.run pos pins s σ H _ I h
  refine wpAny_Call_Name_kw (ld_glob I hg hm (PySem.W.callWith_K (h₀ := X.base) I.ok.mod.kin hk (thn args ?_) he hpl) hdb)
  rintro us s1 ⟨vs, H1, I1, r, q⟩
  exact ⟨I1.kIn, call_G F g hr hb hd hx I1 r q⟩
end

/-! ### the law's own call, for a promise of this kind -/
section
variable {P : Program} {w : World} {K : PySem.W.Frag} {mg mb : Str → Option Value} {k : Nat} {fa a : Addr} {fd : FuncData} {x : Str} {sp : Sp} {s : Shared} {vs : List Value} {ns : List Int}
/-- the abstract heap at the entry: the script alone, locked; or nothing, where the script is the module's own -/
def entryH (a : Addr) (vs : List Value) (ns : List Int) (own : Bool) : Hp := fun b => if own = false ∧ b = a then some (.frz { cls := .type "list", data := .seq vs.toArray } (.lst (ns.map V.int))) else none
theorem entry_other {own : Bool} {b : Addr} (h : b ≠ a) : entryH a vs ns own b = none := if_neg fun z => h z.2
theorem entry_own {b : Addr} : entryH a vs ns true b = none := if_neg fun z => nomatch z.1
theorem entry_at : entryH a vs ns false a = some (.frz { cls := .type "list", data := .seq vs.toArray } (.lst (ns.map V.int))) := if_pos ⟨rfl, rfl⟩
theorem entry_case {own : Bool} {b : Addr} {o : HO} (h : entryH a vs ns own b = some o) : own = false ∧ b = a ∧ o = .frz { cls := .type "list", data := .seq vs.toArray } (.lst (ns.map V.int)) := by
  unfold entryH at h
  by_cases q : own = false ∧ b = a
  · rw [if_pos q] at h
    exact ⟨q.1, q.2, (Option.some.inj h).symm⟩
  · rw [if_neg q] at h
    cases h
theorem law_goG (hK : K.In s.heap) (hns : s.heap.Ns mainGlobals mg) (hb : s.heap.Ns builtinsNs mb) (hbb : ∀ x : Str, x ≠ "__name__" → mb x = bootBuiltins x) (hlim : s.heap.NoLimit) (hg : s.gens = #[])
    (ha : s.heap.get? a = some { cls := .type "list", data := .seq vs.toArray }) (hi : IntsAre vs ns) (hl : ns.length ≤ sizeLine) (hr : Room k callerA)
    (F : ∀ base : Heap, K.In base → base.Ns mainGlobals mg → FnG P w K mg base CX0 k fa fd [x] sp) (bind : ∀ (s : Shared) (u : Value), BindsTo s fd ⟨[u], []⟩ [(x, u)])
    (prom : ∀ H : Hp, SqL K H a (ns.map V.int) → sp [.ref a] H (fun v _ => v = .bl true) fun _ _ _ => False) :
    codeAny (model P w) callerA (.call (.ref fa) ⟨[.ref a], []⟩) (fun r s' => r = .ok (.ret (.bool true)) ∧ OldK s.heap s'.heap ∧ s'.os = s.os ∧ AllBare s'.gens) s := by
  have rv := vals_ints hi
  have many := hi.length
  obtain ⟨own, hown⟩ : ∃ own : Bool, own = (K.lookup a).isSome := ⟨_, rfl⟩
  let H : Hp := entryH a vs ns own
  have reads : SqL K H a (ns.map V.int) := by
    cases q : K.lookup a with
    | none =>
      have e : own = false := by rw [hown, q]; rfl
      exact Or.inl (Or.inr ⟨_, by show entryH a vs ns own a = _; rw [e]; exact entry_at⟩)
    | some o =>
      have z := hK a o q
      rw [ha] at z
      cases z
      refine Or.inr ⟨_, vs.toArray, _, q, rfl, rfl, rfl, ?_, ?_⟩
      · rw [List.size_toArray, many]
        exact hl
      · exact rv
  have held : HOk P w H s.heap := fun b o q => by
    obtain ⟨_, rfl, rfl⟩ := entry_case q
    exact ⟨ha, by rw [List.length_map]; exact hl, vs, _, rv, ha⟩
  have spare : ∀ {b : Addr} {o : Obj}, s.heap.get? b = some o → (∀ u n, o.data ≠ .seq u n) → H b = none := fun {b o} e d => by
    cases q : H b with
    | none => rfl
    | some u =>
      obtain ⟨_, rfl, _⟩ := entry_case q
      rw [ha] at e
      cases e
      exact absurd rfl (d _ _)
  have nsT : ∀ {b : Addr} {m : Str → Option Value}, s.heap.Ns b m → (hidT s.heap H).Ns b m := by
    rintro b m ⟨o, es, ep, e, d, r⟩
    exact ⟨o, es, ep, hidT_get e (spare e fun u n z => by rw [d] at z; cases z), d, r⟩
  have kT : K.In (hidT s.heap H) := fun b o e => hidT_get (hK b o e) (by
    cases q : H b with
    | none => rfl
    | some u =>
      obtain ⟨z, rfl, _⟩ := entry_case q
      rw [hown, e] at z
      cases z)
  have module : Mod K mg (hidT s.heap H) := ⟨kT, nsT hns, ⟨mb, nsT hb, hbb⟩, by obtain ⟨mc, h1, h2⟩ := hlim; exact ⟨mc, nsT h1, h2⟩⟩
  have entry : Env0 P w K mg (hidT s.heap H) callerA [] s H :=
    ⟨rfl, module, fun b o e => of_hidT e, Nat.le_of_eq (hidT_size _ _), trivial, fun b z => (List.not_mem_nil z).elim, held, .of_eq hg⟩
  have ran := (F _ kT (nsT hns)).go callerA [] s H ⟨[.ref a], []⟩ [.ref a] [.ref a] _ _ rfl hr entry (bind s (.ref a)) (.cons rfl .nil) (prom H reads)
  refine codeAny_mono ran fun r s' q => ?_
  match r, q with
  | .ok (.ret u), q =>
    obtain ⟨v, H', os, bare, un, held', rel, fin⟩ := q
    obtain rfl : v = .bl true := fin
    obtain rfl : u = Value.bool true := rel
    refine ⟨rfl, OldK.of_keep fun b o e => ?_, os, bare⟩
    cases q : H b with
    | none => exact un.keep b o e q (fun z => (List.not_mem_nil z).elim) List.not_mem_nil
    | some u =>
      obtain ⟨_, rfl, rfl⟩ := entry_case q
      have z := (held' _ _ (un.frzs _ _ _ q)).1
      rw [ha] at e
      cases e
      exact z
theorem walk_G {l : PySem.W.OpenLaw} {n k : Nat} {q : Program} {loose : List Str} {XP : (Str → Option Value) → Heap → Prop} {YP : World → Heap → Prop} {d : DefRec} {K : Params → PySem.W.Frag} {sp : World → Sp} {x : Str}
    (hn : l.most = some n) (hn2 : n ≤ sizeLine) (hdf : d.params.defaults = []) (hr : Room k callerA) (hY : ∀ (w : World) (h : Heap), YP w h → (K w.params).In h)
    (F : ∀ (w : World) (mg : Str → Option Value) (fa : Addr) (h : Heap), (K w.params).In h → h.Ns mainGlobals mg → mg d.name = some (.ref fa) →
      ∃ fd : FuncData, (∀ (s : Shared) (u : Value), BindsTo s fd ⟨[u], []⟩ [(x, u)]) ∧ ∀ base : Heap, (K w.params).In base → base.Ns mainGlobals mg → FnG l.prog w (K w.params) mg base CX0 k fa fd [x] (sp w))
    (prom : ∀ (w : World) (H : Hp) (a : Addr) (ns : List Int), ns.length ≤ n → SqL (K w.params) H a (ns.map V.int) → sp w [.ref a] H (fun v _ => v = .bl true) fun _ _ _ => False) :
    PySem.W.WalkO q loose XP YP l.row.toRowW d [] (fun f vs => PySem.call f vs) := by
  refine Att.attach_call hn hdf ?_
  intro w s0 s1 mg mb fa o pm cd doc a vs ns G Y _ hd hcd hmg hobj hints hlen hg
  have inK := hY w _ Y
  obtain ⟨fd, bind, keep⟩ := F w mg fa _ inK G.T.g hmg
  exact law_goG inK G.T.g G.T.b G.T.builtins G.T.nolimit hg hobj hints (Nat.le_trans hlen hn2) hr keep bind fun H hS => prom w H a ns hlen hS
end
end BC

set_option Elab.async false
set_option linter.all false
set_option maxRecDepth 100000
set_option maxHeartbeats 4000000
/-! repr, keywords, more readings -/
namespace BC
open PySem PySem.Spec PyProof.Rows L2 Evl
section
variable {X : Cx} {K : PySem.W.Frag} {σ : L2.St} {H : Hp} {Q : VK}
/-- repr of lists, tuples and what lies in them -/
def rRepr (K : PySem.W.Frag) : List V → Hp → VK → Prop := fun xs H Q => ∃ a d, xs = [.ref a] ∧ Dp K H (.ref a) d ∧ d.showable = true ∧ d.depth ≤ 60 ∧ d.hasDict = false ∧ d.shown.length ≤ sizeLine ∧ Q (.str d.shown) H
theorem k_repr (hK : X.K = K) (g : G0 X.A) (hu : X.A.units + 64 < cLine) : CallR X (.builtin "repr") (rRepr K) := by
  subst hK
  intro pins s σ H xs us Q I r h
  obtain ⟨a, d, rfl, hd, h1, h2, h3, h4, q⟩ := h
  obtain ⟨u, rfl, rfl⟩ := vals1 r
  obtain ⟨as, rd⟩ := Dp.reads I d (.ref a) (.ref a) hd rfl
  exact repr_of_reads' rd h1 (PyData.noDict_hsm h3) g (by omega) (fun _ _ e => e) (fun h' u tk hk => ⟨.str _, H, I.kept hk, ⟨_, rfl⟩, q⟩) h4
def rIsB : R2 := fun x y H Q => ∃ a b, x = .bl a ∧ y = .bl b ∧ Q (.bl (decide (a = b))) H
def rIsNB : R2 := fun x y H Q => ∃ a b, x = .bl a ∧ y = .bl b ∧ Q (.bl (!decide (a = b))) H
theorem op_isB : OpR X (compareOp .Is) rIsB := op_is_bl
theorem op_isNB : OpR X (compareOp .IsNot) rIsNB := op_isnot_bl
theorem x_isB {a b : Bool} : rIsB (.bl a) (.bl b) H Q ↔ Q (.bl (decide (a = b))) H := ⟨fun ⟨i, j, e1, e2, q⟩ => by cases e1; cases e2; exact q, fun q => ⟨a, b, rfl, rfl, q⟩⟩
theorem x_isNB {a b : Bool} : rIsNB (.bl a) (.bl b) H Q ↔ Q (.bl (!decide (a = b))) H := ⟨fun ⟨i, j, e1, e2, q⟩ => by cases e1; cases e2; exact q, fun q => ⟨a, b, rfl, rfl, q⟩⟩
theorem x_lrg {te : L2.St → Hp → (Int → Int → Hp → Prop) → Prop} : tLstRg te σ H Q = te σ H fun a b H1 => RgOk a b ∧ ∀ q, H1 q = none → Q (.ref q) (upd H1 q (.lst (rgV a b))) := rfl
theorem x_rg1 {ta : TE} {R : Int → Int → Hp → Prop} : tRg1 ta σ H R = ta σ H fun x H1 => ∃ n, x = .int n ∧ R 0 n H1 := rfl
theorem x_rg2 {ta tb : TE} {R : Int → Int → Hp → Prop} : tRg2 ta tb σ H R = ta σ H fun x H1 => tb σ H1 fun y H2 => ∃ i j, x = .int i ∧ y = .int j ∧ R i j H2 := rfl
end
theorem Fx.mut {b r : Addr} {H H' : Hp} {o : HO} (f : Fx b H H') (n : H r = none) : Fx b H (upd H' r o) := fun a u na h => by rw [upd_ne (ne_of_none h n)]; exact f a u na h
theorem fx_none {b x : Addr} {H H' : Hp} (h : Fx b H H') (n : H' x = none) (nb : x ≠ b) : H x = none := by
  cases e : H x with
  | none => rfl
  | some o => rw [h _ _ nb e] at n; cases n
/-- a promise that asks for more -/
theorem weak {P : Program} {w : World} {K : PySem.W.Frag} {mg : Str → Option Value} {base : Heap} {CX : CXT} {k : Nat} {f : Addr} {fd : FuncData} {ps : List Str} {sp sp' : Sp} (F : FnOk P w K mg base CX k f fd ps sp) (h : ∀ vs H Q E, sp' vs H Q E → sp vs H Q E) : FnOk P w K mg base CX k f fd ps sp' :=
  ⟨fun vs H Q E q => F.len vs H Q E (h _ _ _ _ q), fun A outer s H args us vs Q E hr env bind vals q => F.run A outer s H args us vs Q E hr env bind vals (h _ _ _ _ q)⟩
/-! ### a cut: what stands after one statement -/
section
variable {σ : L2.St} {H : Hp} {D : Ends} {ta : TE} {s1 s2 : TS} {i : Nat}
theorem seq_asg (C : V → Hp → Prop) (h1 : ∀ R : VK, (∀ v H', C v H' → R v H') → ta σ H R) (h2 : ∀ v H', C v H' → s2 D (σ.set i (some v)) H') : tSeq (tAsg ta (gName i)) s2 D σ H := h1 _ h2
theorem seq_cut (C : L2.St → Hp → Prop) (h1 : ∀ N : L2.St → Hp → Prop, (∀ σ' H', C σ' H' → N σ' H') → s1 { D with nx := N } σ H) (h2 : ∀ σ' H', C σ' H' → s2 D σ' H') : tSeq s1 s2 D σ H := h1 _ h2
end
/-! ### keywords -/
def kg {α : Type} (d : α) (a b : Nat) (perm : List Nat) (us ws : List α) : List α := if us.length = a ∧ ws.length = b then perm.map fun i => (us ++ ws).getD i d else []
theorem vals_getD : ∀ {vs : List V} {us : List Value}, Vals vs us → ∀ i, RelV (vs.getD i .non) (us.getD i .none)
  | [], [], .nil, _ => rfl
  | _ :: _, _ :: _, .cons h _, 0 => h
  | _ :: _, _ :: _, .cons _ r, i + 1 => vals_getD r i
theorem vals_perm {vs : List V} {us : List Value} (r : Vals vs us) : ∀ p : List Nat, Vals (p.map fun i => vs.getD i .non) (p.map fun i => us.getD i .none)
  | [] => .nil
  | i :: p => .cons (vals_getD r i) (vals_perm r p)
theorem kg_rel {a b : Nat} {p : List Nat} {vs : List V} {us : List Value} {zs : List V} {ws : List Value} (r : Vals vs us) (z : Vals zs ws) : Vals (kg .non a b p vs zs) (kg .none a b p us ws) := by
  unfold kg
  rw [r.length, z.length]
  split
  · exact vals_perm (r.append z) p
  · exact .nil
theorem kg_mk {K : PySem.W.Frag} {fd : FuncData} {q : Str} {ps ks : List Str} {a b : Nat} {p : List Nat} (h : ∀ us ws : List Value, us.length = a → ws.length = b → bindArgs fd ⟨us, ks.zip ws⟩ = pure ((q :: ps).zip (p.map fun i => (us ++ ws).getD i .none))) :
    KBinds K fd (q :: ps) ks (kg .none a b p) (kg .non a b p) := by
  refine ⟨fun s us ws _ hl => ?_, kg_rel⟩
  unfold kg at hl ⊢
  split at hl
  · next c =>
    rw [if_pos c]
    exact .of_eq (h us ws c.1 c.2)
  · cases hl
theorem fun_okN {P : Program} {w : World} {K : PySem.W.Frag} {mg : Str → Option Value} {base : Heap} {CX : CXT} {k : Nat} {f : Addr} {fd : FuncData} {ps : List Str} {sp : Sp} {x qual : Str} {st : Stmt} {N : List Str} (F : Fun K x qual st f fd) (S : FnScope N ps (defScope st)) (size : ∀ vs H Q E, sp vs H Q E → vs.length = ps.length)
    (body : ∀ (cdv : Value) (A : Around) (outer : List Env) (s : Shared) (H : Hp) (vs : List V) (Q : VK) (E : XK), G0 (A.deeper (envOfC qual (defScope st) s.heap.objs.size f cdv)) → Room k (A.deeper (envOfC qual (defScope st) s.heap.objs.size f cdv)) → sp vs H Q E →
      ∃ t, PSs (cxOf CX P w K mg base N qual (defScope st) f cdv A outer s H E).nox (defBody st) t ∧ t { nx := fun _ H' => Q .non H', rt := Q } (start N vs) H) : FnG P w K mg base CX (k + 1) f fd ps sp :=
  fun_okG F S size fun cdv A outer s H vs Q E hG hr h => let ⟨t, d, q⟩ := body cdv A outer s H vs Q E hG hr h; ⟨t, d.nox, q⟩
theorem Fun.kb {K : PySem.W.Frag} {x qual q : Str} {st : Stmt} {f : Addr} {fd : FuncData} {ps ks : List Str} {a b : Nat} {p : List Nat} (F : Fun K x qual st f fd)
    (h : ∀ (kV doc pm : Value) (an : Option Addr) (cdv ct : Value) (us ws : List Value), us.length = a → ws.length = b → bindArgs (PySem.W.fnOf x qual (defArgs st) (defBody st) (defScope st) .none kV doc pm an cdv ct) ⟨us, ks.zip ws⟩ = pure ((q :: ps).zip (p.map fun i => (us ++ ws).getD i .none))) :
    KBinds K fd (q :: ps) ks (kg .none a b p) (kg .non a b p) := by
  obtain ⟨oc, od, kV, doc, pm, an, cdv, ct, osl, rfl, lk, hcd⟩ := F.ex
  exact kg_mk (h kV doc pm an cdv ct)
section
variable {X : Cx} {CX : CXT} {k : Nat} {f : Addr} {fd : FuncData} {ps ks : List Str} {sp : Sp} {E : XK} {x : Str} {p pos : Pos} {e : Expr} {es : List Expr} {kws : List Keyword} {t tk : TA} {g : List Value → List Value → List Value} {gV : List V → List V → List V}
theorem pe_callK0 (F : FnOk X.prog X.w X.K X.mg X.base CX k f fd ps sp) (hr : Room k X.A) (hg : Gl X x) (hm : X.mg x = some (.ref f)) (hk : PySem.W.keepIn X.K (.ref f) = true) (hb : KBinds X.K fd ps ks g gV) (hx : Passes CX X E)
    (hkw : PK X kws tk) (hall : (backToKw pos (keywordEach kws X.env)).all (·.1.isSome) = true := by rfl) (hks : (backToKw pos (keywordEach kws X.env)).filterMap (·.1) = ks := by rfl)
    (hdb : (x == ("__debug__" : Str)) = false := by decide)
    (hpl : ((backTo pos (starEach [] X.env)).any (·.1) || (backToKw pos (keywordEach kws X.env)).any (·.1.isNone)) = false := by rfl) :
    PE X (.Call (.Name x p) [] kws pos) (tCallK sp gV E tNil tk) := by
  refine ⟨fun pins s σ H Q I h => ?_⟩
  refine wpAny_Call_Name_kw (ld_glob I hg hm ?_ hdb)
  refine PySem.W.callWith_KW0 (h₀ := X.base) I.ok.mod.kin hk hall (thn (hkw.run pos pins s σ H _ I h) fun ws s2 ⟨zs, H2, I2, rz, q2⟩ => ⟨I2.kIn, ?_⟩) hpl
  rw [hks]
  exact run_fnk F hr hb hx I2 .nil rz q2
theorem run_fnkG {pins : List (Addr × Obj)} {σ : L2.St} {H : Hp} {s : Shared} {Q : VK} {us ws : List Value} {vs zs : List V} (F : FnG X.prog X.w X.K X.mg X.base CX k f fd ps sp) (g0 : G0 X.A) (hr : Room k X.A) (hb : KBinds X.K fd ps ks g gV) (hx : Passes CX X E)
    (I : Inv X pins σ H s) (r : Vals vs us) (rz : Vals zs ws) (h : sp (gV vs zs) H Q E) : wpAny (model X.prog X.w) X.A (call (.ref f) us (ks.zip ws)) (EP X pins σ Q) X.xe s := by
  have r2 := hb.rel r rz
  have hl : (g us ws).length = ps.length := by rw [← r2.length]; exact F.size _ _ _ _ h
  refine wpAny_call (codeAny_mono (F.go X.A X.stack s H ⟨us, ks.zip ws⟩ (g us ws) (gV vs zs) Q E g0 hr I.env0 (hb.to s us ws I.kIn hl) r2 h) fun r s' hq => ?_)
  cases r with
  | error e => exact hx pins σ H s e s' I hq
  | ok fl =>
    cases fl with
    | ret u => exact I.after hq
    | next => exact False.elim hq
    | brk => exact False.elim hq
    | cont => exact False.elim hq
theorem pe_callKG (F : FnG X.prog X.w X.K X.mg X.base CX k f fd ps sp) (g0 : G0 X.A) (hr : Room k X.A) (hg : Gl X x) (hm : X.mg x = some (.ref f)) (hk : PySem.W.keepIn X.K (.ref f) = true) (hb : KBinds X.K fd ps ks g gV) (hx : Passes CX X E)
    (ha : PA X (e :: es) t) (hkw : PK X kws tk) (hall : (backToKw pos (keywordEach kws X.env)).all (·.1.isSome) = true := by rfl) (hks : (backToKw pos (keywordEach kws X.env)).filterMap (·.1) = ks := by rfl)
    (hdb : (x == ("__debug__" : Str)) = false := by decide) (he : starEach (e :: es) X.env = (false, eval e X.env) :: starEach es X.env := by rfl)
    (hpl : ((backTo pos (starEach (e :: es) X.env)).any (·.1) || (backToKw pos (keywordEach kws X.env)).any (·.1.isNone)) = false := by rfl) :
    PE X (.Call (.Name x p) (e :: es) kws pos) (tCallK sp gV E t tk) := by
  refine ⟨fun pins s σ H Q I h => ?_⟩
  refine wpAny_Call_Name_kw (ld_glob I hg hm ?_ hdb)
  refine PySem.W.callWith_KW (h₀ := X.base) I.ok.mod.kin hk hall (thn (ha.run pos pins s σ H _ I h) fun us s1 ⟨vs, H1, I1, r, q⟩ => ?_) hpl he
  refine thn (hkw.run pos pins s1 σ H1 _ I1 q) fun ws s2 ⟨zs, H2, I2, rz, q2⟩ => ⟨I2.kIn, ?_⟩
  rw [hks]
  exact run_fnkG F g0 hr hb hx I2 r rz q2
end
end BC

set_option Elab.async false
set_option linter.all false
set_option maxRecDepth 100000
set_option maxHeartbeats 4000000
/-! xs[:] = ys -/
namespace BC
open PySem PySem.Spec PyProof.Rows L2 Evl
theorem bounds_all (n : Nat) : sliceBounds none none none n = (((0 : Nat) : Int), ((n : Nat) : Int), 1) := by
  simp [sliceBounds]
section
variable {prog : Program} {w : World} {A : Around} {s : Shared} {E : Value → Shared → Prop}
theorem setItem_all {l b sl : Addr} {items new : Array Value} {n n2 : Nat} {vl vu : Value} {Q : Unit → Shared → Prop}
    (e : s.heap.get? l = some { cls := .type "list", data := .seq items n }) (e2 : s.heap.get? b = some { cls := .type "list", data := .seq new n2 }) (hne : l ≠ b)
    (hs : s.heap.IsSliceOf sl vl vu .none) (pl : IsPart vl none) (pu : IsPart vu none)
    (hsz : items.size + new.size ≤ sizeLine) (h : Q () { s with heap := s.heap.update l (Obj.mapSeq fun xs => xs.extract 0 0 ++ new ++ xs.extract items.size xs.size) }) :
    wpAny (model prog w) A (setItem (.ref l) (.ref sl) (.ref b)) Q E s := by
  have hl : s.heap.IsList l items := PySem.IsL.isList e
  have hb : s.heap.IsList b new := PySem.IsL.isList e2
  obtain ⟨os, hos, hcs, hds⟩ := id hs
  have hTs : s.TypeIs (.ref sl) "slice" := ⟨os, hos, hcs⟩
  have hstep : ¬ ((rawPart none == rawInt 0) = true) := Bool.false_ne_true
  have hsame : Builtin.List.listSameRef (.ref l) (.ref b) = false := by
    unfold Builtin.List.listSameRef
    exact beq_eq_false_iff_ne.mpr hne
  have hmax : (max ((0 : Nat) : Int) ((items.size : Nat) : Int)).toNat = items.size := by omega
  have hz' : ((fun xs : Array Value => xs.extract 0 0 ++ new ++ xs.extract items.size xs.size) items).size ≤ sizeLine + 1 := by
    simp only [Array.size_append, Array.size_extract]
    omega
  unfold setItem
  try with_reducible refine wpAny_holding ?_
  first | refine wpAny_bind (wpAny_pure ?_) | skip
  refine wpAny_bind (wpAny_sequenceKey hl.typeIs (by decide) ?_)
  refine wpAny_bind (wpAny_callSpecial?_slot (name := Str.ofString "__setitem__") hl.typeIs slot_list_setitem
    (wpAny_call_entry slot_list_setitem hl.typeIs entry_list_setitem ?_ (args_list_setitem _ _ _)))
  show wpAny _ _ (Builtin.List.listSubscript? (.ref sl) >>= _) _ _ s
  refine wpAny_bind ?_
  unfold Builtin.List.listSubscript?
  refine wpAny_bind (wpAny_specialOf hTs slice_no_index ?_)
  simp only [Option.isNone_none, if_true]
  refine wpAny_pure ?_
  show wpAny _ _ (typeOf (.ref sl) >>= _) _ _ s
  refine wpAny_bind (wpAny_typeOf hTs ?_)
  first
    | rw [if_neg (by decide)]
    | refine PySem.W.KFB.if_not (by decide) ?_
  rw [listSliceParts_eq]
  refine wpAny_bind (wpAny_bind (wpAny_field hos hds (x := .none) rfl (wpAny_bind (wpAny_listPart .none ?_))))
  rw [if_neg hstep]
  refine wpAny_bind (wpAny_field hos hds (x := vl) rfl (wpAny_bind (wpAny_listPart pl ?_)))
  refine wpAny_bind (wpAny_field hos hds (x := vu) rfl (wpAny_bind (wpAny_listPart pu (wpAny_pure ?_))))
  first
    | simp only [hsame, Bool.false_eq_true, if_false]
    | refine PySem.W.KFB.if_not hsame ?_
    | (dsimp only
       rw [if_neg (by rw [hsame]; exact Bool.false_ne_true)])
  refine wpAny_bind (m := Builtin.List.listAllItems (.ref b) "must assign iterable to extended slice") ?_
  unfold Builtin.List.listAllItems
  refine wpAny_bind (wpAny_typeOf hb.typeIs ?_)
  first
    | refine PySem.W.KFB.if_so (by decide) ?_
    | rw [if_pos (by decide)]
    | simp only [beq_self_eq_true, Bool.true_or, if_true]
  unfold Builtin.List.listItems
  refine wpAny_bind (wpAny_seqItems e2 rfl (wpAny_pure ?_))
  refine wpAny_bind (wpAny_bind (wpAny_seqItems e rfl (wpAny_pure ?_)))
  refine wpAny_bind (wpAny_of_eq ((sliceIndices_raw none none none items.size (by simp)).trans (congrArg (pure : Int × Int × Int → Sem (Int × Int × Int)) (bounds_all items.size))) ?_)
  show wpAny _ _ (if ((1 : Int) == 1) = true then _ else _) _ _ s
  rw [if_pos (by decide)]
  refine wpAny_bind (wpAny_rule ?_)
  first
    | simp only [notLongL hsz, Bool.false_eq_true, if_false]
    | refine PySem.W.KFB.if_not (notLongL hsz) ?_
  first | refine wpAny_bind (wpAny_pure ?_) | skip
  show wpAny _ _ (updateSeq l (fun xs => xs.extract 0 ((0 : Nat) : Int).toNat ++ new ++ xs.extract (max ((0 : Nat) : Int) ((items.size : Nat) : Int)).toNat xs.size) >>= _) _ _ s
  rw [hmax, Int.toNat_natCast]
  refine wpAny_bind (wpAny_updateSeq (hz := Nat.le_trans (Nat.le_add_right _ _) hsz) (_hz' := hz') e rfl ?_)
  refine wpAny_bind (wpAny_letGo ?_)
  first
    | exact wpAny_bind (wpAny_pure (wpAny_pure ⟨.none, rfl, wpAny_pure h⟩))
    | exact wpAny_pure ⟨.none, rfl, wpAny_pure h⟩
end
section
variable {X : Cx} {o e : Expr} {to : TE} {p2 pos : Pos}
/-- o[:] = v, both lists -/
def gAll (to : TE) : TG := fun v σ H QG => to σ H fun x H1 => ∃ a b xs ys, x = .ref a ∧ v = .ref b ∧ a ≠ b ∧ H1 a = some (.lst xs) ∧ H1 b = some (.lst ys) ∧ xs.length + ys.length ≤ sizeLine ∧ QG σ (upd H1 a (.lst ys))
theorem set_all {pins : List (Addr × Obj)} {s : Shared} {σ : L2.St} {H : Hp} {l b sl : Addr} {xs ys : List V} {vl vu : Value} {Q : Unit → Shared → Prop} (I : Inv X pins σ H s)
    (hH : H l = some (.lst xs)) (hB : H b = some (.lst ys)) (hne : l ≠ b) (hs : s.heap.IsSliceOf sl vl vu .none) (pl : IsPart vl none) (pu : IsPart vu none)
    (hz : xs.length + ys.length ≤ sizeLine) (h : ∀ s', Inv X pins σ (upd H l (.lst ys)) s' → Q () s') :
    wpAny (model X.prog X.w) X.A (setItem (.ref l) (.ref sl) (.ref b)) Q X.xe s := by
  obtain ⟨z, its, n, r, hl, e⟩ := I.lstM hH
  obtain ⟨z2, its2, n2, r2, hl2, e2⟩ := I.lstM hB
  refine setItem_all e e2 hne hs pl pu (by rw [List.size_toArray, List.size_toArray]; omega) (h _ ?_)
  refine I.lset (its' := its2) (t' := s.toks) hH e ?_ r2 (by omega)
  simp
theorem pg_all (ho : PE X o to)
    (ha0 : ∀ v, assign (.Subscript o (.Slice none none none p2) pos) X.env v = (do
      let ov ← holding [v] (eval o X.env)
      let iv ← holding [v, ov] (eval (.Slice none none none p2) X.env)
      standAt pos
      holding [v, ov, iv] (setItem ov iv v)
      release [iv, v, ov] []) := by intro _; rfl) : PG X (.Subscript o (.Slice none none none p2) pos) (gAll to) := by
  refine ⟨fun pins s σ H v u Q I r h => ?_⟩
  rw [ha0]
  refine wpAny_bind (wpAny_holding (thn (ho.run pins s σ H _ I h) fun ov s1 ⟨x, H1, I1, r1, q1⟩ => ?_))
  obtain ⟨a, b, xs, ys, rfl, rfl, hne, ha, hb, hz, q⟩ := q1
  cases r1
  cases r
  refine wpAny_bind (wpAny_holding ?_)
  refine wpAny_Slice ?_
  rw [evalPart_none]
  refine wpAny_pure ?_
  refine wpAny_pure ?_
  refine wpAny_pure ?_
  have I4 : Inv X pins σ H1 { s1 with heap := s1.heap.push { cls := .type "slice", data := .fields #[.none, .none, .none] } } := I1.kept (t' := s1.toks) fun b ob q => Heap.get?_push_of_some _ q
  refine wpAny_bind (wpAny_standAt (wpAny_bind (wpAny_holding ?_)))
  refine set_all I4 ha hb hne (Heap.IsSliceOf.new ..) .none .none hz fun s' I5 => ?_
  exact wpAny_release ⟨σ, _, I5, q⟩
def rDivmod : List V → Hp → VK → Prop := fun xs H Q => ∃ i j, xs = [.int i, .int j] ∧ CDivW i j ∧ ∀ p, H p = none → Q (.ref p) (upd H p (.tup [.int (i / j), .int (i % j)]))
theorem call_dmX : CallR X (.builtin "divmod") rDivmod := by
  intro pins s σ H xs us Q I r h
  obtain ⟨i, j, rfl, hc, q⟩ := h
  obtain ⟨u, u2, rfl, ⟨t, rfl⟩, ⟨t2, rfl⟩⟩ := vals2 r
  have pos : 0 < j := hc.1
  have new := I.hok.fresh (Nat.le_refl s.heap.objs.size)
  refine divmod_int (by omega) ?_ (.inl (PyProof.noPylong_of_log2 hc.2))
  rw [Int.fdiv_eq_ediv_of_nonneg i (by omega), Int.fmod_eq_emod_of_nonneg i (by omega)]
  refine ⟨.ref s.heap.objs.size, _, ?_, rfl, q _ new⟩
  refine I.laid (fun b o e => Heap.get?_push_of_some _ e) (Nat.le_refl _) ⟨?_, [.int (i / j) s.toks, .int (i % j) (s.toks + 1)], .cons ⟨_, rfl⟩ (.cons ⟨_, rfl⟩ .nil), ?_⟩
  · exact Evl.sz_of (by simp)
  · exact ⟨_, Heap.get?_push_size s.heap rfl, rfl, 0, rfl⟩
theorem x_gall {σ : L2.St} {H : Hp} {v : V} {QG : L2.St → Hp → Prop} : gAll to v σ H QG = to σ H fun x H1 => ∃ a b xs ys, x = .ref a ∧ v = .ref b ∧ a ≠ b ∧ H1 a = some (.lst xs) ∧ H1 b = some (.lst ys) ∧ xs.length + ys.length ≤ sizeLine ∧ QG σ (upd H1 a (.lst ys)) := rfl
end
end BC

set_option Elab.async false
set_option linter.all false
set_option maxRecDepth 100000
set_option maxHeartbeats 4000000
/-! comprehensions that change what stands, or whose values are chosen as they come -/
namespace BC
open PySem PySem.Spec PyProof.Rows L2 Evl
section
variable {K : PySem.W.Frag} {σ : L2.St} {H1 : Hp} {g : TG} {te : TE} {vs : List Nat} {Dl : Addr} {Q : VK}
theorem lc_rngE {lo : Int} {n : Nat} (Pv : Nat → Hp → Prop) (h0 : Pv 0 (upd H1 Dl (.lst [])))
    (hs : ∀ i H, i < n → Pv i H → g (.int (lo + i)) (wipe σ vs) H fun σ2 H2 => wipe σ2 vs = wipe σ vs ∧ te σ2 H2 fun y H4 => ∃ acc, H4 Dl = some (.lst acc) ∧ acc.length < sizeLine ∧ Pv (i + 1) (upd H4 Dl (.lst (acc ++ [y]))))
    (hd : ∀ H, Pv n H → Q (.ref Dl) H) : LcG (Itr lo n) g tYes te vs σ Dl H1 Q := by
  refine lc_g n Pv h0 (fun H h => Nat.le_refl _) (fun i H hi h => hi) (fun i H x H' hi h y => ?_) hd
  obtain ⟨rfl, rfl⟩ := y
  have q := hs i _ hi h
  exact q
theorem lc_listE {a : Addr} {xs : List V} (Pv : Nat → Hp → Prop) (h0 : Pv 0 (upd H1 Dl (.lst []))) (hl : ∀ i H, i ≤ xs.length → Pv i H → SqL K H a xs)
    (hs : ∀ i x H, xs[i]? = some x → Pv i H → g x (wipe σ vs) H fun σ2 H2 => wipe σ2 vs = wipe σ vs ∧ te σ2 H2 fun y H4 => ∃ acc, H4 Dl = some (.lst acc) ∧ acc.length < sizeLine ∧ Pv (i + 1) (upd H4 Dl (.lst (acc ++ [y]))))
    (hd : ∀ H, Pv xs.length H → Q (.ref Dl) H) : LcG (Itl K a) g tYes te vs σ Dl H1 Q := by
  refine lc_g xs.length Pv h0 (fun H h => ⟨xs, hl _ H (Nat.le_refl _) h, Nat.le_refl _⟩) (fun i H hi h => ⟨xs, xs[i], hl i H (by omega) h, List.getElem?_eq_getElem hi⟩) (fun i H x H' hi h y => ?_) hd
  obtain ⟨rfl, hf⟩ := y
  exact hs i x _ (hf xs (hl i _ (by omega) h)) h
end
/-- a fourfold tuple unpacked -/
theorem g_four {K : PySem.W.Frag} {σ : L2.St} {H : Hp} {i j l m : Nat} {T : Addr} {x y z u : V} {QG : L2.St → Hp → Prop} (h : H T = some (.tup [x, y, z, u])) (q : QG ((((σ.set i (some x)).set j (some y)).set l (some z)).set m (some u)) H) : gTup K 4 (gCons (gName i) (gCons (gName j) (gCons (gName l) (gCons (gName m) gNil)))) (.ref T) σ H QG :=
  ⟨T, [x, y, z, u], rfl, .inl (.inl h), rfl, x, [y, z, u], rfl, y, [z, u], rfl, z, [u], rfl, u, [], rfl, rfl, q⟩
theorem revL {H : Hp} {Q : VK} {p : Addr} {xs : List V} (h : H p = some (.lst xs)) (q : Q .non (upd H p (.lst xs.reverse))) : rReverse (.ref p) [] H Q := ⟨p, xs, rfl, rfl, h, q⟩
theorem Sh.mono {n m : Nat} {d : PyData} (h : Sh n d) (e : n ≤ m) : Sh m d := by
  induction h generalizing m with
  | non n => exact .non m
  | bl n b => exact .bl m b
  | int n i => exact .int m i
  | str n x => exact .str m x
  | @lst n ds hl h ih =>
    cases m with
    | zero => omega
    | succ m => exact .lst hl fun d hd => ih d hd (by omega)
  | @tup n ds hl h ih =>
    cases m with
    | zero => omega
    | succ m => exact .tup hl fun d hd => ih d hd (by omega)
end BC

set_option Elab.async false
set_option linter.all false
set_option maxRecDepth 100000
set_option maxHeartbeats 4000000
/-! visits and their trails, lists of numbers, their repr -/
namespace BC
open PySem PySem.Spec PyProof.Rows L2 Evl
/-! ### data whose repr is short -/
structure Tm (d : PyData) : Prop where
  s : d.showable = true
  n : d.hasDict = false
  l : d.leavesShort 13 = true
theorem Tm.int {i : Int} (h : i.natAbs < 10 ^ 12) : Tm (.int i) := ⟨by
  show decide (i.natAbs.log2 < 1920) = true
  refine decide_eq_true ?_
  by_cases z : i.natAbs = 0
  · rw [z]; decide
  · exact (Nat.log2_lt z).mpr (Nat.lt_of_lt_of_le h (by decide +kernel)), rfl, by
  show decide (_ ≤ 13) = true
  exact decide_eq_true (PyData.shown_int_le h)⟩
theorem Tm.all {ds : List PyData} (h : ∀ d ∈ ds, Tm d) : PyData.showableAll ds = true ∧ PyData.hasDictAll ds = false ∧ PyData.leavesShortAll 13 ds = true := by
  induction ds with
  | nil => exact ⟨rfl, rfl, rfl⟩
  | cons d ds ih =>
    have a := h d List.mem_cons_self
    obtain ⟨b1, b2, b3⟩ := ih fun e m => h e (List.mem_cons_of_mem _ m)
    refine ⟨?_, ?_, ?_⟩
    · show (d.showable && _) = true
      rw [a.s, b1]; rfl
    · show (d.hasDict || _) = false
      rw [a.n, b2]; rfl
    · show (d.leavesShort 13 && _) = true
      rw [a.l, b3]; rfl
theorem Tm.list {ds : List PyData} (h : ∀ d ∈ ds, Tm d) : Tm (.list ds) := ⟨by simp only [PyData.showable]; exact (Tm.all h).1, by simp only [PyData.hasDict]; exact (Tm.all h).2.1, by simp only [PyData.leavesShort]; exact (Tm.all h).2.2⟩
theorem Tm.tuple {ds : List PyData} (h : ∀ d ∈ ds, Tm d) : Tm (.tuple ds) := ⟨by simp only [PyData.showable]; exact (Tm.all h).1, by simp only [PyData.hasDict]; exact (Tm.all h).2.1, by simp only [PyData.leavesShort]; exact (Tm.all h).2.2⟩
theorem wt_int {i : Int} (h : i.natAbs < 2 ^ 40) : (PyData.int i).weight ≤ 40 := by
  simp only [PyData.weight]
  split
  · omega
  · next z =>
    have z0 : i.natAbs ≠ 0 := fun e => z (by rw [Int.natAbs_eq_zero.mp e]; rfl)
    have := (Nat.log2_lt z0).mpr h
    omega
theorem wt_all {ds : List PyData} {n : Nat} (h : ∀ d ∈ ds, d.weight ≤ n) : PyData.weightAll ds ≤ (n + 1) * ds.length := by
  induction ds with
  | nil => simp [PyData.weightAll]
  | cons d ds ih =>
    have a := h d List.mem_cons_self
    have b := ih fun e m => h e (List.mem_cons_of_mem _ m)
    simp only [PyData.weightAll, List.length_cons, Nat.mul_add]
    omega
theorem dep_all {ds : List PyData} {n : Nat} (h : ∀ d ∈ ds, d.depth ≤ n) : PyData.depthAll ds ≤ n := by
  induction ds with
  | nil => simp [PyData.depthAll]
  | cons d ds ih =>
    have a := h d List.mem_cons_self
    have b := ih fun e m => h e (List.mem_cons_of_mem _ m)
    simp only [PyData.depthAll]
    omega
section
variable {K : PySem.W.Frag} {H : Hp} {Q : VK} {a : Addr}
theorem reprX {d : PyData} (h : Dp K H (.ref a) d) (t : Tm d) (dp : d.depth ≤ 60) (wt : d.weight ≤ 2 ^ 20) (q : Q (.str d.shown) H) : rRepr K [.ref a] H Q :=
  ⟨a, d, rfl, h, t.s, dp, t.n, PyData.shown_fits (B := 13) (by decide) (by decide) t.l wt, q⟩
/-- what repr of a list of numbers says -/
def shInts (ns : List Int) : Str := (PyData.list (ns.map PyData.int)).shown
theorem reprInts {ns : List Int} (h : SqL K H a (ns.map V.int)) (hs : ∀ n ∈ ns, n.natAbs < 10 ^ 12) (hl : ns.length ≤ 20000) (q : Q (.str (shInts ns)) H) : rRepr K [.ref a] H Q := by
  refine reprX (.lst h (dp_ints ns)) (.list fun d m => ?_) ?_ ?_ q
  · obtain ⟨n, hn, rfl⟩ := List.mem_map.mp m
    exact .int (hs n hn)
  · simp only [PyData.depth]
    have := dep_all (ds := ns.map PyData.int) (n := 0) fun d m => by
      obtain ⟨n, hn, rfl⟩ := List.mem_map.mp m
      simp [PyData.depth]
    omega
  · simp only [PyData.weight]
    have := wt_all (ds := ns.map PyData.int) (n := 40) fun d m => by
      obtain ⟨n, hn, rfl⟩ := List.mem_map.mp m
      exact wt_int (Nat.lt_of_lt_of_le (hs n hn) (by decide +kernel))
    rw [List.length_map] at this
    omega
/-! ### in, index, a part of a list of numbers -/
theorem flat_ints (ns : List Int) : (ns.map V.int).all flatV = true := by
  rw [List.all_eq_true]
  intro x hx
  obtain ⟨n, _, rfl⟩ := List.mem_map.mp hx
  rfl
theorem inV_ints (p : Int) (ns : List Int) : inV (.int p) (ns.map V.int) = decide (p ∈ ns) := by
  unfold inV
  rw [List.any_map]
  by_cases h : p ∈ ns
  · rw [decide_eq_true h, List.any_eq_true]
    exact ⟨p, h, by simp [eqV]⟩
  · rw [decide_eq_false h, List.any_eq_false]
    intro x hx
    have : x ≠ p := fun e => h (e ▸ hx)
    simp [eqV, this]
theorem inL {p : Int} {ns : List Int} (h : SqL K H a (ns.map V.int)) (q : Q (.bl (decide (p ∈ ns))) H) : rIn K false (.int p) (.ref a) H Q :=
  ⟨a, _, rfl, .inl h, rfl, flat_ints ns, by rw [inV_ints]; exact q⟩
theorem ninL {p : Int} {ns : List Int} (h : SqL K H a (ns.map V.int)) (q : Q (.bl (!decide (p ∈ ns))) H) : rIn K true (.int p) (.ref a) H Q :=
  ⟨a, _, rfl, .inl h, rfl, flat_ints ns, by rw [inV_ints]; exact q⟩
theorem idxL {p : Int} {ns : List Int} (h : SqL K H a (ns.map V.int)) (hp : p ∈ ns) (q : Q (.int (ns.idxOf p : Nat)) H) : rIndex K (.ref a) [.int p] H Q := by
  have hl := List.idxOf_lt_length_of_mem hp
  refine ⟨a, _, _, ns.idxOf p, .int p, rfl, rfl, h, rfl, flat_ints ns, ?_, by simp [eqV], fun m z hm hz => ?_, q⟩
  · rw [List.getElem?_map, List.getElem?_eq_getElem hl, List.getElem_idxOf hl]
    rfl
  · rw [List.getElem?_map] at hz
    have hml : m < ns.length := by omega
    rw [List.getElem?_eq_getElem hml] at hz
    cases hz
    have ne : ns[m] ≠ p := fun e => by
      have := List.not_of_lt_findIdx (p := fun x => x == p) (xs := ns) hm
      simp [e] at this
    simp [eqV, ne]
/-- numbers that are kept -/
theorem kept_ints (n : Nat) (k : Nat → Bool) (f : Nat → Int) : ∃ fr : List Int, kept n k (fun i => V.int (f i)) = fr.map V.int ∧ (∀ x ∈ fr, ∃ i, i < n ∧ k i = true ∧ x = f i) ∧ (fr = [] → ∀ i, i < n → k i = false) := by
  induction n with
  | zero => exact ⟨[], rfl, fun x h => (List.not_mem_nil h).elim, fun _ i h => by omega⟩
  | succ n ih =>
    obtain ⟨fr, h1, h2, h3⟩ := ih
    cases c : k n with
    | true =>
      refine ⟨fr ++ [f n], by rw [kept_yes c, h1, List.map_append]; rfl, fun x h => ?_, fun e => by simp at e⟩
      rcases List.mem_append.mp h with h | h
      · obtain ⟨i, a, b⟩ := h2 x h
        exact ⟨i, by omega, b⟩
      · exact ⟨n, by omega, c, List.mem_singleton.mp h⟩
    | false =>
      refine ⟨fr, by rw [kept_no c, h1], fun x h => ?_, fun e i hi => ?_⟩
      · obtain ⟨i, a, b⟩ := h2 x h
        exact ⟨i, by omega, b⟩
      · by_cases q : i = n
        · rw [q]; exact c
        · exact h3 e i (by omega)
theorem rgV_ints (a b : Int) : rgV a b = ((List.range (b - a).toNat).map fun i => a + ((i : Nat) : Int)).map V.int := by
  unfold rgV
  rw [List.map_map]
  rfl
theorem shp_ints (ns : List Int) : SeqAt.shaped (.list (ns.map PyData.int)) = true := by
  have h1 : ∀ ns : List Int, PyData.canLayAll0 (ns.map PyData.int) = true := fun ns => by
    induction ns with
    | nil => simp [PyData.canLayAll0]
    | cons n ns ih => simp [PyData.canLayAll0, PyData.canLay0, ih]
  have h2 := dep_all (ds := ns.map PyData.int) (n := 0) fun d m => by
      obtain ⟨n, hn, rfl⟩ := List.mem_map.mp m
      simp [PyData.depth]
  show (PyData.canLay0 _ && decide (PyData.depth _ ≤ 64)) = true
  rw [Bool.and_eq_true]
  refine ⟨?_, decide_eq_true ?_⟩
  · simp only [PyData.canLay0]; exact h1 ns
  · simp only [PyData.depth]; omega
theorem eqv_ints : ∀ ns ms : List Int, PyData.eqv (.list (ns.map PyData.int)) (.list (ms.map PyData.int)) = decide (ns = ms) := fun ns ms => by
  simp only [PyData.eqv]
  induction ns generalizing ms with
  | nil => cases ms <;> simp [PyData.eqvAll]
  | cons n ns ih =>
    cases ms with
    | nil => simp [PyData.eqvAll]
    | cons m ms =>
      simp only [List.map_cons, PyData.eqvAll, PyData.eqv, ih]
      by_cases h : n = m
      · subst h; simp
      · simp [h]
theorem eqInts {b : Addr} {ns ms : List Int} (h : SqL K H a (ns.map V.int)) (g : SqL K H b (ms.map V.int)) (q : Q (.bl (decide (ns = ms))) H) : rEqD K (.ref a) (.ref b) H Q :=
  ⟨_, _, .lst h (dp_ints ns), .lst g (dp_ints ms), shp_ints ns, shp_ints ms, by rw [eqv_ints]; exact q⟩
theorem neInts {b : Addr} {ns ms : List Int} (h : SqL K H a (ns.map V.int)) (g : SqL K H b (ms.map V.int)) (q : Q (.bl (!decide (ns = ms))) H) : rNeD K (.ref a) (.ref b) H Q :=
  ⟨_, _, .lst h (dp_ints ns), .lst g (dp_ints ms), shp_ints ns, shp_ints ms, by rw [eqv_ints]; exact q⟩
theorem pickI {ns : List Int} {r : Int} (h0 : 0 ≤ r) (h1 : r < ns.length) : ∃ n, n ∈ ns ∧ atI (ns.map V.int) r = some (.int n) := by
  obtain ⟨v, hv, e⟩ := pick (xs := ns.map V.int) h0 (by rw [List.length_map]; exact h1)
  obtain ⟨n, hn, rfl⟩ := List.mem_map.mp hv
  exact ⟨n, hn, e⟩
theorem cut_to (xs : List V) {i : Int} {j : Nat} (e : i = (j : Int)) (h : j ≤ xs.length) : cutV xs none (some i) = xs.take j := by
  subst e
  unfold cutV
  have e1 : HT.sIx xs.length 0 none = 0 := rfl
  rw [HT.sIx_nat, e1, List.drop_zero, Nat.sub_zero, Nat.min_eq_left h]
theorem slL {lo hi : Option Int} {xs : List V} (h : SqL K H a xs) (q : ∀ p, H p = none → Q (.ref p) (upd H p (.lst (cutV xs lo hi)))) : rSlL K (.ref a) lo hi H Q := ⟨a, xs, rfl, h, q⟩
theorem tyLL {xs : List V} (h : SqL K H a xs) : tyV K "list" (.ref a) H := Or.inl ⟨rfl, _, h⟩
end
end BC
namespace TR
/-! ### trails -/
def Pg (w : Int) (l : List Int) : Prop := ∀ x ∈ l, 0 ≤ x ∧ x < w
def vis (t : List Int) (p : Int) : List Int := if p ∈ t then t.take (t.idxOf p + 1) else t ++ [p]
def trl (row : List Int) : List Int := row.foldl vis []
/-- the lengths of the trails -/
def lens (row : List Int) : List Int := (List.range row.length).map fun i => ((trl (row.take (i + 1))).length : Int)
theorem vis_mem {t : List Int} {p x : Int} (h : x ∈ vis t p) : x ∈ t ∨ x = p := by
  unfold vis at h
  split at h
  · exact .inl (List.mem_of_mem_take h)
  · simpa using h
theorem vis_nodup {t : List Int} {p : Int} (h : t.Nodup) : (vis t p).Nodup := by
  unfold vis
  split
  · exact h.sublist (List.take_sublist _ _)
  · next n =>
    rw [List.nodup_append]
    exact ⟨h, List.nodup_cons.mpr ⟨List.not_mem_nil, List.nodup_nil⟩, fun a ha b hb e => n (by simp at hb; rw [← hb, ← e]; exact ha)⟩
theorem vis_pos (t : List Int) (p : Int) : 1 ≤ (vis t p).length := by
  unfold vis
  split
  · next h =>
    have := List.idxOf_lt_length_of_mem h
    rw [List.length_take]; omega
  · rw [List.length_append, List.length_singleton]; omega
theorem vis_le (t : List Int) (p : Int) : (vis t p).length ≤ t.length + 1 := by
  unfold vis
  split
  · rw [List.length_take]; omega
  · rw [List.length_append, List.length_singleton]; omega
theorem vis_pg {w : Int} {t : List Int} {p : Int} (h : Pg w t) (h0 : 0 ≤ p) (h1 : p < w) : Pg w (vis t p) := fun x hx => by
  rcases vis_mem hx with h2 | rfl
  · exact h x h2
  · exact ⟨h0, h1⟩
theorem trl_snoc {row : List Int} {i : Nat} {p : Int} (h : row[i]? = some p) : trl (row.take (i + 1)) = vis (trl (row.take i)) p := by
  unfold trl
  rw [List.take_add_one, h, List.foldl_append]
  rfl
theorem fold_ok {w : Int} : ∀ {row t : List Int}, Pg w row → Pg w t → t.Nodup → Pg w (row.foldl vis t) ∧ (row.foldl vis t).Nodup
  | [], _, _, h2, h3 => ⟨h2, h3⟩
  | p :: row, t, h1, h2, h3 => fold_ok (row := row) (t := vis t p) (fun x hx => h1 x (List.mem_cons_of_mem _ hx)) (vis_pg h2 (h1 p List.mem_cons_self).1 (h1 p List.mem_cons_self).2) (vis_nodup h3)
theorem Pg.take {w : Int} {l : List Int} (h : Pg w l) (n : Nat) : Pg w (l.take n) := fun x hx => h x (List.mem_of_mem_take hx)
theorem Pg.mono {w v : Int} {l : List Int} (h : Pg w l) (e : w ≤ v) : Pg v l := fun x hx => ⟨(h x hx).1, by have := (h x hx).2; omega⟩
theorem Pg.at {w : Int} {l : List Int} (h : Pg w l) {i : Nat} {p : Int} (e : l[i]? = some p) : 0 ≤ p ∧ p < w := h p (List.mem_of_getElem? e)
theorem pg_nil (w : Int) : Pg w [] := fun _ m => (List.not_mem_nil m).elim
theorem trl_pg {w : Int} {row : List Int} (h : Pg w row) : Pg w (trl row) := (fold_ok h (pg_nil w) List.nodup_nil).1
theorem trl_nodup {w : Int} {row : List Int} (h : Pg w row) : (trl row).Nodup := (fold_ok h (pg_nil w) List.nodup_nil).2
/-- so many different pages at most -/
theorem nodup_len : ∀ (n : Nat) {l : List Int}, l.Nodup → Pg n l → l.length ≤ n
  | 0, [], _, _ => Nat.le_refl _
  | 0, x :: l, _, h => by have := h x List.mem_cons_self; omega
  | n + 1, l, h1, h2 => by
    by_cases m : ((n : Nat) : Int) ∈ l
    · have h3 := nodup_len n (l := l.erase (n : Int)) (h1.erase _) (fun x hx => by
        have a := h2 x (List.mem_of_mem_erase hx)
        have b : x ≠ (n : Int) := fun e => by
          rw [h1.mem_erase_iff] at hx
          exact hx.1 e
        omega)
      have := List.length_erase_of_mem m
      omega
    · have h3 := nodup_len n h1 (fun x hx => by
        have a := h2 x hx
        have b : x ≠ (n : Int) := fun e => m (e ▸ hx)
        omega)
      omega
theorem trl_len {n : Nat} {row : List Int} (h : Pg n row) : (trl row).length ≤ n := nodup_len n (trl_nodup h) (trl_pg h)
theorem lens_len (row : List Int) : (lens row).length = row.length := by unfold lens; rw [List.length_map, List.length_range]
theorem lens_at {row : List Int} {i : Nat} (h : i < row.length) : (lens row)[i]? = some ((trl (row.take (i + 1))).length : Int) := by
  unfold lens
  rw [List.getElem?_map, List.getElem?_range h]
  rfl
end TR

set_option Elab.async false
set_option linter.all false
set_option maxRecDepth 100000
set_option maxHeartbeats 4000000
/-! repr of anything that is shown: numbers, texts, None, lists, tuples, empty dicts, at any depth -/
namespace BC
open PySem PySem.Spec PyProof.Rows L2 Evl
mutual
inductive De (K : PySem.W.Frag) (H : Hp) : V → PyData → Prop
  | non : De K H .non .none
  | bl (b : Bool) : De K H (.bl b) (.bool b)
  | int (i : Int) : De K H (.int i) (.int i)
  | str (x : Str) : De K H (.str x) (.str x)
  | lst {a : Addr} {xs : List V} {ds : List PyData} : SqL K H a xs → DeAll K H xs ds → De K H (.ref a) (.list ds)
  | tup {a : Addr} {xs : List V} {ds : List PyData} : SqT K H a xs → DeAll K H xs ds → De K H (.ref a) (.tuple ds)
  | dic {a : Addr} : H a = some (.dK []) → De K H (.ref a) (.dict [])
inductive DeAll (K : PySem.W.Frag) (H : Hp) : List V → List PyData → Prop
  | nil : DeAll K H [] []
  | cons {v : V} {vs : List V} {d : PyData} {ds : List PyData} : De K H v d → DeAll K H vs ds → DeAll K H (v :: vs) (d :: ds)
end
section
variable {X : Cx} {pins : List (Addr × Obj)} {σ : L2.St} {H : Hp} {s : Shared}
/-- what is known of a value that is shown -/
def Shows (X : Cx) (s : Shared) (u : Value) (d : PyData) : Prop :=
  (∃ as, Reads s.heap u d as) ∧ ∃ bs, ReadAtMost s.heap d.depth bs ∧ ReprK X.prog X.w bs s.heap d.depth u d.shown
def ShowsAll (X : Cx) (s : Shared) (us : List Value) (ds : List PyData) : Prop :=
  (∃ as, ReadsAll s.heap us ds as) ∧ ∃ bs, ReadAtMost s.heap (PyData.depthAll ds) bs ∧ ReprAllK X.prog X.w bs s.heap (PyData.depthAll ds) us (PyData.shownAll ds)
theorem empty_dict (I : Inv X pins σ H s) {a : Addr} (e : H a = some (.dK [])) : (a == sysModules) = false ∧ ∃ o n, s.heap.get? a = some o ∧ o.cls = .type "dict" ∧ o.data = .dict #[] n := by
  obtain ⟨_, hs, vs, kv, o, es, ep, ho, hx, hd, _, hm, _⟩ := dk_of I.hok e
  cases kv
  have he : es = #[] := by
    obtain ⟨l⟩ := es
    cases l with
    | nil => rfl
    | cons y l => cases hm
  subst he
  exact ⟨hs, o, ep, ho, hx.1, hd⟩
mutual
theorem De.shows (I : Inv X pins σ H s) : ∀ (d : PyData) (v : V) (u : Value), De X.K H v d → RelV v u → d.showable = true → d.shown.length ≤ sizeLine → Shows X s u d
  | .none, _, _, h, r, _, _ => by
    cases h; cases r
    exact ⟨⟨_, .none⟩, [], (fun _ m => nomatch m), by rw [show PyData.shown .none = ("None" : Str) by simp only [PyData.shown]]; exact .of_is ReprIs.none _ _ _⟩
  | .bool b, _, _, h, r, _, _ => by
    cases h; cases r
    exact ⟨⟨_, .bool b⟩, [], (fun _ m => nomatch m), by simp only [PyData.shown]; exact .of_is (ReprIs.bool b) _ _ _⟩
  | .int i, _, _, h, r, hs, _ => by
    cases h
    obtain ⟨t, rfl⟩ := r
    have h1 : i.natAbs.log2 < 1920 := by simpa [PyData.showable] using hs
    exact ⟨⟨_, .int i t⟩, [], (fun _ m => nomatch m), by simp only [PyData.shown]; exact .of_is (ReprIs.int t h1) _ _ _⟩
  | .str x, _, _, h, r, _, hz => by
    cases h
    obtain ⟨t, rfl⟩ := r
    simp only [PyData.shown] at hz
    exact ⟨⟨_, .str x t⟩, [], (fun _ m => nomatch m), by simp only [PyData.shown]; exact .of_is (ReprIs.str x t hz) _ _ _⟩
  | .list ds, _, _, h, r, hs, hz => by
    cases h with
    | lst hl ha =>
      cases r
      obtain ⟨its, rv, ⟨o, n, ho, hc, _, hd⟩, _⟩ := I.list hl
      simp only [PyData.shown] at hz
      simp only [PyData.showable] at hs
      obtain ⟨⟨as, hr⟩, bs, hb, hk⟩ := DeAll.shows I ds _ its ha rv hs fun t ht => Nat.le_trans (listText_mem_le ht) hz
      have r1 : Reads s.heap _ (.list ds) _ := .list ho hc hd hr
      have na := not_mem_of_deeper r1 (show PyData.depthAll ds < PyData.depth (.list ds) by simp only [PyData.depth]; omega) hb
      refine ⟨⟨_, r1⟩, _ :: bs, ReadAtMost.cons r1 (by simp only [PyData.depth]; omega) hb, ?_⟩
      simp only [PyData.depth, PyData.shown]
      cases its with
      | nil =>
        cases hr
        simp only [PyData.shownAll, listText_nil]
        exact ReprK.listEmpty ho hc hd
      | cons y l => exact ReprK.list ho hc hd na (by simpa using hk.length_eq) (fun i y e => hk.item i y (by simpa using e))
  | .tuple ds, _, _, h, r, hs, hz => by
    cases h with
    | tup hl ha =>
      cases r
      obtain ⟨its, rv, ⟨o, ho, hc, n, hd⟩, _⟩ := I.tuple hl
      simp only [PyData.shown] at hz
      simp only [PyData.showable] at hs
      obtain ⟨⟨as, hr⟩, bs, hb, hk⟩ := DeAll.shows I ds _ its ha rv hs fun t ht => Nat.le_trans (tupleText_mem_le ht) hz
      have r1 : Reads s.heap _ (.tuple ds) _ := .tuple ho hc hd hr
      have na := not_mem_of_deeper r1 (show PyData.depthAll ds < PyData.depth (.tuple ds) by simp only [PyData.depth]; omega) hb
      refine ⟨⟨_, r1⟩, _ :: bs, ReadAtMost.cons r1 (by simp only [PyData.depth]; omega) hb, ?_⟩
      simp only [PyData.depth, PyData.shown]
      exact ReprK.tuple ho hc hd na hk
  | .dict kvs, _, _, h, r, hs, hz => by
    cases h with
    | dic e =>
      cases r
      obtain ⟨hsys, o, n, ho, hc, hd⟩ := empty_dict I e
      have r1 : Reads s.heap _ (.dict []) _ := .dict (kvs := []) ho hc hd .nil .nil
      refine ⟨⟨_, r1⟩, [_], ReadAtMost.cons r1 (Nat.zero_le _) (fun _ m => nomatch m), ?_⟩
      simp only [PyData.depth, PyData.shown, PyData.shownKv, PyData.depthKv]
      exact ReprK.dict ho hc hd hsys List.not_mem_nil .nil
theorem DeAll.shows (I : Inv X pins σ H s) : ∀ (ds : List PyData) (vs : List V) (us : List Value), DeAll X.K H vs ds → Vals vs us → PyData.showableAll ds = true → (∀ t ∈ PyData.shownAll ds, t.length ≤ sizeLine) → ShowsAll X s us ds
  | [], _, _, h, r, _, _ => by
    cases h; cases r
    exact ⟨⟨_, .nil⟩, [], (fun _ m => nomatch m), by simp only [PyData.shownAll]; exact .nil⟩
  | d :: ds, _, _, h, r, hs, hz => by
    cases h with
    | cons h1 h2 =>
      cases r with
      | cons r1 r2 =>
        have hs2 : d.showable = true ∧ PyData.showableAll ds = true := by simpa [PyData.showableAll] using hs
        obtain ⟨⟨as, q1⟩, b1, c1, k1⟩ := De.shows I d _ _ h1 r1 hs2.1 (hz _ (by simp only [PyData.shownAll]; exact List.mem_cons_self))
        obtain ⟨⟨as2, q2⟩, b2, c2, k2⟩ := DeAll.shows I ds _ _ h2 r2 hs2.2 (fun t ht => hz t (by simp only [PyData.shownAll]; exact List.mem_cons_of_mem _ ht))
        refine ⟨⟨_, .cons q1 q2⟩, b1 ++ b2, ReadAtMost.append (c1.mono ?_) (c2.mono ?_), ?_⟩
        · simp only [PyData.depthAll]; omega
        · simp only [PyData.depthAll]; omega
        · simp only [PyData.depthAll, PyData.shownAll]
          exact .cons ((k1.more fun b m => List.mem_append_left _ m).level_le (by omega)) (k2.more_le (fun b m => List.mem_append_right _ m) (by omega))
end
def rReprA (K : PySem.W.Frag) : List V → Hp → VK → Prop := fun xs H Q => ∃ v d, xs = [v] ∧ De K H v d ∧ d.showable = true ∧ d.depth ≤ 60 ∧ d.shown.length ≤ sizeLine ∧ Q (.str d.shown) H
theorem k_reprA {K : PySem.W.Frag} (hK : X.K = K) (g : G0 X.A) (hu : X.A.units + 64 < cLine) : CallR X (.builtin "repr") (rReprA K) := by
  subst hK
  intro pins s σ H xs us Q I r h
  obtain ⟨v, d, rfl, hd, h1, h2, h4, q⟩ := h
  obtain ⟨u, rfl, ru⟩ := vals1 r
  have fin : ∀ (h' : Heap) (t tk : Nat), (∀ b o, s.heap.get? b = some o → h'.get? b = some o) → EP X pins σ Q (.str d.shown t) { s with heap := h', toks := tk } := fun h' t tk hk => ⟨.str _, H, I.kept hk, ⟨_, rfl⟩, q⟩
  cases hd with
  | non =>
    cases ru
    simp only [PyData.shown] at fin
    exact P.repr_of_none (fin s.heap _ _ fun _ _ e => e)
  | bl b =>
    cases ru
    simp only [PyData.shown] at fin
    exact P.repr_of_bool (fin s.heap _ _ fun _ _ e => e)
  | int i =>
    obtain ⟨t, rfl⟩ := ru
    simp only [PyData.shown] at fin
    exact P.repr_of_int (by simpa [PyData.showable] using h1) (fin s.heap _ _ fun _ _ e => e)
  | str x =>
    obtain ⟨t, rfl⟩ := ru
    simp only [PyData.shown] at fin h4
    exact P.repr_of_str (fin s.heap _ _ fun _ _ e => e) h4
  | @lst a ys ds hl ha =>
    cases ru
    obtain ⟨its, rv, ⟨o, n, ho, hc, _, hd⟩, _⟩ := I.list hl
    simp only [PyData.shown] at h4 fin
    simp only [PyData.showable] at h1
    simp only [PyData.depth] at h2
    obtain ⟨⟨as, hr⟩, bs, hb, hk⟩ := DeAll.shows I ds _ its ha rv h1 fun t ht => Nat.le_trans (listText_mem_le ht) h4
    have r1 : Reads s.heap _ (.list ds) _ := .list ho hc hd hr
    have na := not_mem_of_deeper r1 (show PyData.depthAll ds < PyData.depth (.list ds) by simp only [PyData.depth]; omega) hb
    refine call_repr_slot (by omega) ⟨o, ho, hc⟩ PySem.F.slot_list_repr.toG ?_
    cases its with
    | nil =>
      cases hr
      simp only [PyData.shownAll, listText_nil] at fin
      exact call_list_repr_empty ⟨o, ho, hc⟩ ho hd ⟨_, _, rfl, fin s.heap _ _ fun _ _ e => e⟩
    | cons y l => exact call_list_reprK ho hc hd na (by simpa using hk.length_eq) (fun i y e => hk.item i y (by simpa using e)) g (fun b _ => Clear.nil b) (by show X.A.units + 1 + _ < cLine; omega) (fun _ _ e => e) (fun h' u tk k => ⟨_, _, rfl, fin h' u tk k⟩) h4
  | @tup a ys ds hl ha =>
    cases ru
    obtain ⟨its, rv, ⟨o, ho, hc, n, hd⟩, _⟩ := I.tuple hl
    simp only [PyData.shown] at h4 fin
    simp only [PyData.showable] at h1
    simp only [PyData.depth] at h2
    obtain ⟨⟨as, hr⟩, bs, hb, hk⟩ := DeAll.shows I ds _ its ha rv h1 fun t ht => Nat.le_trans (tupleText_mem_le ht) h4
    have r1 : Reads s.heap _ (.tuple ds) _ := .tuple ho hc hd hr
    have na := not_mem_of_deeper r1 (show PyData.depthAll ds < PyData.depth (.tuple ds) by simp only [PyData.depth]; omega) hb
    refine call_repr_slot (by omega) ⟨o, ho, hc⟩ PySem.F.slot_tuple_repr ?_
    exact call_tuple_reprK ho hc hd na hk g (fun b _ => Clear.nil b) (by show X.A.units + 1 + _ < cLine; omega) (fun _ _ e => e) (fun h' u tk k => ⟨_, _, rfl, fin h' u tk k⟩) h4
  | dic e =>
    cases ru
    obtain ⟨hsys, o, n, ho, hc, hd⟩ := empty_dict I e
    simp only [PyData.shown, PyData.shownKv] at h4 fin
    refine call_repr_slot (by omega) ⟨o, ho, hc⟩ PySem.F.slot_dict_repr ?_
    exact call_dict_reprK (as := []) (d := 0) ho hc hd hsys List.not_mem_nil .nil g (fun b _ => Clear.nil b) (by show X.A.units + 1 + _ < cLine; omega) (fun _ _ e => e) (fun h' u tk k => ⟨_, _, rfl, fin h' u tk k⟩) h4
end
/-! ### what is shown stays so, its type, its size -/
section
variable {K : PySem.W.Frag} {H H' : Hp} {Q : VK}
mutual
theorem De.ex (e : Ex H H') : ∀ (d : PyData) (v : V), De K H v d → De K H' v d
  | .none, _, h => by cases h; exact .non
  | .bool _, _, h => by cases h; exact .bl _
  | .int _, _, h => by cases h; exact .int _
  | .str _, _, h => by cases h; exact .str _
  | .dict _, _, h => by
    cases h with
    | dic h1 => exact .dic (e _ _ h1)
  | .list ds, _, h => by
    cases h with
    | lst h1 h2 => exact .lst (ex_l e h1) (DeAll.ex e ds _ h2)
  | .tuple ds, _, h => by
    cases h with
    | tup h1 h2 => exact .tup (ex_t e h1) (DeAll.ex e ds _ h2)
theorem DeAll.ex (e : Ex H H') : ∀ (ds : List PyData) (vs : List V), DeAll K H vs ds → DeAll K H' vs ds
  | [], _, h => by cases h; exact .nil
  | d :: ds, _, h => by
    cases h with
    | cons h1 h2 => exact .cons (De.ex e d _ h1) (DeAll.ex e ds _ h2)
end
theorem De.ty {v : V} {d : PyData} (h : De K H v d) : TyX K H v (.type (tyn d)) := by
  cases h with
  | non => exact .base .non
  | bl b => exact .base (.bl b)
  | int i => exact .base (.int i)
  | str x => exact .base (.str x)
  | lst h _ => exact tyx_l h
  | tup h _ => exact tyx_t h
  | dic h => exact .base (.dK h)
theorem de_ints (ns : List Int) : DeAll K H (ns.map V.int) (ns.map PyData.int) := by
  induction ns with
  | nil => exact .nil
  | cons n ns ih => exact .cons (.int n) ih
theorem DeAll.len {vs : List V} {ds : List PyData} (h : DeAll K H vs ds) : vs.length = ds.length := by
  induction ds generalizing vs with
  | nil => cases h; rfl
  | cons d ds ih =>
    cases h with
    | cons _ h2 => simp [ih h2]
theorem DeAll.at {vs : List V} {ds : List PyData} (h : DeAll K H vs ds) {i : Nat} {v : V} (hv : vs[i]? = some v) : ∃ d, ds[i]? = some d ∧ De K H v d := by
  induction ds generalizing vs i with
  | nil => cases h; simp at hv
  | cons d ds ih =>
    cases h with
    | cons h1 h2 =>
      cases i with
      | zero => cases hv; exact ⟨d, rfl, h1⟩
      | succ i => exact ih h2 (by simpa using hv)
theorem DeAll.app {vs ws : List V} {ds es : List PyData} (h : DeAll K H vs ds) (g : DeAll K H ws es) : DeAll K H (vs ++ ws) (ds ++ es) := by
  induction ds generalizing vs with
  | nil => cases h; exact g
  | cons d ds ih =>
    cases h with
    | cons h1 h2 => exact .cons h1 (ih h2)
/-- shown in few signs -/
structure Gd (n W : Nat) (d : PyData) : Prop where
  s : d.showable = true
  l : d.leavesShort 40 = true
  dp : d.depth ≤ n
  w : d.weight ≤ W
theorem Gd.mono {n W n2 W2 : Nat} {d : PyData} (h : Gd n W d) (a : n ≤ n2) (b : W ≤ W2) : Gd n2 W2 d := ⟨h.s, h.l, Nat.le_trans h.dp a, Nat.le_trans h.w b⟩
theorem Gd.non : Gd 0 0 .none := ⟨rfl, rfl, Nat.le_refl _, Nat.le_refl _⟩
theorem Gd.bl (b : Bool) : Gd 0 0 (.bool b) := ⟨rfl, rfl, Nat.le_refl _, Nat.le_refl _⟩
theorem Gd.dic : Gd 1 0 (.dict []) := ⟨by simp [PyData.showable, PyData.showableKv], by simp [PyData.leavesShort, PyData.leavesShortKv], by simp [PyData.depth, PyData.depthKv], by simp [PyData.weight, PyData.weightKv]⟩
theorem Gd.int {i : Int} (h : i.natAbs < 10 ^ 38) : Gd 0 130 (.int i) := by
  have h2 : i.natAbs < 2 ^ 130 := Nat.lt_trans h (by decide +kernel)
  have hl : i.natAbs.log2 < 130 := log2_small (by decide) h2
  refine ⟨?_, ?_, Nat.le_refl _, ?_⟩
  · show decide (i.natAbs.log2 < 1920) = true
    exact decide_eq_true (by omega)
  · show decide ((PyData.shown (.int i)).length ≤ 40) = true
    refine decide_eq_true ?_
    have e := int_text_length_le10 (k := 38) (by decide) h
    simp only [PyData.shown]
    rw [show ((toString i : String) : Str).length = (toString i).length from PySem.ofString_length _]
    omega
  · simp only [PyData.weight]
    split
    · omega
    · omega
theorem Gd.str {x : Str} (h : (PyData.str x).leavesShort 40 = true) : Gd 0 x.cps.size (.str x) := ⟨rfl, h, Nat.le_refl _, by simp only [PyData.weight]; exact Nat.le_refl _⟩
theorem gd_all {ds : List PyData} {n W : Nat} (h : ∀ d ∈ ds, Gd n W d) : PyData.showableAll ds = true ∧ PyData.leavesShortAll 40 ds = true ∧ PyData.depthAll ds ≤ n ∧ PyData.weightAll ds ≤ (W + 1) * ds.length := by
  induction ds with
  | nil => exact ⟨rfl, rfl, Nat.zero_le _, Nat.zero_le _⟩
  | cons d ds ih =>
    have a := h d List.mem_cons_self
    obtain ⟨b1, b2, b3, b4⟩ := ih fun e m => h e (List.mem_cons_of_mem _ m)
    have := a.dp
    have := a.w
    simp only [PyData.showableAll, PyData.leavesShortAll, PyData.depthAll, PyData.weightAll, List.length_cons, Nat.mul_add, a.s, a.l, b1, b2, Bool.and_self]
    exact ⟨trivial, trivial, by omega, by omega⟩
theorem Gd.list {ds : List PyData} {n W : Nat} (h : ∀ d ∈ ds, Gd n W d) : Gd (n + 1) ((W + 1) * ds.length) (.list ds) := by
  obtain ⟨b1, b2, b3, b4⟩ := gd_all h
  exact ⟨by simp only [PyData.showable]; exact b1, by simp only [PyData.leavesShort]; exact b2, by simp only [PyData.depth]; omega, by simp only [PyData.weight]; exact b4⟩
theorem Gd.tuple {ds : List PyData} {n W : Nat} (h : ∀ d ∈ ds, Gd n W d) : Gd (n + 1) ((W + 1) * ds.length) (.tuple ds) := by
  obtain ⟨b1, b2, b3, b4⟩ := gd_all h
  exact ⟨by simp only [PyData.showable]; exact b1, by simp only [PyData.leavesShort]; exact b2, by simp only [PyData.depth]; omega, by simp only [PyData.weight]; exact b4⟩
theorem Gd.fits {n W : Nat} {d : PyData} (h : Gd n W d) (hW : W ≤ 370000) : d.shown.length ≤ sizeLine := by
  have a := PyData.shown_le 40 (by decide) d h.l
  have b := h.w
  rw [sizeLine_eq]
  omega
theorem reprA {v : V} {d : PyData} {n W : Nat} (h : De K H v d) (g : Gd n W d) (hn : n ≤ 60) (hW : W ≤ 370000) (q : Q (.str d.shown) H) : rReprA K [v] H Q :=
  ⟨v, d, rfl, h, g.s, Nat.le_trans g.dp hn, g.fits hW, q⟩
end
/-! ### values that are shown in few signs; one address hidden -/
def hidB (b : Addr) (H : Hp) : Hp := fun a => if a = b then none else H a
theorem hid_ex {b : Addr} {H : Hp} : Ex (hidB b H) H := fun a o h => by
  unfold hidB at h
  split at h
  · cases h
  · exact h
theorem hid_ne {b a : Addr} {H : Hp} (n : a ≠ b) : hidB b H a = H a := by
  unfold hidB
  rw [if_neg n]
theorem hid_fx {b : Addr} {H H' : Hp} (f : Fx b H H') : Ex (hidB b H) (hidB b H') := fun a o h => by
  unfold hidB at h ⊢
  by_cases e : a = b
  · rw [if_pos e] at h; cases h
  · rw [if_neg e] at h ⊢
    exact f a o e h
theorem hid_of {b : Addr} {H H' : Hp} (e : Ex H H') : Ex (hidB b H) (hidB b H') := hid_fx (fun a o _ h => e a o h)
def Sv (K : PySem.W.Frag) (H : Hp) (n W : Nat) (v : V) : Prop := ∃ d, De K H v d ∧ Gd n W d
section
variable {K : PySem.W.Frag} {H H' : Hp} {Q : VK} {n W : Nat} {v : V}
theorem Sv.ex (h : Sv K H n W v) (e : Ex H H') : Sv K H' n W v := by
  obtain ⟨d, a, g⟩ := h
  exact ⟨d, De.ex e d v a, g⟩
theorem Sv.mono {n2 W2 : Nat} (h : Sv K H n W v) (a : n ≤ n2) (b : W ≤ W2) : Sv K H n2 W2 v := by
  obtain ⟨d, x, g⟩ := h
  exact ⟨d, x, g.mono a b⟩
theorem Sv.non : Sv K H n W .non := ⟨_, .non, Gd.non.mono (Nat.zero_le _) (Nat.zero_le _)⟩
theorem Sv.bl (b : Bool) : Sv K H n W (.bl b) := ⟨_, .bl b, (Gd.bl b).mono (Nat.zero_le _) (Nat.zero_le _)⟩
theorem Sv.int {i : Int} (h : i.natAbs < 10 ^ 38) (hW : 130 ≤ W) : Sv K H n W (.int i) := ⟨_, .int i, (Gd.int h).mono (Nat.zero_le _) hW⟩
theorem Sv.str {x : Str} (h : (PyData.str x).leavesShort 40 = true) (hW : x.cps.size ≤ W) : Sv K H n W (.str x) := ⟨_, .str x, (Gd.str h).mono (Nat.zero_le _) hW⟩
theorem Sv.dic {a : Addr} (h : H a = some (.dK [])) (hn : 1 ≤ n) : Sv K H n W (.ref a) := ⟨_, .dic h, Gd.dic.mono hn (Nat.zero_le _)⟩
theorem sv_all {xs : List V} (h : ∀ x ∈ xs, Sv K H n W x) : ∃ ds, DeAll K H xs ds ∧ (∀ d ∈ ds, Gd n W d) ∧ ds.length = xs.length := by
  induction xs with
  | nil => exact ⟨[], .nil, (fun _ m => nomatch m), rfl⟩
  | cons x xs ih =>
    obtain ⟨d, a, g⟩ := h x List.mem_cons_self
    obtain ⟨ds, b, c, l⟩ := ih fun y m => h y (List.mem_cons_of_mem _ m)
    refine ⟨d :: ds, .cons a b, fun e m => ?_, by simp [l]⟩
    rcases List.mem_cons.mp m with rfl | m
    · exact g
    · exact c e m
theorem Sv.lst {a : Addr} {xs : List V} {W2 n2 : Nat} (h : SqL K H a xs) (hx : ∀ x ∈ xs, Sv K H n W x) (hn : n + 1 ≤ n2) (hW : (W + 1) * xs.length ≤ W2) : Sv K H n2 W2 (.ref a) := by
  obtain ⟨ds, b, c, l⟩ := sv_all hx
  exact ⟨.list ds, .lst h b, (Gd.list c).mono hn (by rw [l]; exact hW)⟩
theorem Sv.tup {a : Addr} {xs : List V} {W2 n2 : Nat} (h : SqT K H a xs) (hx : ∀ x ∈ xs, Sv K H n W x) (hn : n + 1 ≤ n2) (hW : (W + 1) * xs.length ≤ W2) : Sv K H n2 W2 (.ref a) := by
  obtain ⟨ds, b, c, l⟩ := sv_all hx
  exact ⟨.tuple ds, .tup h b, (Gd.tuple c).mono hn (by rw [l]; exact hW)⟩
theorem sv_ints {ns : List Int} (h : ∀ i ∈ ns, i.natAbs < 10 ^ 38) (hW : 130 ≤ W) : ∀ x ∈ ns.map V.int, Sv K H n W x := fun x m => by
  obtain ⟨i, hi, rfl⟩ := List.mem_map.mp m
  exact .int (h i hi) hW
end
/-- a part of a list of numbers is one -/
theorem cut_ints (ns : List Int) (lo hi : Option Int) : ∃ ms : List Int, cutV (ns.map V.int) lo hi = ms.map V.int ∧ ms.length ≤ ns.length ∧ ∀ m ∈ ms, m ∈ ns := by
  have h : ∀ xs : List V, (∀ x ∈ xs, x ∈ ns.map V.int) → ∃ ms : List Int, xs = ms.map V.int ∧ ∀ m ∈ ms, m ∈ ns := fun xs => by
    induction xs with
    | nil => exact fun _ => ⟨[], rfl, fun _ m => nomatch m⟩
    | cons x xs ih =>
      intro hx
      obtain ⟨i, hi, rfl⟩ := List.mem_map.mp (hx x List.mem_cons_self)
      obtain ⟨ms, rfl, hm⟩ := ih fun y m => hx y (List.mem_cons_of_mem _ m)
      refine ⟨i :: ms, rfl, fun m e => ?_⟩
      rcases List.mem_cons.mp e with rfl | e
      · exact hi
      · exact hm m e
  obtain ⟨ms, e, hm⟩ := h _ fun x m => cutV_mem m
  refine ⟨ms, e, ?_, hm⟩
  have := cutV_len (ns.map V.int) lo hi
  rw [e, List.length_map, List.length_map] at this
  exact this
/-! ### new things with the heap left closed -/
section
variable {K : PySem.W.Frag} {H : Hp} {Q : VK}
theorem newE {o : HO} (q : ∀ (p : Addr) (H' : Hp), H p = none → Ex H H' → H' p = some o → Q (.ref p) H') : ∀ p, H p = none → Q (.ref p) (upd H p o) := fun p np => q p _ np (Ex.new np) upd_same
theorem slE {a : Addr} {lo hi : Option Int} {row : List Int} (h : SqL K H a (row.map V.int)) (q : ∀ (p : Addr) (H' : Hp) (ms : List Int), H p = none → Ex H H' → H' p = some (.lst (ms.map V.int)) → ms.length ≤ row.length → (∀ m ∈ ms, m ∈ row) → Q (.ref p) H') : rSlL K (.ref a) lo hi H Q := by
  obtain ⟨ms, e, l, i⟩ := cut_ints row lo hi
  refine slL h fun z nz => ?_
  rw [e]
  exact q z _ ms nz (Ex.new nz) upd_same l i
theorem slXE {a : Addr} {lo hi : Option Int} {xs : List V} (h : SqL K H a xs) (q : ∀ (p : Addr) (H' : Hp) (ys : List V), H p = none → Ex H H' → H' p = some (.lst ys) → ys = cutV xs lo hi → ys.length ≤ xs.length → (∀ m ∈ ys, m ∈ xs) → Q (.ref p) H') : rSlL K (.ref a) lo hi H Q :=
  slL h fun z nz => q z _ _ nz (Ex.new nz) upd_same rfl (cutV_len _ _ _) fun m hm => cutV_mem hm
theorem catE {a b : Addr} {xs ys : List V} (h : H a = some (.lst xs)) (hb : H b = some (.lst ys)) (hz : xs.length + ys.length ≤ 100000) (q : ∀ (p : Addr) (H' : Hp), H p = none → Ex H H' → H' p = some (.lst (xs ++ ys)) → Q (.ref p) H') : rCat (.ref a) (.ref b) H Q :=
  catL h hb (sz_ok hz) (newE q)
theorem repE {a : Addr} {xs : List V} {k : Nat} (h : H a = some (.lst xs)) (hk : k ≤ 100000) (hz : xs.length * k ≤ 100000) (q : ∀ (p : Addr) (H' : Hp), H p = none → Ex H H' → H' p = some (.lst (List.replicate k xs).flatten) → Q (.ref p) H') : rRep (.ref a) (.int k) H Q :=
  repL h (by omega) (by omega) (sz_ok (by simpa using hz)) (by simpa using newE q)
theorem lstE {xs : List V} (hz : xs.length ≤ 100000) (q : ∀ (p : Addr) (H' : Hp), H p = none → Ex H H' → H' p = some (.lst xs) → Q (.ref p) H') : xs.length ≤ sizeLine ∧ ∀ p, H p = none → Q (.ref p) (upd H p (.lst xs)) := ⟨sz_ok hz, newE q⟩
theorem tupE {xs : List V} (hz : xs.length ≤ 100000) (q : ∀ (p : Addr) (H' : Hp), H p = none → Ex H H' → H' p = some (.tup xs) → Q (.ref p) H') : xs.length ≤ sizeLine ∧ ∀ p, H p = none → Q (.ref p) (upd H p (.tup xs)) := ⟨sz_ok hz, newE q⟩
end
end BC

set_option Elab.async false
set_option linter.all false
set_option maxRecDepth 100000
set_option maxHeartbeats 4000000
/-! defs with one keyword-only parameter that has a default -/
namespace BC
open PySem PySem.Spec PyProof.Rows L2 Evl
theorem kwd1 {K : PySem.W.Frag} {x qual : Str} {st : Stmt} {f D : Addr} {ps : List Str} {nm : Str} {v : V} {u : Value} {n : Nat} {oc : Value} {od : Option Addr} {doc pm : Value} {an : Option Addr} {cdv ct : Value} {osl : Array (Option Value)}
    (lk : K.lookup f = some ⟨oc, od, .func (PySem.W.fnOf x qual (defArgs st) (defBody st) (defScope st) .none (.ref D) doc pm an cdv ct), osl⟩) (hcd : PySem.W.codeIn K cdv qual = true) (kp : PySem.W.keepIn K (.ref f) = true)
    (hq : PySem.W.nsIn K D nm = some (some u)) (hr : RelV v u) (hn : n + 1 = ps.length)
    (h : ∀ (D : Addr) (doc pm : Value) (an : Option Addr) (cdv ct : Value) (us ks : List Value), us.length = n → ks.length = 1 →
      KwChain D ([nm].zip ks) (bindArgs (PySem.W.fnOf x qual (defArgs st) (defBody st) (defScope st) .none (.ref D) doc pm an cdv ct) ⟨us, []⟩) (ps.zip (us ++ ks))) :
    ∃ ds, Vals [v] ds ∧ Binds K (PySem.W.fnOf x qual (defArgs st) (defBody st) (defScope st) .none (.ref D) doc pm an cdv ct) ps ds := by
  have F : FunD K x qual (defArgs st) (defBody st) (defScope st) [] [(nm, v)] f (PySem.W.fnOf x qual (defArgs st) (defBody st) (defScope st) .none (.ref D) doc pm an cdv ct) :=
    ⟨⟨oc, od, _, _, doc, pm, an, cdv, ct, osl, rfl, lk, hcd, .inl ⟨rfl, rfl⟩, .inr ⟨D, rfl, fun q hm => by
      obtain rfl : q = (nm, v) := by simpa using hm
      exact ⟨u, hq, hr⟩⟩⟩, kp⟩
  have z := F.binds0 n (by simp) (by simpa using hn) h
  exact z
/-! ### the bag of draws: a list of three numbers -/
def BagAt (H : Hp) (b : Addr) (c : Nat) : Prop := ∃ x0 x1 x2 : Int, H b = some (.lst [.int x0, .int x1, .int x2]) ∧ 0 ≤ x1 ∧ x1 < 10 ^ 65 ∧ 0 ≤ x2 ∧ x2 ≤ c
theorem BagAt.ex {H H' : Hp} {b : Addr} {c : Nat} (h : BagAt H b c) (e : Ex H H') : BagAt H' b c := by
  obtain ⟨x0, x1, x2, hb, r⟩ := h
  exact ⟨x0, x1, x2, e _ _ hb, r⟩
theorem BagAt.mono {H : Hp} {b : Addr} {c d : Nat} (h : BagAt H b c) (e : c ≤ d) : BagAt H b d := by
  obtain ⟨x0, x1, x2, hb, h1, h2, h3, h4⟩ := h
  exact ⟨x0, x1, x2, hb, h1, h2, h3, by omega⟩
theorem BagAt.some {H : Hp} {b : Addr} {c : Nat} (h : BagAt H b c) : ∃ o, H b = Option.some o := by
  obtain ⟨x0, x1, x2, hb, _⟩ := h
  exact ⟨_, hb⟩
theorem BagAt.apart {H : Hp} {b z : Addr} {c : Nat} (h : BagAt H b c) (nz : H z = none) : z ≠ b := fun e => by
  obtain ⟨o, ho⟩ := h.some
  subst e
  rw [ho] at nz
  cases nz
theorem BagAt.off {H : Hp} {b z : Addr} {c : Nat} {o : HO} (h : BagAt H b c) (nz : z ≠ b) : BagAt (upd H z o) b c := by
  obtain ⟨x0, x1, x2, hb, r⟩ := h
  exact ⟨x0, x1, x2, by rw [upd_ne (Ne.symm nz)]; exact hb, r⟩
theorem BagAt.ne {H : Hp} {b z : Addr} {c : Nat} (h : BagAt H b c) (nb : H z = none) : b ≠ z := fun e => h.apart nb e.symm
/-- the greatest number of ways that is drawn from -/
def BIG : Int := 2 ^ 2000
theorem big_of {m : Int} (h : m ≤ 100000) : m ≤ BIG := Int.le_trans h (by decide +kernel)
theorem big_lt {m : Int} (h : 0 < m) (h2 : m ≤ BIG) : m.natAbs < 2 ^ 2001 := by
  have a : m.natAbs ≤ BIG.natAbs := by omega
  exact Nat.lt_of_le_of_lt a (by decide +kernel)
def spDraw : Sp := fun vs H Q _ => ∃ (b : Addr) (m : Int) (c : Nat), vs = [.ref b, .int m] ∧ 0 < m ∧ m ≤ BIG ∧ BagAt H b c ∧ c ≤ 1000000 ∧ ∀ r H', 0 ≤ r → r < m → Fx b H H' → BagAt H' b (c + 1) → Q (.int r) H'
/-! ### lists of lists of numbers, shown -/
def dLL (ls : List (List Int)) : PyData := .list (ls.map fun l => .list (l.map PyData.int))
theorem tm_ints {l : List Int} (h : ∀ x ∈ l, x.natAbs < 10 ^ 12) : Tm (.list (l.map PyData.int)) := .list fun d m => by
  obtain ⟨x, hx, rfl⟩ := List.mem_map.mp m
  exact .int (h x hx)
theorem wt_ints {l : List Int} (h : ∀ x ∈ l, x.natAbs < 10 ^ 12) : (PyData.list (l.map PyData.int)).weight ≤ 41 * l.length := by
  simp only [PyData.weight]
  have := wt_all (ds := l.map PyData.int) (n := 40) fun d m => by
      obtain ⟨n, hn, rfl⟩ := List.mem_map.mp m
      exact wt_int (Nat.lt_of_lt_of_le (h n hn) (by decide +kernel))
  rw [List.length_map] at this
  exact this
theorem dp_ll {K : PySem.W.Frag} {H : Hp} {ps : List Addr} : ∀ {ls : List (List Int)}, ps.length = ls.length → (∀ (i : Nat) (p : Addr) (l : List Int), ps[i]? = some p → ls[i]? = some l → SqL K H p (l.map V.int)) → DpAll K H (ps.map V.ref) (ls.map fun l => PyData.list (l.map PyData.int)) := fun {ls} => by
  induction ps generalizing ls with
  | nil =>
    intro h _
    cases ls with
    | nil => exact .nil
    | cons l ls => simp at h
  | cons p ps ih =>
    intro h g
    cases ls with
    | nil => simp at h
    | cons l ls => exact .cons (.lst (g 0 p l rfl rfl) (dp_ints l)) (ih (by simpa using h) fun i q m a b => g (i + 1) q m (by rw [List.getElem?_cons_succ]; exact a) (by rw [List.getElem?_cons_succ]; exact b))
theorem reprLL {K : PySem.W.Frag} {H : Hp} {Q : VK} {a : Addr} {ls : List (List Int)} {n : Nat} (h : Dp K H (.ref a) (dLL ls)) (hv : ∀ l ∈ ls, ∀ x ∈ l, x.natAbs < 10 ^ 12) (hl : ∀ l ∈ ls, l.length ≤ n) (hz : (41 * n + 1) * ls.length ≤ 2 ^ 20) (q : Q (.str (dLL ls).shown) H) : rRepr K [.ref a] H Q := by
  refine reprX h (.list fun d m => ?_) ?_ ?_ q
  · obtain ⟨l, hm, rfl⟩ := List.mem_map.mp m
    exact tm_ints (hv l hm)
  · unfold dLL
    simp only [PyData.depth]
    have := dep_all (ds := ls.map fun l => PyData.list (l.map PyData.int)) (n := 1) fun d m => by
      obtain ⟨l, hm, rfl⟩ := List.mem_map.mp m
      simp only [PyData.depth]
      have := dep_all (ds := l.map PyData.int) (n := 0) fun d m => by
        obtain ⟨x, hx, rfl⟩ := List.mem_map.mp m
        simp [PyData.depth]
      omega
    omega
  · unfold dLL
    simp only [PyData.weight]
    have := wt_all (ds := ls.map fun l => PyData.list (l.map PyData.int)) (n := 41 * n) fun d m => by
      obtain ⟨l, hm, rfl⟩ := List.mem_map.mp m
      exact Nat.le_trans (wt_ints (hv l hm)) (Nat.mul_le_mul_left _ (hl l hm))
    rw [List.length_map] at this
    omega
theorem k_lenSet {X : Cx} {K : PySem.W.Frag} {a : Expr} {ta : TE} {p p2 q pos : Pos} (hK : X.K = K) (hg : Gl X "len") (hm : X.mg "len" = none) (hg2 : Gl X "set") (hm2 : X.mg "set" = none) (ha : PE X a ta) (hc : X.calm = true := by rfl)
    (na : starEach [a] X.env = (false, eval a X.env) :: starEach [] X.env := by rfl) : PE X (.Call (.Name "len" p) [.Call (.Name "set" p2) [a] [] q] [] pos) (RZ.tLenSetI K ta) := by subst hK; exact RZ.pe_lenSetI hg hm hg2 hm2 ha hc na
theorem x_lenSet {K : PySem.W.Frag} {ta : TE} {σ : L2.St} {H : Hp} {Q : VK} : RZ.tLenSetI K ta σ H Q = ta σ H fun x H1 => ∃ (l : Addr) (ns : List Int), x = .ref l ∧ SqL K H1 l (ns.map V.int) ∧ ns.Nodup ∧ ns.length ≤ 4000 ∧ Q (.int (ns.length : Nat)) H1 := rfl
end BC

set_option Elab.async false
set_option linter.all false
set_option maxRecDepth 100000
set_option maxHeartbeats 4000000
/-! sorted(set(xs)) of a list of numbers -/
namespace BC
open PySem PySem.Spec PyProof.Rows L2 Evl RZ
/-- the set that set() starts with -/
abbrev set0 (w : World) : Obj := { cls := .type "set", dict := none, data := .set #[] 0 (.fresh 0 0 (!w.params.followText "set-order")) }
abbrev with0 (w : World) (s : Shared) : Shared := { s with heap := s.heap.push (set0 w) }
section
variable {P : Program} {w : World} {A : Around} {E : Value → Shared → Prop} {s : Shared}
set_option maxHeartbeats 3200000 in
theorem set_of_list {l : Addr} {its : Array Value} (ns : List Int) {Q : Value → Shared → Prop} (hh : A.handled = none) (hl : s.heap.IsList l its) (hit : IntsAre its.toList ns) (hb : ns.length + 1 < scanBound)
    (fin : ∀ (h' : Heap) (tk c : Nat), SetR w h' s.heap.objs.size (fun j => decide (j ∈ ns)) c → c ≤ ns.length → (∀ b o, s.heap.get? b = some o → h'.get? b = some o) → Q (.ref s.heap.objs.size) { s with heap := h', toks := tk }) :
    wpAny (model P w) A (call (.type "set") [.ref l]) Q E s := by
  have many : its.size = ns.length := by rw [← IntsAre.length hit, Array.length_toList]
  obtain ⟨c, tl, hmro⟩ := F.called_set.mro
  have m1 := F.called_set.made
  have m2 := F.called_set.sub
  refine wpAny_call (codeAny_of_tree (wpAny_pure ⟨Code.quiet_builtin _ (by decide +kernel), codeAny_builtin F.entry_type_call ?_⟩))
  rw [Around.under_plain (weight_type_call_type "set" [.ref l] []) rfl]
  have m3 := F.called_set.notType
  have m4 := F.called_set.canCreate
  have m5 := F.typeCall_set_1 (.ref l)
  repeat (any_goals (first | assumption | wp_step))
  refine codeAny_mono (code_set_led1 (.ref l) (E := E) (Q₁ := fun obj s₁ => obj = .ref s.heap.objs.size ∧ s₁ = with0 w s) ⟨rfl, rfl⟩) fun r s₁ hr => ?_
  match r, hr with
  | .error e, hr => exact hr
  | .ok .next, hr => exact hr.elim
  | .ok .brk, hr => exact hr.elim
  | .ok .cont, hr => exact hr.elim
  | .ok (.ret obj), hr =>
    obtain ⟨rfl, rfl⟩ := hr
    have at0 : (s.heap.push (set0 w)).get? s.heap.objs.size = some (set0 w) := Heap.get?_push_size _ rfl
    have ty0 : Shared.TypeIs (with0 w s) (.ref s.heap.objs.size) "set" := ⟨_, at0, rfl⟩
    have i1 := F.called_set.init.lookup
    have i2 := F.called_set.init.bind (.ref s.heap.objs.size)
    repeat (any_goals (first | assumption | wp_step))
    refine codeAny_mono (codeAny_call_builtin (R := wants (fun r s₂ => r = .none ∧ ∃ h' tk c, s₂ = { s with heap := h', toks := tk } ∧ SetR w h' s.heap.objs.size (fun j => decide (j ∈ ns)) c ∧ c ≤ ns.length ∧ (∀ b o, s.heap.get? b = some o → h'.get? b = some o)) E)
      F.called_set.init.plain F.entry_set_init (check_set_init_1 ty0 ?_)) fun r₂ s₂ hr₂ => ?_
    · obtain ⟨⟨oc, od, dt, osl⟩, old, e1, nl, e2⟩ := hl
      obtain rfl : oc = .type "list" := e1
      obtain rfl : dt = .seq its nl := e2
      have pushed := Heap.get?_push_of_some (set0 w) old
      have isl : (s.heap.push (set0 w)).IsList l its := ⟨_, pushed, rfl, nl, rfl⟩
      have k1 := F.sub_list_set
      have k2 := F.sub_list_frozenset
      have k3 : (Value.type "list" == Value.type "dict") = false := by decide
      have hltl : l < s.heap.objs.size := Heap.lt_size old
      unfold Builtin.«set.__init__» noKeywords Builtin.Frozenset.updateFrom
      generalize hPI : pyIter = PI
      wp_walk
      subst hPI
      refine wpAny_pyIter_list isl (wpAny_bind (wpAny_runValue ?_))
      have calm3 : A.in1.in1.in1.handled = none := by simp [hh]
      have psz : (s.heap.push (set0 w)).objs.size = s.heap.objs.size + 1 := Heap.size_push ..
      have apart : l ≠ (s.heap.push (set0 w)).objs.size := fun z => Nat.lt_irrefl l (by rw [psz] at z; exact Nat.lt_of_lt_of_le hltl (by rw [z]; exact Nat.le_succ _))
      have away : s.heap.objs.size ∉ [(s.heap.push (set0 w)).objs.size, l] := by
        rw [psz]
        intro z
        simp only [List.mem_cons, List.mem_nil_iff, or_false] at z
        rcases z with z | z
        · exact absurd z (Nat.ne_of_lt (Nat.lt_succ_self _))
        · exact absurd z (Nat.ne_of_gt hltl)
      have items : ∀ (i : Nat) (v : Value), its[i]? = some v → ∃ k t, ns[i]? = some k ∧ v = .int k t := fun i v hv => by
        have hi : i < ns.length := by rw [← many]; exact (Array.getElem?_eq_some_iff.mp hv).1
        obtain ⟨t, e⟩ := IntsAre.int_at hit i v (by rw [Array.getElem?_toList]; exact hv)
        refine ⟨ns[i], t, List.getElem?_eq_getElem hi, ?_⟩
        rw [e, List.getD_eq_getElem?_getD, List.getElem?_eq_getElem hi]
        rfl
      refine set_update_ints ((Walks.list calm3 _ l apart its).toS) s.heap.objs.size away ns many hb items its.size 0 _ (by omega) (Nat.zero_le _) ⟨⟨_, Heap.get?_push_size _ rfl, rfl, rfl⟩, (isl.push _)⟩ ⟨0, Nat.le_refl 0, ?_⟩ fun s' c' mv hc' hS' => ?_
      · exact setR_new_at (Heap.get?_push_of_some _ at0)
      · obtain ⟨h', g2, d', tk', os'⟩ := s'
        obtain rfl : g2 = s.gens := mv.gens
        obtain rfl : d' = s.drawn := mv.drawn
        obtain rfl : os' = s.os := mv.os
        refine wpAny_pure (wpAny_pure ⟨rfl, h', tk', c', rfl, hS', by rw [many] at hc'; exact hc', fun b o e => ?_⟩)
        have lt := Heap.lt_size e
        refine mv.heap b o ?_ (Heap.get?_push_of_some _ (Heap.get?_push_of_some _ e))
        intro z
        rw [psz] at z
        simp only [List.mem_cons, List.mem_nil_iff, or_false] at z
        rcases z with z | z
        · exact absurd z (Nat.ne_of_lt lt)
        · exact absurd z (Nat.ne_of_lt (Nat.lt_succ_of_lt lt))
    · match r₂, hr₂ with
      | .error e, hr₂ => exact hr₂
      | .ok .next, hr₂ => exact hr₂.elim
      | .ok .brk, hr₂ => exact hr₂.elim
      | .ok .cont, hr₂ => exact hr₂.elim
      | .ok (.ret r), hr₂ =>
        obtain ⟨rfl, h', tk, c', rfl, q1, q2, q3⟩ := hr₂
        repeat (any_goals (first | assumption | wp_step))
        exact fin _ _ _ q1 q2 q3
end
section
variable {X : Cx} {K : PySem.W.Frag} {a : Expr} {ta : TE} {p p2 q pos : Pos}
/-- sorted(set(xs)): the different numbers in order -/
def tSortSet (K : PySem.W.Frag) (ta : TE) : TE := fun σ H Q => ta σ H fun x H1 => ∃ (l : Addr) (ns : List Int), x = .ref l ∧ SqL K H1 l (ns.map V.int) ∧ ns.length < 64 ∧
  ∀ (ms : List Int) r, ms.Pairwise (· < ·) → (∀ k : Int, k ∈ ms ↔ k ∈ ns) → H1 r = none → Q (.ref r) (upd H1 r (.lst (ms.map V.int)))
theorem k_sortSet (hK : X.K = K) (hg : Gl X "sorted") (hm : X.mg "sorted" = none) (hg2 : Gl X "set") (hm2 : X.mg "set" = none) (ha : PE X a ta) (hc : X.calm = true := by rfl)
    (na : starEach [a] X.env = (false, eval a X.env) :: starEach [] X.env := by rfl) : PE X (.Call (.Name "sorted" p) [.Call (.Name "set" p2) [a] [] q] [] pos) (tSortSet K ta) := by
  subst hK
  refine ⟨fun pins s σ H Q I h => ?_⟩
  refine Call_ (ld_blt I hg hm (show bootBuiltins ("sorted" : Str) = some (.builtin "sorted") by decide +kernel) ?_)
  refine callWith_builtin1 (args_cons ?_ rfl) rfl rfl
  refine Call_ (ld_blt I hg2 hm2 boot_set ?_)
  refine callWith_type1 (args_cons (thn (ha.run pins s σ H _ I h) fun v s1 ⟨x, H1, I1, r1, q1⟩ => args_nil ?_) na) na rfl
  obtain ⟨l, ns, rfl, hq, hl, q1⟩ := q1
  cases r1
  obtain ⟨its, r, pl, hz⟩ := I1.list hq
  refine set_of_list ns (I1.ok.hd hc) pl.isList (by simpa using intsAre_vals r) (by unfold scanBound; omega) fun h' tk c hS hcl hk => ?_
  refine args_nil ?_
  have I2 : Inv X pins σ H1 { s1 with heap := h', toks := tk } := I1.kept hk
  refine sorted_set hS (I2.ok.hd hc) (by omega) fun s' p out c2 ms k g o hp hg hi hs hm hlen => ?_
  have few : (ms.map V.int).length ≤ sizeLine := by rw [List.length_map, hlen, sizeLine_eq]; omega
  have hn : H1 p = none := I2.hok.fresh hp
  have J : Inv X pins σ (upd H1 p (.lst (ms.map V.int))) { ({ s1 with heap := h', toks := tk } : Shared) with heap := s'.heap, gens := s'.gens, drawn := s'.drawn, toks := s'.toks } :=
    I2.call (ch := []) (Un.laid k hp hn) (I2.hok.laid k hp ⟨few, out.toList, c2, vals_of_ints hi, hg⟩) (by rw [g]; exact I2.bare) (fun _ z => nomatch z)
  have e : s' = { ({ s1 with heap := h', toks := tk } : Shared) with heap := s'.heap, gens := s'.gens, drawn := s'.drawn, toks := s'.toks } := by
    cases s'
    cases o
    rfl
  rw [e]
  exact ⟨.ref p, _, J, rfl, q1 ms p hs (fun k => by rw [hm k, decide_eq_true_eq]) hn⟩
theorem x_sortSet {σ : L2.St} {H : Hp} {Q : VK} : tSortSet K ta σ H Q = ta σ H fun x H1 => ∃ (l : Addr) (ns : List Int), x = .ref l ∧ SqL K H1 l (ns.map V.int) ∧ ns.length < 64 ∧
  ∀ (ms : List Int) r, ms.Pairwise (· < ·) → (∀ k : Int, k ∈ ms ↔ k ∈ ns) → H1 r = none → Q (.ref r) (upd H1 r (.lst (ms.map V.int))) := rfl
end
/-- two ascending lists of the same numbers are the same -/
theorem asc_same : ∀ {a b : List Int}, a.Pairwise (· < ·) → b.Pairwise (· < ·) → (∀ k : Int, k ∈ a ↔ k ∈ b) → a = b
  | [], [], _, _, _ => rfl
  | [], y :: b, _, _, h => absurd ((h y).mpr List.mem_cons_self) List.not_mem_nil
  | x :: a, [], _, _, h => absurd ((h x).mp List.mem_cons_self) List.not_mem_nil
  | x :: a, y :: b, ha, hb, h => by
    rw [List.pairwise_cons] at ha hb
    have xy : x = y := by
      have h1 := (h x).mp List.mem_cons_self
      have h2 := (h y).mpr List.mem_cons_self
      rcases List.mem_cons.mp h1 with e | e
      · exact e
      · rcases List.mem_cons.mp h2 with e2 | e2
        · exact e2.symm
        · have := ha.1 y e2
          have := hb.1 x e
          omega
    subst xy
    rw [asc_same ha.2 hb.2 fun k => ⟨fun m => by
      rcases List.mem_cons.mp ((h k).mp (List.mem_cons_of_mem _ m)) with e | e
      · subst e; have := ha.1 k m; omega
      · exact e, fun m => by
      rcases List.mem_cons.mp ((h k).mpr (List.mem_cons_of_mem _ m)) with e | e
      · subst e; have := hb.1 k m; omega
      · exact e⟩]
end BC

set_option Elab.async false
set_option linter.all false
set_option maxRecDepth 100000
set_option maxHeartbeats 4000000
/-! sorted(set(xs)), len(set(xs)) of a longer list of numbers, with doubles -/
namespace BC
open PySem PySem.Spec PyProof.Rows L2 Evl RZ
theorem sub_len : ∀ {a b : List Int}, a.Nodup → (∀ x ∈ a, x ∈ b) → a.length ≤ b.length
  | [], _, _, _ => Nat.zero_le _
  | x :: a, b, nd, h => by
    rw [List.nodup_cons] at nd
    have hx := h x List.mem_cons_self
    have ih := sub_len (a := a) (b := b.erase x) nd.2 fun y hy => (List.mem_erase_of_ne (fun e => nd.1 (by rw [← e]; exact hy))).mpr (h y (List.mem_cons_of_mem _ hy))
    rw [List.length_erase_of_mem hx] at ih
    have := List.length_pos_of_mem hx
    rw [List.length_cons]
    omega
theorem dup_len {a b : List Int} (nd : a.Nodup) (h : ∀ x ∈ a, x ∈ b) (g : ∀ x ∈ b, x ∈ a) (e : a.length = b.length) : b.Nodup := by
  induction b generalizing a with
  | nil => exact List.nodup_nil
  | cons y b ih =>
    have hy := g y List.mem_cons_self
    have el := List.length_erase_of_mem hy
    have pos := List.length_pos_of_mem hy
    by_cases q : y ∈ b
    · have : a.length ≤ b.length := sub_len nd fun x hx => by
        rcases List.mem_cons.mp (h x hx) with rfl | m
        · exact q
        · exact m
      rw [List.length_cons] at e
      omega
    · rw [List.nodup_cons]
      refine ⟨q, ih (a := a.erase y) (nd.erase y) (fun x hx => ?_) (fun x hx => ?_) ?_⟩
      · have hne := (List.Nodup.mem_erase_iff nd).mp hx
        rcases List.mem_cons.mp (h x hne.2) with rfl | m
        · exact absurd rfl hne.1
        · exact m
      · exact (List.Nodup.mem_erase_iff nd).mpr ⟨fun z => q (by rw [← z]; exact hx), g x (List.mem_cons_of_mem _ hx)⟩
      · rw [List.length_cons] at e
        omega
theorem range_len {a : List Int} {m : Nat} (nd : a.Nodup) (h : ∀ x ∈ a, 0 ≤ x ∧ x < m) : a.length ≤ m := by
  have := sub_len (b := (List.range m).map fun i : Nat => (i : Int)) nd fun x hx => by
    have := h x hx
    exact List.mem_map.mpr ⟨x.toNat, List.mem_range.mpr (by omega), by show ((x.toNat : Nat) : Int) = x; omega⟩
  rw [List.length_map, List.length_range] at this
  exact this
section
variable {w : World} {h : Heap} {a : Addr} {S : Int → Bool} {n m : Nat}
theorem setR_few (R : SetR w h a S n) (hb : ∀ k, S k = true → 0 ≤ k ∧ k < m) : n ≤ m := by
  obtain ⟨o, es, ep, t, ho, hex, hd, g, nd, hm, hbd, hf, hn, hr, hl⟩ := R
  have := range_len (m := m) nd fun x hx => hb x ((hm x).mpr hx)
  rw [List.length_map, Array.length_toList] at this
  omega
theorem setR_count {ns : List Int} (R : SetR w h a (fun j => decide (j ∈ ns)) n) : n = ns.length ↔ ns.Nodup := by
  obtain ⟨o, es, ep, t, ho, hex, hd, g, nd, hm, hbd, hf, hn, hr, hl⟩ := R
  have sub : ∀ x ∈ es.toList.map keyOf, x ∈ ns := fun x hx => of_decide_eq_true ((hm x).mpr hx)
  have sup : ∀ x ∈ ns, x ∈ es.toList.map keyOf := fun x hx => (hm x).mp (decide_eq_true hx)
  have e1 : (es.toList.map keyOf).length = n := by rw [List.length_map, Array.length_toList]; exact hn
  constructor
  · intro e
    exact dup_len nd sub sup (by rw [e1]; exact e)
  · intro q
    have := sub_len q sup
    have := sub_len nd sub
    omega
end
section
variable {X : Cx} {K : PySem.W.Frag} {a : Expr} {ta : TE} {p p2 q pos : Pos}
/-- sorted(set(xs)): numbers below 60, as many as there are -/
def tSortSetB (K : PySem.W.Frag) (ta : TE) : TE := fun σ H Q => ta σ H fun x H1 => ∃ (l : Addr) (ns : List Int), x = .ref l ∧ SqL K H1 l (ns.map V.int) ∧ ns.length ≤ 4000 ∧ (∀ k ∈ ns, 0 ≤ k ∧ k < (60 : Nat)) ∧
  ∀ (ms : List Int) r, ms.Pairwise (· < ·) → (∀ k : Int, k ∈ ms ↔ k ∈ ns) → H1 r = none → Q (.ref r) (upd H1 r (.lst (ms.map V.int)))
theorem k_sortSetB (hK : X.K = K) (hg : Gl X "sorted") (hm : X.mg "sorted" = none) (hg2 : Gl X "set") (hm2 : X.mg "set" = none) (ha : PE X a ta) (hc : X.calm = true := by rfl)
    (na : starEach [a] X.env = (false, eval a X.env) :: starEach [] X.env := by rfl) : PE X (.Call (.Name "sorted" p) [.Call (.Name "set" p2) [a] [] q] [] pos) (tSortSetB K ta) := by
  subst hK
  refine ⟨fun pins s σ H Q I h => ?_⟩
  refine Call_ (ld_blt I hg hm (show bootBuiltins ("sorted" : Str) = some (.builtin "sorted") by decide +kernel) ?_)
  refine callWith_builtin1 (args_cons ?_ rfl) rfl rfl
  refine Call_ (ld_blt I hg2 hm2 boot_set ?_)
  refine callWith_type1 (args_cons (thn (ha.run pins s σ H _ I h) fun v s1 ⟨x, H1, I1, r1, q1⟩ => args_nil ?_) na) na rfl
  obtain ⟨l, ns, rfl, hq, hl, hb, q1⟩ := q1
  cases r1
  obtain ⟨its, r, pl, hz⟩ := I1.list hq
  refine set_of_list ns (I1.ok.hd hc) pl.isList (by simpa using intsAre_vals r) (by unfold scanBound; omega) fun h' tk c hS hcl hk => ?_
  refine args_nil ?_
  have I2 : Inv X pins σ H1 { s1 with heap := h', toks := tk } := I1.kept hk
  have few60 := setR_few (m := 60) hS fun k hk => hb k (of_decide_eq_true hk)
  refine sorted_set hS (I2.ok.hd hc) (by omega) fun s' p out c2 ms k g o hp hg hi hs hm hlen => ?_
  have few : (ms.map V.int).length ≤ sizeLine := by rw [List.length_map, hlen, sizeLine_eq]; omega
  have hn : H1 p = none := I2.hok.fresh hp
  have J : Inv X pins σ (upd H1 p (.lst (ms.map V.int))) { ({ s1 with heap := h', toks := tk } : Shared) with heap := s'.heap, gens := s'.gens, drawn := s'.drawn, toks := s'.toks } :=
    I2.call (ch := []) (Un.laid k hp hn) (I2.hok.laid k hp ⟨few, out.toList, c2, vals_of_ints hi, hg⟩) (by rw [g]; exact I2.bare) (fun _ z => nomatch z)
  have e : s' = { ({ s1 with heap := h', toks := tk } : Shared) with heap := s'.heap, gens := s'.gens, drawn := s'.drawn, toks := s'.toks } := by
    cases s'
    cases o
    rfl
  rw [e]
  exact ⟨.ref p, _, J, rfl, q1 ms p hs (fun k => by rw [hm k, decide_eq_true_eq]) hn⟩
theorem x_sortSetB {σ : L2.St} {H : Hp} {Q : VK} : tSortSetB K ta σ H Q = ta σ H fun x H1 => ∃ (l : Addr) (ns : List Int), x = .ref l ∧ SqL K H1 l (ns.map V.int) ∧ ns.length ≤ 4000 ∧ (∀ k ∈ ns, 0 ≤ k ∧ k < (60 : Nat)) ∧
  ∀ (ms : List Int) r, ms.Pairwise (· < ·) → (∀ k : Int, k ∈ ms ↔ k ∈ ns) → H1 r = none → Q (.ref r) (upd H1 r (.lst (ms.map V.int))) := rfl
/-- len(set(xs)): as many as the list has just where nothing stands twice -/
def tLenSetA (K : PySem.W.Frag) (ta : TE) : TE := fun σ H Q => ta σ H fun x H1 => ∃ (l : Addr) (ns : List Int), x = .ref l ∧ SqL K H1 l (ns.map V.int) ∧ ns.length ≤ 4000 ∧ ∀ n : Nat, (n = ns.length ↔ ns.Nodup) → n ≤ ns.length → Q (.int (n : Nat)) H1
theorem k_lenSetA (hK : X.K = K) (hg : Gl X "len") (hm : X.mg "len" = none) (hg2 : Gl X "set") (hm2 : X.mg "set" = none) (ha : PE X a ta) (hc : X.calm = true := by rfl)
    (na : starEach [a] X.env = (false, eval a X.env) :: starEach [] X.env := by rfl) : PE X (.Call (.Name "len" p) [.Call (.Name "set" p2) [a] [] q] [] pos) (tLenSetA K ta) := by
  subst hK
  refine ⟨fun pins s σ H Q I h => ?_⟩
  refine Call_ (ld_blt I hg hm boot_len ?_)
  refine callWith_builtin1 (args_cons ?_ rfl) rfl rfl
  refine Call_ (ld_blt I hg2 hm2 boot_set ?_)
  refine callWith_type1 (args_cons (thn (ha.run pins s σ H _ I h) fun v s1 ⟨x, H1, I1, r1, q1⟩ => args_nil ?_) na) na rfl
  obtain ⟨l, ns, rfl, hq, hl, q1⟩ := q1
  cases r1
  obtain ⟨its, r, pl, hz⟩ := I1.list hq
  refine set_of_list ns (I1.ok.hd hc) pl.isList (by simpa using intsAre_vals r) (by unfold scanBound; omega) fun h' tk c hS hcl hk => ?_
  refine args_nil ?_
  have I2 : Inv X pins σ H1 { s1 with heap := h', toks := tk } := I1.kept hk
  have cnt := setR_count hS
  obtain ⟨o, es, ep, t, ho, hex, hd, _, _, _, hbd, hf, hn, _, _⟩ := hS
  exact call_len_set ho hex hd hf (by rw [hn]; omega) ⟨.int c, H1, I2.tok _, ⟨_, by rw [hn]⟩, q1 c cnt hcl⟩
theorem x_lenSetA {σ : L2.St} {H : Hp} {Q : VK} : tLenSetA K ta σ H Q = ta σ H fun x H1 => ∃ (l : Addr) (ns : List Int), x = .ref l ∧ SqL K H1 l (ns.map V.int) ∧ ns.length ≤ 4000 ∧ ∀ n : Nat, (n = ns.length ↔ ns.Nodup) → n ≤ ns.length → Q (.int (n : Nat)) H1 := rfl
end
end BC

set_option Elab.async false
set_option linter.all false
set_option maxRecDepth 100000
set_option maxHeartbeats 4000000
/-! sites: lists of lists of natural numbers, and how they lie in the heap -/
namespace BC
open PySem PySem.Spec PyProof.Rows L2 Evl
/-! ### xs + ys of lists of any origin -/
section
variable {prog : Program} {w : World} {A : Around} {E : Value → Shared → Prop} {s : Shared}
theorem add_plain {l b : Addr} {its its2 : Array Value} {Q : Value → Shared → Prop} (x : PlainL s.heap l its) (y : PlainL s.heap b its2) (fits : its.size + its2.size ≤ sizeLine)
    (q : Q (.ref s.heap.objs.size) { s with heap := s.heap.push { cls := .type "list", data := .seq (its ++ its2) } }) : wpAny (model prog w) A (binaryOp .Add (.ref l) (.ref b)) Q E s := by
  obtain ⟨⟨c1, d1, k1, z1⟩, n1, g1, e1, e2, e3⟩ := x
  obtain ⟨⟨c2, d2, k2, z2⟩, n2, g2, e4, e5, e6⟩ := y
  obtain rfl : c1 = .type "list" := e1
  obtain rfl : c2 = .type "list" := e4
  obtain rfl : k1 = .seq its n1 := e3
  obtain rfl : k2 = .seq its2 n2 := e6
  exact concat_meets ⟨_, g1, rfl⟩ ⟨_, g2, rfl⟩ noFill_list_add seq_list_add F.slot_list_add F.entry_list_add (F.args_list_add_2 _ _) (list_addW l b its its2 n1 n2 d1 d2 z1 z2 fits) ⟨g1, g2, q⟩
end
def rCatS (K : PySem.W.Frag) : R2 := fun x y H Q => ∃ l b xs zs, x = .ref l ∧ y = .ref b ∧ SqL K H l xs ∧ SqL K H b zs ∧ xs.length + zs.length ≤ sizeLine ∧ ∀ p, H p = none → Q (.ref p) (upd H p (.lst (xs ++ zs)))
theorem k_catS {X : Cx} {K : PySem.W.Frag} (hK : X.K = K) : OpR X (binaryOp .Add) (rCatS K) := by
  subst hK
  intro pins s σ H x y v u Q I rx ry h
  obtain ⟨l, b, xs, zs, rfl, rfl, hH, hB, hz, q⟩ := h
  cases rx
  cases ry
  obtain ⟨its, r, p1, _⟩ := I.list hH
  obtain ⟨its2, r2, p2, _⟩ := I.list hB
  have l1 := r.length
  have l2 := r2.length
  refine add_plain p1 p2 (by rw [List.size_toArray, List.size_toArray]; omega) ?_
  have ea : its.toArray ++ its2.toArray = (its ++ its2).toArray := by simp
  rw [ea]
  exact ⟨.ref _, _, I.lnew (t' := s.toks) (r.append r2) (by rw [List.length_append]; omega), rfl, q _ I.fresh⟩
theorem catS {K : PySem.W.Frag} {H : Hp} {Q : VK} {p b : Addr} {xs ys : List V} (h : SqL K H p xs) (hb : SqL K H b ys) (hz : xs.length + ys.length ≤ sizeLine) (q : ∀ l, H l = none → Q (.ref l) (upd H l (.lst (xs ++ ys)))) : rCatS K (.ref p) (.ref b) H Q := ⟨p, b, xs, ys, rfl, rfl, h, hb, hz, q⟩
/-- natural numbers as the program's -/
def nz (L : List Nat) : List Int := L.map fun x : Nat => (x : Int)
theorem nz_len (L : List Nat) : (nz L).length = L.length := List.length_map _
theorem nz_at {L : List Nat} {i x : Nat} (h : L[i]? = some x) : ((nz L).map V.int)[i]? = some (.int (x : Int)) := by
  unfold nz
  rw [List.getElem?_map, List.getElem?_map, h]
  rfl
theorem at_nz {L : List Nat} {i : Nat} {v : V} (h : ((nz L).map V.int)[i]? = some v) : ∃ x, L[i]? = some x ∧ v = .int (x : Int) := by
  unfold nz at h
  rw [List.getElem?_map, List.getElem?_map] at h
  cases e : L[i]? with
  | none => rw [e] at h; cases h
  | some x => rw [e] at h; cases h; exact ⟨x, rfl, rfl⟩
theorem nz_mem {L : List Nat} {x : Nat} : ((x : Nat) : Int) ∈ nz L ↔ x ∈ L := by
  unfold nz
  rw [List.mem_map]
  exact ⟨fun ⟨y, h, e⟩ => by rw [← Int.ofNat.inj e]; exact h, fun h => ⟨x, h, rfl⟩⟩
theorem nz_inj : ∀ {a b : List Nat}, nz a = nz b → a = b
  | [], [], _ => rfl
  | [], y :: b, h => by cases h
  | x :: a, [], h => by cases h
  | x :: a, y :: b, h => by
    have h1 := (List.cons.inj h).1
    have h2 := (List.cons.inj h).2
    rw [nz_inj (show nz a = nz b from h2), Int.ofNat.inj h1]
theorem nz_app (a b : List Nat) : nz (a ++ b) = nz a ++ nz b := List.map_append
theorem nz_v (a : List Nat) (x : Nat) : (nz a).map V.int ++ [V.int (x : Int)] = (nz (a ++ [x])).map V.int := by rw [nz_app, List.map_append]; rfl
theorem lts {l : List Nat} (h : l.Pairwise (· < ·)) : (nz l).Pairwise (· < ·) := by
  unfold nz
  rw [List.pairwise_map]
  exact h.imp fun h => by omega
theorem nz_nodup {l : List Nat} (h : l.Nodup) : (nz l).Nodup := by
  unfold nz List.Nodup
  rw [List.pairwise_map]
  exact h.imp fun h e => h (Int.ofNat.inj e)
theorem nodup_lt : ∀ (n : Nat) {l : List Nat}, l.Nodup → (∀ x ∈ l, x < n) → l.length ≤ n
  | 0, [], _, _ => Nat.le_refl _
  | 0, x :: l, _, h => by have := h x List.mem_cons_self; omega
  | n + 1, l, h1, h2 => by
    by_cases m : n ∈ l
    · have h3 := nodup_lt n (l := l.erase n) (h1.erase _) (fun x hx => by
        have a := h2 x (List.mem_of_mem_erase hx)
        have b : x ≠ n := fun e => by
          rw [h1.mem_erase_iff] at hx
          exact hx.1 e
        omega)
      have := List.length_erase_of_mem m
      omega
    · have h3 := nodup_lt n h1 (fun x hx => by
        have a := h2 x hx
        have b : x ≠ n := fun e => m (e ▸ hx)
        omega)
      omega
theorem asc_nodup {l : List Nat} (h : l.Pairwise (· < ·)) : l.Nodup := h.imp fun h => by omega
/-! ### sites -/
abbrev Grid := List (List Nat)
structure SiteOk (G : Grid) : Prop where
  n1 : 1 ≤ G.length
  n2 : G.length ≤ 12
  asc : ∀ (i : Nat) (r : List Nat), G[i]? = some r → r.Pairwise (· < ·)
  lt : ∀ (i : Nat) (r : List Nat), G[i]? = some r → ∀ x ∈ r, x < G.length
  no : ∀ (i : Nat) (r : List Nat), G[i]? = some r → i ∉ r
theorem SiteOk.len {G : Grid} (h : SiteOk G) {i : Nat} {r : List Nat} (e : G[i]? = some r) : r.length ≤ 12 := Nat.le_trans (nodup_lt _ (asc_nodup (h.asc i r e)) (h.lt i r e)) h.n2
/-- the row of a page -/
def row (G : Grid) (i : Nat) : List Nat := G.getD i []
theorem row_at {G : Grid} {i : Nat} {r : List Nat} (h : G[i]? = some r) : row G i = r := by
  unfold row
  rw [List.getD_eq_getElem?_getD, h]
  rfl
theorem at_row {G : Grid} {i : Nat} (h : i < G.length) : G[i]? = some (row G i) := by
  unfold row
  rw [List.getD_eq_getElem?_getD, List.getElem?_eq_getElem h]
  rfl
theorem SiteOk.rlt {G : Grid} (h : SiteOk G) {i x : Nat} (m : x ∈ row G i) : x < G.length := by
  by_cases q : i < G.length
  · exact h.lt i _ (at_row q) x m
  · unfold row at m
    rw [List.getD_eq_getElem?_getD, List.getElem?_eq_none (by omega)] at m
    exact (List.not_mem_nil m).elim
theorem SiteOk.rlen {G : Grid} (h : SiteOk G) (i : Nat) : (row G i).length ≤ 12 := by
  by_cases q : i < G.length
  · exact h.len (at_row q)
  · unfold row
    rw [List.getD_eq_getElem?_getD, List.getElem?_eq_none (by omega)]
    exact Nat.zero_le _
/-- a list at s of lists of numbers -/
def GridAt (H : Hp) (s : Addr) (G : Grid) : Prop := ∃ ps : List Addr, H s = some (.lst (ps.map V.ref)) ∧ ps.length = G.length ∧ ∀ i p, ps[i]? = some p → H p = some (.lst ((nz (row G i)).map V.int))
theorem GridAt.ex {H H' : Hp} {s : Addr} {G : Grid} (h : GridAt H s G) (e : Ex H H') : GridAt H' s G := by
  obtain ⟨ps, h1, h2, h3⟩ := h
  exact ⟨ps, e _ _ h1, h2, fun i p q => e _ _ (h3 i p q)⟩
theorem GridAt.get {H : Hp} {s : Addr} {G : Grid} (h : GridAt H s G) {i : Nat} (hi : i < G.length) : ∃ p xs, H s = some (.lst xs) ∧ xs.length = G.length ∧ xs[i]? = some (.ref p) ∧ H p = some (.lst ((nz (row G i)).map V.int)) := by
  obtain ⟨ps, h1, h2, h3⟩ := h
  have hx : ps[i]? = some ps[i] := List.getElem?_eq_getElem (by omega)
  exact ⟨ps[i], _, h1, by rw [List.length_map]; exact h2, by rw [List.getElem?_map, hx]; rfl, h3 i _ hx⟩
theorem GridAt.lst {H : Hp} {s : Addr} {G : Grid} (h : GridAt H s G) : ∃ xs, H s = some (.lst xs) ∧ xs.length = G.length ∧ ∀ (i : Nat) (v : V), xs[i]? = some v → i < G.length ∧ ∃ p, v = .ref p ∧ H p = some (.lst ((nz (row G i)).map V.int)) := by
  obtain ⟨ps, h1, h2, h3⟩ := h
  refine ⟨_, h1, by rw [List.length_map]; exact h2, fun i v e => ?_⟩
  rw [List.getElem?_map] at e
  cases q : ps[i]? with
  | none => rw [q] at e; cases e
  | some p =>
    rw [q] at e
    cases e
    exact ⟨by have := (List.getElem?_eq_some_iff.mp q).1; omega, p, rfl, h3 i p q⟩
/-- such a list, all of it new -/
def GridN (H H' : Hp) (s : Addr) (G : Grid) : Prop := H s = none ∧ ∃ ps : List Addr, H' s = some (.lst (ps.map V.ref)) ∧ ps.length = G.length ∧ ps.Nodup ∧ s ∉ ps ∧ ∀ i p, ps[i]? = some p → H p = none ∧ H' p = some (.lst ((nz (row G i)).map V.int))
theorem GridN.at {H H' : Hp} {s : Addr} {G : Grid} (h : GridN H H' s G) : GridAt H' s G := by
  obtain ⟨_, ps, h1, h2, _, _, h3⟩ := h
  exact ⟨ps, h1, h2, fun i p q => (h3 i p q).2⟩
theorem GridN.ex {H H' H2 : Hp} {s : Addr} {G : Grid} (h : GridN H H' s G) (e : Ex H' H2) : GridN H H2 s G := by
  obtain ⟨h0, ps, h1, h2, h4, h5, h3⟩ := h
  exact ⟨h0, ps, e _ _ h1, h2, h4, h5, fun i p q => ⟨(h3 i p q).1, e _ _ (h3 i p q).2⟩⟩
theorem GridN.back {H0 H H' : Hp} {s : Addr} {G : Grid} (h : GridN H H' s G) (e : Ex H0 H) : GridN H0 H' s G := by
  obtain ⟨h0, ps, h1, h2, h4, h5, h3⟩ := h
  exact ⟨fresh_back e h0, ps, h1, h2, h4, h5, fun i p q => ⟨fresh_back e (h3 i p q).1, (h3 i p q).2⟩⟩
/-- what was new after Hc stands -/
def Nw (Hc H H' : Hp) : Prop := ∀ x o, Hc x = none → H x = some o → H' x = some o
theorem Nw.of {Hc H H' : Hp} (e : Ex H H') : Nw Hc H H' := fun x o _ h => e x o h
theorem Nw.trans {Hc H H' H'' : Hp} (e : Nw Hc H H') (f : Nw Hc H' H'') : Nw Hc H H'' := fun x o n h => f x o n (e x o n h)
theorem Nw.fx {Hc H H' : Hp} {b : Addr} {o : HO} (h : Hc b = some o) (f : Fx b H H') : Nw Hc H H' := fun x v n g => f x v (fun e => by subst e; rw [h] at n; cases n) g
theorem Nw.put {Hc H : Hp} {a : Addr} {o u : HO} (h : Hc a = some u) : Nw Hc H (upd H a o) := fun x v n g => by
  rw [upd_ne (fun e => by subst e; rw [h] at n; cases n)]
  exact g
theorem GridN.nw {H H1 H2 : Hp} {s : Addr} {G : Grid} (h : GridN H H1 s G) (e : Nw H H1 H2) : GridN H H2 s G := by
  obtain ⟨h0, ps, h1, h2, h4, h5, h3⟩ := h
  exact ⟨h0, ps, e _ _ h0 h1, h2, h4, h5, fun i p q => ⟨(h3 i p q).1, e _ _ (h3 i p q).1 (h3 i p q).2⟩⟩
/-- one row more, made while the grid stood -/
theorem GridN.push {H H1 H' : Hp} {s p : Addr} {G : Grid} {r : List Nat} (h : GridN H H1 s G) (nH : H p = none) (np : H1 p = none) (e : Nw H H1 H') (hp : H' p = some (.lst ((nz r).map V.int))) :
    ∃ xs, H' s = some (.lst xs) ∧ xs.length = G.length ∧ GridN H (upd H' s (.lst (xs ++ [.ref p]))) s (G ++ [r]) := by
  have q1 := h
  obtain ⟨h0, ps, h1, h2, h4, h5, h3⟩ := h
  have hs : p ≠ s := Ne.symm (ne_of_none h1 np)
  refine ⟨_, e _ _ h0 h1, by rw [List.length_map]; exact h2, h0, ps ++ [p], by rw [upd_same, List.map_append]; rfl, by rw [List.length_append, List.length_append, h2]; rfl, ?_, ?_, fun i q eq => ?_⟩
  · rw [List.nodup_append]
    refine ⟨h4, by simp, fun a ha b hb e => ?_⟩
    rw [List.mem_singleton.mp hb] at e
    subst e
    obtain ⟨j, hj, ej⟩ := List.getElem_of_mem ha
    have := (h3 j a (List.getElem?_eq_some_iff.mpr ⟨hj, ej⟩)).2
    rw [np] at this
    cases this
  · intro m
    rcases List.mem_append.mp m with m | m
    · exact h5 m
    · exact hs (List.mem_singleton.mp m).symm
  · by_cases hi : i < ps.length
    · rw [List.getElem?_append_left hi] at eq
      have := h3 i q eq
      have ns : q ≠ s := fun z => h5 (z ▸ List.mem_of_getElem? eq)
      refine ⟨this.1, ?_⟩
      rw [upd_ne ns, e _ _ this.1 this.2]
      unfold row
      rw [List.getD_eq_getElem?_getD, List.getD_eq_getElem?_getD, List.getElem?_append_left (by omega)]
    · rw [List.getElem?_append_right (by omega)] at eq
      have hi2 : i - ps.length = 0 := by
        have := (List.getElem?_eq_some_iff.mp eq).1
        rw [List.length_singleton] at this
        omega
      rw [hi2] at eq
      obtain rfl : p = q := by simpa using eq
      refine ⟨nH, ?_⟩
      rw [upd_ne hs, hp]
      unfold row
      have : i = G.length := by omega
      rw [this, List.getD_eq_getElem?_getD, List.getElem?_append_right (Nat.le_refl _), Nat.sub_self]
      rfl
theorem GridN.nil {H : Hp} {s : Addr} (h : H s = none) : GridN H (upd H s (.lst [])) s [] := ⟨h, [], upd_same, rfl, List.nodup_nil, List.not_mem_nil, fun i p e => by simp at e⟩
/-- as data -/
def dG (G : Grid) : PyData := .list (G.map fun r => .list ((nz r).map PyData.int))
theorem dG_LL (G : Grid) : dG G = dLL (G.map nz) := by unfold dG dLL; rw [List.map_map]; rfl
theorem GridAt.dp {K : PySem.W.Frag} {H : Hp} {s : Addr} {G : Grid} (h : GridAt H s G) : Dp K H (.ref s) (dG G) := by
  obtain ⟨ps, h1, h2, h3⟩ := h
  rw [dG_LL]
  refine .lst (.inl (.inl h1)) (dp_ll (by rw [List.length_map]; exact h2) fun i p l a b => ?_)
  rw [List.getElem?_map] at b
  cases q : G[i]? with
  | none => rw [q] at b; cases b
  | some r =>
    rw [q] at b
    cases b
    have := h3 i p a
    rw [row_at q] at this
    exact .inl (.inl this)
theorem shp_LL (ls : List (List Int)) : SeqAt.shaped (dLL ls) = true := by
  have h0 : ∀ ns : List Int, PyData.canLayAll0 (ns.map PyData.int) = true := fun ns => by
    induction ns with
    | nil => simp [PyData.canLayAll0]
    | cons n ns ih => simp [PyData.canLayAll0, PyData.canLay0, ih]
  have h1 : ∀ ls : List (List Int), PyData.canLayAll0 (ls.map fun l => PyData.list (l.map PyData.int)) = true := fun ls => by
    induction ls with
    | nil => simp [PyData.canLayAll0]
    | cons l ls ih => simp [PyData.canLayAll0, PyData.canLay0, ih, h0]
  have h2 := dep_all (ds := ls.map fun l => PyData.list (l.map PyData.int)) (n := 1) fun d m => by
      obtain ⟨l, hm, rfl⟩ := List.mem_map.mp m
      simp only [PyData.depth]
      have := dep_all (ds := l.map PyData.int) (n := 0) fun d m => by
        obtain ⟨x, hx, rfl⟩ := List.mem_map.mp m
        simp [PyData.depth]
      omega
  show (PyData.canLay0 _ && decide (PyData.depth _ ≤ 64)) = true
  rw [Bool.and_eq_true]
  refine ⟨?_, decide_eq_true ?_⟩
  · unfold dLL; simp only [PyData.canLay0]; exact h1 ls
  · unfold dLL; simp only [PyData.depth]; omega
theorem eqv_LL : ∀ as bs : List (List Int), PyData.eqv (dLL as) (dLL bs) = decide (as = bs) := fun as bs => by
  unfold dLL
  simp only [PyData.eqv]
  induction as generalizing bs with
  | nil => cases bs <;> simp [PyData.eqvAll]
  | cons a as ih =>
    cases bs with
    | nil => simp [PyData.eqvAll]
    | cons b bs =>
      simp only [List.map_cons, PyData.eqvAll, eqv_ints, ih]
      by_cases h : a = b
      · subst h; simp
      · simp [h]
theorem nzs_inj : ∀ {a b : Grid}, a.map nz = b.map nz → a = b
  | [], [], _ => rfl
  | [], y :: b, h => by cases h
  | x :: a, [], h => by cases h
  | x :: a, y :: b, h => by
    rw [List.map_cons, List.map_cons] at h
    rw [nz_inj (List.cons.inj h).1, nzs_inj (List.cons.inj h).2]
theorem eqGrid {K : PySem.W.Frag} {H : Hp} {Q : VK} {a b : Addr} {F G : Grid} (h : GridAt H a F) (g : GridAt H b G) (q : Q (.bl (decide (F = G))) H) : rEqD K (.ref a) (.ref b) H Q := by
  have e : decide (F.map nz = G.map nz) = decide (F = G) := by
    by_cases z : F = G
    · rw [z, decide_eq_true rfl, decide_eq_true rfl]
    · rw [decide_eq_false z, decide_eq_false fun y => z (nzs_inj y)]
  refine ⟨_, _, h.dp, g.dp, by rw [dG_LL]; exact shp_LL _, by rw [dG_LL]; exact shp_LL _, ?_⟩
  rw [dG_LL, dG_LL, eqv_LL, e]
  exact q
theorem neGrid {K : PySem.W.Frag} {H : Hp} {Q : VK} {a b : Addr} {F G : Grid} (h : GridAt H a F) (g : GridAt H b G) (q : Q (.bl (!decide (F = G))) H) : rNeD K (.ref a) (.ref b) H Q := by
  have e : decide (F.map nz = G.map nz) = decide (F = G) := by
    by_cases z : F = G
    · rw [z, decide_eq_true rfl, decide_eq_true rfl]
    · rw [decide_eq_false z, decide_eq_false fun y => z (nzs_inj y)]
  refine ⟨_, _, h.dp, g.dp, by rw [dG_LL]; exact shp_LL _, by rw [dG_LL]; exact shp_LL _, ?_⟩
  rw [dG_LL, dG_LL, eqv_LL, e]
  exact q
theorem at_ints {ns : List Int} {i : Nat} {n : Int} (h : ns[i]? = some n) : (ns.map V.int)[i]? = some (.int n) := by rw [List.getElem?_map, h]; rfl
theorem atI_last {xs : List V} {v : V} (h : xs[xs.length - 1]? = some v) : atI xs (-1) = some v := by
  have hl : xs.length - 1 < xs.length := (List.getElem?_eq_some_iff.mp h).1
  have e : ixN xs.length (-1) = some (xs.length - 1) := by
    unfold ixN
    rw [if_neg (by omega), if_pos (by omega)]
    congr 1
    omega
  unfold atI
  rw [e]
  exact h
theorem cutV_from1 (xs : List V) : cutV xs (some 1) none = xs.drop 1 := by
  unfold cutV
  have e2 : HT.sIx xs.length xs.length none = xs.length := rfl
  have e1 : HT.sIx xs.length 0 (some 1) = min 1 xs.length := HT.sIx_nat ..
  rw [e1, e2]
  by_cases h : 1 ≤ xs.length
  · rw [Nat.min_eq_left h, List.take_of_length_le (by rw [List.length_drop]; omega)]
  · have : xs = [] := List.length_eq_zero_iff.mp (by omega)
    rw [this]
    rfl
theorem cut_take (xs : List V) (j : Nat) : cutV xs none (some (j : Int)) = xs.take j := by
  by_cases h : j ≤ xs.length
  · exact BC.cut_to xs rfl h
  · unfold cutV
    have e1 : HT.sIx xs.length 0 none = 0 := rfl
    rw [HT.sIx_nat, e1, List.drop_zero, Nat.sub_zero, Nat.min_eq_right (by omega), List.take_length, List.take_of_length_le (by omega)]
theorem GridN.get {H H' : Hp} {s : Addr} {G : Grid} (h : GridN H H' s G) {i : Nat} (hi : i < G.length) : ∃ p xs, H' s = some (.lst xs) ∧ xs.length = G.length ∧ xs[i]? = some (.ref p) ∧ H' p = some (.lst ((nz (row G i)).map V.int)) ∧ H p = none := by
  obtain ⟨_, ps, h1, h2, _, _, h3⟩ := h
  have hx : ps[i]? = some ps[i] := List.getElem?_eq_getElem (by omega)
  exact ⟨ps[i], _, h1, by rw [List.length_map]; exact h2, by rw [List.getElem?_map, hx]; rfl, (h3 i _ hx).2, (h3 i _ hx).1⟩
theorem GridN.lower {Hl H H' : Hp} {b s : Addr} {G : Grid} (h : GridN H H' s G) (f : Fx b Hl H) (hb : ∃ o, H b = some o) : GridN Hl H' s G := by
  obtain ⟨o, ho⟩ := hb
  obtain ⟨h0, ps, h1, h2, h4, h5, h3⟩ := h
  have nb : ∀ {x : Addr}, H x = none → x ≠ b := fun n e => by subst e; rw [ho] at n; cases n
  exact ⟨fx_none f h0 (nb h0), ps, h1, h2, h4, h5, fun i p q => ⟨fx_none f (h3 i p q).1 (nb (h3 i p q).1), (h3 i p q).2⟩⟩
theorem nd_at {l : List Addr} (h : l.Nodup) {i j : Nat} {x : Addr} (a : l[i]? = some x) (b : l[j]? = some x) : i = j := by
  obtain ⟨h1, h2⟩ := List.getElem?_eq_some_iff.mp a
  obtain ⟨h3, h4⟩ := List.getElem?_eq_some_iff.mp b
  have e1 := h.idxOf_getElem i h1
  have e2 := h.idxOf_getElem j h3
  rw [h2] at e1
  rw [h4] at e2
  exact e1.symm.trans e2
/-- kept of a list -/
theorem kept_nz (s : List Nat) (k : Nat → Bool) : kept s.length (fun i => k (s.getD i 0)) (fun i => V.int ((s.getD i 0 : Nat) : Int)) = (nz (s.filter k)).map V.int := by
  unfold kept nz
  have e : (List.range s.length).map (fun i => s.getD i 0) = s := by
    apply List.ext_getElem?
    intro j
    by_cases h : j < s.length
    · rw [List.getElem?_map, List.getElem?_range h, List.getElem?_eq_getElem h]
      show some (s.getD j 0) = _
      rw [List.getD_eq_getElem?_getD, List.getElem?_eq_getElem h]
      rfl
    · rw [List.getElem?_eq_none (by rw [List.length_map, List.length_range]; omega), List.getElem?_eq_none (by omega)]
  conv => rhs; rw [← e]
  rw [List.filter_map, List.map_map, List.map_map]
  rfl
theorem kept_rng (n : Nat) (k : Nat → Bool) : kept n k (fun i => V.int ((i : Nat) : Int)) = (nz ((List.range n).filter k)).map V.int := by
  unfold kept nz
  rw [List.map_map]
  rfl
/-- zip of lists of different lengths -/
theorem lc_zipM {K : PySem.W.Frag} {σ : L2.St} {H1 : Hp} {tt : TT} {te : TE} {vs : List Nat} {Dl : Addr} {Q : VK} {a b : Addr} {xs ys : List V} {j k : Nat} (n : Nat) (keep : Nat → Bool) (f : Nat → V) (hx : SqL K H1 a xs) (hy : SqL K H1 b ys) (h1 : n ≤ xs.length) (h2 : n ≤ ys.length) (h3 : n = xs.length ∨ n = ys.length) (hD : H1 Dl = none) (hn : n ≤ 100000)
    (hw : ∀ u v : V, wipe (((wipe σ vs).set j (some u)).set k (some v)) vs = wipe σ vs)
    (ht : ∀ i x y, xs[i]? = some x → ys[i]? = some y → Evl.EvT tt (((wipe σ vs).set j (some x)).set k (some y)) H1 (keep i))
    (he : ∀ i x y, xs[i]? = some x → ys[i]? = some y → keep i = true → Evl.Ev te (((wipe σ vs).set j (some x)).set k (some y)) H1 (f i))
    (hd : ∀ H', Evl.Ex H1 H' → H' Dl = some (.lst (kept n keep f)) → Q (.ref Dl) H') : LcG (Itz K a b) (gTup K 2 (gCons (gName j) (gCons (gName k) gNil))) tt te vs σ Dl H1 Q := by
  have gx : ∀ i, i < n → xs[i]? = some (xs.getD i .non) := fun i hi => by rw [List.getD_eq_getElem?_getD, List.getElem?_eq_getElem (by omega)]; rfl
  have gy : ∀ i, i < n → ys[i]? = some (ys.getD i .non) := fun i hi => by rw [List.getD_eq_getElem?_getD, List.getElem?_eq_getElem (by omega)]; rfl
  refine lc_pure n (fun i => ((wipe σ vs).set j (some (xs.getD i .non))).set k (some (ys.getD i .non))) keep f hD hn (fun H' e => ⟨xs, ys, Evl.ex_l e hx, Evl.ex_l e hy, by omega⟩)
    (fun i H' hi e => ⟨xs, ys, _, _, Evl.ex_l e hx, Evl.ex_l e hy, gx i hi, gy i hi⟩)
    (fun i H' x H'' QG hi e y q => ?_) (fun i hi => hw _ _) (fun i hi => ht i _ _ (gx i hi) (gy i hi)) (fun i hi => he i _ _ (gx i hi) (gy i hi)) hd
  obtain ⟨T, u, v, rfl, hT, rfl, hf, hf2⟩ := y
  have hu := hf xs (Evl.ex_l e hx)
  have hv := hf2 ys (Evl.ex_l e hy)
  have e1 : xs.getD i .non = u := by rw [List.getD_eq_getElem?_getD, hu]; rfl
  have e2 : ys.getD i .non = v := by rw [List.getD_eq_getElem?_getD, hv]; rfl
  refine g_two upd_same ?_
  have q2 := q (Evl.Ex.new hT)
  rw [e1, e2] at q2
  exact q2
end BC

set_option Elab.async false
set_option linter.all false
set_option maxRecDepth 100000
set_option maxHeartbeats 4000000
/-! whether any value is a site; a list held against the empty one -/
namespace BC
open PySem PySem.Spec PyProof.Rows L2 Evl
section
variable {X : Cx} {K : PySem.W.Frag}
/-- == of any list and an empty one -/
def rEqNil (K : PySem.W.Frag) : R2 := fun x y H Q => ∃ (a b : Addr) (xs : List V), x = .ref a ∧ y = .ref b ∧ SqL K H a xs ∧ SqL K H b [] ∧ Q (.bl (decide (xs = []))) H
theorem k_eqNil (hK : X.K = K) (hu : X.A.units + 64 < cLine) : OpR X (compareOp .Eq) (rEqNil K) := by
  subst hK
  intro pins s σ H x y v u Q I rx ry h
  obtain ⟨a, b, xs, rfl, rfl, ha, hb, q⟩ := h
  cases rx
  cases ry
  obtain ⟨its, r, p1, _⟩ := I.list ha
  obtain ⟨its2, r2, p2, _⟩ := I.list hb
  have z2 : its2 = [] := by cases r2; rfl
  subst z2
  have lr := r.length
  cases xs with
  | nil =>
    have z1 : its = [] := by cases r; rfl
    subst z1
    rw [decide_eq_true rfl] at q
    exact SeqAt.eq_listAt (e := fun _ => true) p1.isList p2.isList rfl (by omega) (fun j h1 _ => absurd h1 (by simp)) ⟨.bl true, H, I, rfl, q⟩
  | cons x xs =>
    rw [decide_eq_false (by simp)] at q
    exact SeqAt.eq_list_lengthsAt p1.isList p2.isList (by simp; intro e; subst e; simp at lr) (by omega) ⟨.bl false, H, I, rfl, q⟩
theorem eqNil {a b : Addr} {xs : List V} {H : Hp} {Q : VK} (ha : SqL K H a xs) (hb : SqL K H b []) (q : Q (.bl (decide (xs = []))) H) : rEqNil K (.ref a) (.ref b) H Q := ⟨a, b, xs, rfl, rfl, ha, hb, q⟩
end
/-! ### the plain law -/
def inD (lo hi : Int) : PyData → Bool
  | .int i => decide (lo ≤ i) && decide (i ≤ hi)
  | _ => false
def numD : PyData → Int
  | .int i => i
  | _ => 0
/-- is the value a row of links of page i among m pages? -/
def isRowD (i : Nat) (m : Int) : PyData → Bool
  | .list ds => if ds.all (inD 0 (m - 1)) = true then decide ((i : Int) ∉ ds.map numD) && decide ((ds.map numD).Pairwise (· < ·)) else false
  | _ => false
def isSiteD : PyData → Bool
  | .list ds => if 1 ≤ ds.length ∧ ds.length ≤ 12 then (List.range ds.length).all fun i => isRowD i ds.length (ds.getD i .none) else false
  | _ => false
/-- the law's own look at a row -/
def netRow (m : Int) (i : Nat) : Int → List PyData → Bool
  | _, [] => true
  | last, .int x :: ds => if x ≤ last ∨ x ≥ m then false else if x = i then false else netRow m i x ds
  | _, .none :: _ => false
  | _, .bool _ :: _ => false
  | _, .str _ :: _ => false
  | _, .list _ :: _ => false
  | _, .tuple _ :: _ => false
  | _, .dict _ :: _ => false
theorem netRow_iff (m : Int) (i : Nat) : ∀ (ds : List PyData) (last : Int), -1 ≤ last → (netRow m i last ds = true ↔ (ds.all (inD 0 (m - 1)) = true ∧ (i : Int) ∉ ds.map numD ∧ (ds.map numD).Pairwise (· < ·) ∧ ∀ n ∈ ds.map numD, last < n)) := by
  intro ds
  induction ds with
  | nil => intro last _; simp [netRow]
  | cons d ds ih =>
    intro last hl
    cases d with
    | int x =>
      simp only [netRow, List.map_cons, List.all_cons, numD, List.mem_cons, List.pairwise_cons]
      by_cases c1 : x ≤ last ∨ x ≥ m
      · rw [if_pos c1]
        constructor
        · intro h; cases h
        · rintro ⟨h1, h2, h3, h4⟩
          have := h4 x (.inl rfl)
          simp [inD] at h1
          omega
      · rw [if_neg c1]
        by_cases c2 : x = (i : Int)
        · rw [if_pos c2]
          constructor
          · intro h; cases h
          · rintro ⟨_, h2, _⟩
            exact absurd (.inl c2.symm) h2
        · rw [if_neg c2, ih x (by omega)]
          constructor
          · rintro ⟨h1, h2, h3, h4⟩
            refine ⟨?_, ?_, ⟨h4, h3⟩, ?_⟩
            · rw [h1]
              simp [inD]
              omega
            · rintro (h | h)
              · exact c2 h.symm
              · exact h2 h
            · rintro n (rfl | h)
              · omega
              · have := h4 n h; omega
          · rintro ⟨h1, h2, ⟨h3, h5⟩, h4⟩
            rw [Bool.and_eq_true] at h1
            exact ⟨h1.2, fun h => h2 (.inr h), h5, h3⟩
    | _ =>
      constructor
      · intro h; cases h
      · rintro ⟨h1, _⟩
        simp [inD] at h1
theorem netRow_row (m : Int) (i : Nat) (ds : List PyData) : netRow m i (-1) ds = isRowD i m (.list ds) := by
  have h := netRow_iff m i ds (-1) (by omega)
  show _ = (if ds.all (inD 0 (m - 1)) = true then decide ((i : Int) ∉ ds.map numD) && decide ((ds.map numD).Pairwise (· < ·)) else false)
  by_cases c : ds.all (inD 0 (m - 1)) = true
  · rw [if_pos c]
    have nn : ∀ n ∈ ds.map numD, -1 < n := fun n hn => by
      obtain ⟨d, hd, rfl⟩ := List.mem_map.mp hn
      have := List.all_eq_true.mp c d hd
      cases d <;> simp [inD, numD] at this ⊢
      omega
    cases e : netRow m i (-1) ds with
    | true =>
      obtain ⟨_, h2, h3, _⟩ := h.mp e
      rw [decide_eq_true h2, decide_eq_true h3]
      rfl
    | false =>
      symm
      rw [Bool.and_eq_false_iff]
      by_cases c2 : (i : Int) ∈ ds.map numD
      · exact .inl (decide_eq_false (fun z => z c2))
      · refine .inr (decide_eq_false fun c3 => ?_)
        rw [h.mpr ⟨c, c2, c3, nn⟩] at e
        cases e
  · rw [if_neg c]
    cases e : netRow m i (-1) ds with
    | true => exact absurd (h.mp e).1 c
    | false => rfl
/-! ### values whose lists are not too long -/
def LenL (d : PyData) : Prop := ∀ es, d = .list es → es.length ≤ 4000
def RowsL (d : PyData) : Prop := ∀ ds, d = .list ds → ∀ e ∈ ds, LenL e
/-- shown in few signs, itself not too long -/
def Sw (K : PySem.W.Frag) (H : Hp) (n W : Nat) (v : V) : Prop := ∃ d, De K H v d ∧ Gd n W d ∧ LenL d
/-- shown in few signs, its items not too long -/
def Sr (K : PySem.W.Frag) (H : Hp) (n W : Nat) (v : V) : Prop := ∃ d, De K H v d ∧ Gd n W d ∧ RowsL d
section
variable {K : PySem.W.Frag} {H H' : Hp} {n W : Nat} {v : V}
theorem Gd.intB {i : Int} {k : Nat} (h : i.natAbs < 2 ^ k) (h0 : 0 < k) (hk : k ≤ 128) : Gd 0 k (.int i) := by
  have hl : i.natAbs.log2 < k := log2_small h0 h
  have h2 : i.natAbs < 10 ^ 39 := Nat.lt_of_lt_of_le h (Nat.le_trans (Nat.pow_le_pow_right (by decide) hk) (by decide +kernel))
  refine ⟨?_, ?_, Nat.le_refl _, ?_⟩
  · show decide (i.natAbs.log2 < 1920) = true
    exact decide_eq_true (by omega)
  · show decide ((PyData.shown (.int i)).length ≤ 40) = true
    refine decide_eq_true ?_
    have e := int_text_length_le10 (k := 39) (by decide) h2
    simp only [PyData.shown]
    rw [show ((toString i : String) : Str).length = (toString i).length from PySem.ofString_length _]
    omega
  · simp only [PyData.weight]
    split
    · omega
    · omega
theorem Sw.ex (h : Sw K H n W v) (e : Ex H H') : Sw K H' n W v := by
  obtain ⟨d, a, g⟩ := h
  exact ⟨d, De.ex e d v a, g⟩
theorem Sr.ex (h : Sr K H n W v) (e : Ex H H') : Sr K H' n W v := by
  obtain ⟨d, a, g⟩ := h
  exact ⟨d, De.ex e d v a, g⟩
theorem Sw.mono {n2 W2 : Nat} (h : Sw K H n W v) (a : n ≤ n2) (b : W ≤ W2) : Sw K H n2 W2 v := by
  obtain ⟨d, x, g, l⟩ := h
  exact ⟨d, x, g.mono a b, l⟩
theorem Sr.mono {n2 W2 : Nat} (h : Sr K H n W v) (a : n ≤ n2) (b : W ≤ W2) : Sr K H n2 W2 v := by
  obtain ⟨d, x, g, l⟩ := h
  exact ⟨d, x, g.mono a b, l⟩
theorem Sw.non : Sw K H n W .non := ⟨_, .non, Gd.non.mono (Nat.zero_le _) (Nat.zero_le _), fun _ e => by cases e⟩
theorem Sw.bl (b : Bool) : Sw K H n W (.bl b) := ⟨_, .bl b, (Gd.bl b).mono (Nat.zero_le _) (Nat.zero_le _), fun _ e => by cases e⟩
theorem Sw.int {i : Int} {k : Nat} (h : i.natAbs < 2 ^ k) (h0 : 0 < k) (hk : k ≤ 128) (hW : k ≤ W) : Sw K H n W (.int i) := ⟨_, .int i, (Gd.intB h h0 hk).mono (Nat.zero_le _) hW, fun _ e => by cases e⟩
theorem Sw.str {x : Str} (h : (PyData.str x).leavesShort 40 = true) (hW : x.cps.size ≤ W) : Sw K H n W (.str x) := ⟨_, .str x, (Gd.str h).mono (Nat.zero_le _) hW, fun _ e => by cases e⟩
theorem Sw.dic {a : Addr} (h : H a = some (.dK [])) (hn : 1 ≤ n) : Sw K H n W (.ref a) := ⟨_, .dic h, Gd.dic.mono hn (Nat.zero_le _), fun _ e => by cases e⟩
theorem sw_all {xs : List V} (h : ∀ x ∈ xs, Sw K H n W x) : ∃ ds, DeAll K H xs ds ∧ (∀ d ∈ ds, Gd n W d) ∧ (∀ d ∈ ds, LenL d) ∧ ds.length = xs.length := by
  induction xs with
  | nil => exact ⟨[], .nil, (fun _ m => nomatch m), (fun _ m => nomatch m), rfl⟩
  | cons x xs ih =>
    obtain ⟨d, a, g, q⟩ := h x List.mem_cons_self
    obtain ⟨ds, b, c, r, l⟩ := ih fun y m => h y (List.mem_cons_of_mem _ m)
    refine ⟨d :: ds, .cons a b, fun e m => ?_, fun e m => ?_, by simp [l]⟩
    · rcases List.mem_cons.mp m with rfl | m
      · exact g
      · exact c e m
    · rcases List.mem_cons.mp m with rfl | m
      · exact q
      · exact r e m
theorem Sw.lst {a : Addr} {xs : List V} {W2 n2 : Nat} (h : SqL K H a xs) (hx : ∀ x ∈ xs, Sw K H n W x) (hl : xs.length ≤ 4000) (hn : n + 1 ≤ n2) (hW : (W + 1) * xs.length ≤ W2) : Sw K H n2 W2 (.ref a) := by
  obtain ⟨ds, b, c, q, l⟩ := sw_all hx
  exact ⟨.list ds, .lst h b, (Gd.list c).mono hn (by rw [l]; exact hW), fun es e => by cases e; omega⟩
theorem Sr.lst {a : Addr} {xs : List V} {W2 n2 : Nat} (h : SqL K H a xs) (hx : ∀ x ∈ xs, Sw K H n W x) (hn : n + 1 ≤ n2) (hW : (W + 1) * xs.length ≤ W2) : Sr K H n2 W2 (.ref a) := by
  obtain ⟨ds, b, c, q, l⟩ := sw_all hx
  exact ⟨.list ds, .lst h b, (Gd.list c).mono hn (by rw [l]; exact hW), fun es e f m => by cases e; exact q f m⟩
theorem Sw.tup {a : Addr} {xs : List V} {W2 n2 : Nat} (h : SqT K H a xs) (hx : ∀ x ∈ xs, Sw K H n W x) (hn : n + 1 ≤ n2) (hW : (W + 1) * xs.length ≤ W2) : Sw K H n2 W2 (.ref a) := by
  obtain ⟨ds, b, c, q, l⟩ := sw_all hx
  exact ⟨.tuple ds, .tup h b, (Gd.tuple c).mono hn (by rw [l]; exact hW), fun es e => by cases e⟩
/-- what is no list is asked no more -/
theorem Sw.sr {d : PyData} (a : De K H v d) (g : Gd n W d) (h : ∀ es, d ≠ .list es) : Sr K H n W v := ⟨d, a, g, fun es e => absurd e (h es)⟩
theorem Sr.non : Sr K H n W .non := Sw.sr .non (Gd.non.mono (Nat.zero_le _) (Nat.zero_le _)) (fun _ e => by cases e)
theorem Sr.bl (b : Bool) : Sr K H n W (.bl b) := Sw.sr (.bl b) ((Gd.bl b).mono (Nat.zero_le _) (Nat.zero_le _)) (fun _ e => by cases e)
theorem Sr.int {i : Int} {k : Nat} (h : i.natAbs < 2 ^ k) (h0 : 0 < k) (hk : k ≤ 128) (hW : k ≤ W) : Sr K H n W (.int i) := Sw.sr (.int i) ((Gd.intB h h0 hk).mono (Nat.zero_le _) hW) (fun _ e => by cases e)
theorem Sr.str {x : Str} (h : (PyData.str x).leavesShort 40 = true) (hW : x.cps.size ≤ W) : Sr K H n W (.str x) := Sw.sr (.str x) ((Gd.str h).mono (Nat.zero_le _) hW) (fun _ e => by cases e)
theorem Sr.dic {a : Addr} (h : H a = some (.dK [])) (hn : 1 ≤ n) : Sr K H n W (.ref a) := Sw.sr (.dic h) (Gd.dic.mono hn (Nat.zero_le _)) (fun _ e => by cases e)
theorem Sr.tup {a : Addr} {xs : List V} {W2 n2 : Nat} (h : SqT K H a xs) (hx : ∀ x ∈ xs, Sw K H n W x) (hn : n + 1 ≤ n2) (hW : (W + 1) * xs.length ≤ W2) : Sr K H n2 W2 (.ref a) := by
  obtain ⟨ds, b, c, q, l⟩ := sw_all hx
  exact ⟨.tuple ds, .tup h b, (Gd.tuple c).mono hn (by rw [l]; exact hW), fun es e => by cases e⟩
theorem sw_ints {ns : List Int} {k : Nat} (h : ∀ i ∈ ns, i.natAbs < 2 ^ k) (h0 : 0 < k) (hk : k ≤ 128) (hW : k ≤ W) : ∀ x ∈ ns.map V.int, Sw K H n W x := fun x m => by
  obtain ⟨i, hi, rfl⟩ := List.mem_map.mp m
  exact .int (h i hi) h0 hk hW
/-- a list of numbers below 256 -/
theorem Sw.row {a : Addr} {ns : List Int} {n2 W2 : Nat} (h : SqL K H a (ns.map V.int)) (hb : ∀ i ∈ ns, i.natAbs < 256) (hl : ns.length ≤ 4000) (hn : 1 ≤ n2) (hW : 9 * ns.length ≤ W2) : Sw K H n2 W2 (.ref a) :=
  Sw.lst (n := 0) (W := 8) h (sw_ints (k := 8) hb (by omega) (by omega) (Nat.le_refl _)) (by rw [List.length_map]; exact hl) hn (by rw [List.length_map]; exact hW)
/-- the rows of a grid -/
theorem grid_sw {s : Addr} {G : Grid} (h : GridAt H s G) {m : Nat} (hr : ∀ i, (row G i).length ≤ m ∧ ∀ x ∈ row G i, x < 256) (hm : m ≤ 4000) : ∃ xs, H s = some (.lst xs) ∧ xs.length = G.length ∧ ∀ x ∈ xs, Sw K H 1 (9 * m) x := by
  obtain ⟨xs, h1, h2, h3⟩ := h.lst
  refine ⟨xs, h1, h2, fun x hx => ?_⟩
  obtain ⟨i, hi⟩ := List.getElem?_of_mem hx
  obtain ⟨_, p, rfl, hp⟩ := h3 i x hi
  have q := hr i
  refine Sw.row (.inl (.inl hp)) (fun n hn => ?_) (by rw [nz_len]; omega) (Nat.le_refl _) (by rw [nz_len]; exact Nat.mul_le_mul_left _ q.1)
  obtain ⟨y, hy, rfl⟩ := List.mem_map.mp hn
  have := q.2 y hy
  show ((y : Nat) : Int).natAbs < 256
  omega
end
end BC

set_option Elab.async false
set_option linter.all false
set_option maxRecDepth 100000
set_option maxHeartbeats 4000000
/-! walks on a site, by number and one by one -/
namespace BC
section
open PySem PySem.Spec PyProof.Rows L2 Evl
/-- xs[i] of xs[i] += e -/
def rGetL (K : PySem.W.Frag) : V → V → Hp → VK → Prop := fun x y H Q => ∃ p xs, ∃ i : Nat, ∃ v, x = .ref p ∧ y = .int i ∧ SqL K H p xs ∧ xs[i]? = some v ∧ Q v H
theorem k_get {X : Cx} {K : PySem.W.Frag} (hK : X.K = K) : PGet X (rGetL K) := by
  subst hK
  intro pins s σ H o i ov iv Q I ro ri h
  obtain ⟨p, xs, j, v, rfl, rfl, hq, hv, q⟩ := h
  cases ro
  obtain ⟨t, rfl⟩ := ri
  obtain ⟨its, r, pl, hz⟩ := I.list hq
  obtain ⟨u, eu, ru⟩ := r.get hv
  have hl := r.length
  have hn := line63
  have hj := (List.getElem?_eq_some_iff.mp hv).1
  refine wpAny_getItem_list (x := u) pl.isList (by omega) (by omega) (by simpa using eu) ⟨v, H, I, ru, q⟩
theorem getL {K : PySem.W.Frag} {H : Hp} {Q : VK} {p : Addr} {xs : List V} {k : Int} {i : Nat} {v : V} (h : SqL K H p xs) (e : k = (i : Int)) (hv : xs[i]? = some v) (q : Q v H) : rGetL K (.ref p) (.int k) H Q := by subst e; exact ⟨p, xs, i, v, rfl, rfl, h, hv, q⟩
theorem x_augS {to ti te : TE} {tget : V → V → Hp → VK → Prop} {tip : TIp} {tset : TSet} {D : Ends} {σ : L2.St} {H : Hp} : tAugS to ti te tget tip tset D σ H = to σ H fun o H1 => ti σ H1 fun i H2 => tget o i H2 fun x H3 => te σ H3 fun y H4 => tip x y H4 fun z H5 => tset o i z H5 fun H6 => D.nx σ H6 := rfl
end
/-- the walks of t steps from v -/
def wf (G : Grid) : Nat → Nat → List (List Nat)
  | 0, v => [[v]]
  | t + 1, v => ((row G v).map fun u => (wf G t u).map (v :: ·)).flatten
def lst (r : List Nat) : Nat := r.getLast?.getD 0
def grow (G : Grid) (r : List Nat) : List (List Nat) := (row G (lst r)).map fun u => r ++ [u]
theorem wf_ne {G : Grid} : ∀ (t v : Nat), ∀ r ∈ wf G t v, r ≠ []
  | 0, v, r, h => by
    obtain rfl : r = [v] := by simpa [wf] using h
    simp
  | t + 1, v, r, h => by
    unfold wf at h
    obtain ⟨a, ha, hr⟩ := List.mem_flatten.mp h
    obtain ⟨u, _, rfl⟩ := List.mem_map.mp ha
    obtain ⟨q, _, rfl⟩ := List.mem_map.mp hr
    simp
theorem grow_cons (G : Grid) (v : Nat) {r : List Nat} (h : r ≠ []) : grow G (v :: r) = (grow G r).map (v :: ·) := by
  unfold grow lst
  rw [List.map_map, List.getLast?_cons_of_ne_nil h]
  rfl
theorem sum_zeros {α : Type} : ∀ l : List α, (l.map fun _ => 0).sum = 0
  | [] => rfl
  | x :: l => by rw [List.map_cons, List.sum_cons, sum_zeros l]
theorem map_flatten' {α β : Type} (f : α → β) : ∀ l : List (List α), l.flatten.map f = (l.map (·.map f)).flatten
  | [] => rfl
  | a :: l => by rw [List.flatten_cons, List.map_append, map_flatten' f l]; rfl
theorem flatten_flatten' {α : Type} : ∀ l : List (List (List α)), l.flatten.flatten = (l.map (·.flatten)).flatten
  | [] => rfl
  | a :: l => by rw [List.flatten_cons, List.flatten_append, flatten_flatten' l]; rfl
theorem wf_snoc (G : Grid) : ∀ (t v : Nat), wf G (t + 1) v = ((wf G t v).map (grow G)).flatten
  | 0, v => by
    show ((row G v).map fun u => [[v, u]]).flatten = (grow G [v]) ++ []
    rw [List.append_nil]
    show ((row G v).map fun u => [[v, u]]).flatten = (row G v).map fun u => [v, u]
    generalize row G v = l
    induction l with
    | nil => rfl
    | cons x l ih =>
      rw [List.map_cons, List.flatten_cons, ih]
      rfl
  | t + 1, v => by
    have ih := fun u => wf_snoc G t u
    show ((row G v).map fun u => (wf G (t + 1) u).map (v :: ·)).flatten = ((((row G v).map fun u => (wf G t u).map (v :: ·)).flatten).map (grow G)).flatten
    rw [map_flatten', flatten_flatten', List.map_map, List.map_map]
    congr 1
    apply List.map_congr_left
    intro u _
    show (wf G (t + 1) u).map (v :: ·) = ((wf G t u |>.map (v :: ·)).map (grow G)).flatten
    rw [ih u, map_flatten', List.map_map, List.map_map]
    congr 1
    apply List.map_congr_left
    intro r hr
    show (grow G r).map (v :: ·) = grow G (v :: r)
    rw [grow_cons G v (wf_ne t u r hr)]
/-- the number of walks of t steps from v to the page that keep out -/
def fw (G : Grid) (out : List Nat) (p : Nat) : Nat → Nat → Nat
  | 0, v => if v = p ∧ v ∉ out then 1 else 0
  | t + 1, v => if v ∉ out then ((row G v).map fun u => fw G out p t u).sum else 0
/-- a walk to the page that keeps out -/
def good (out : List Nat) (p : Nat) (r : List Nat) : Bool := decide (lst r = p) && decide (r.filter (fun x => decide (x ∈ out)) = [])
theorem good_cons {out : List Nat} {p v : Nat} {r : List Nat} (h : r ≠ []) : good out p (v :: r) = (decide (v ∉ out) && good out p r) := by
  unfold good lst
  rw [List.getLast?_cons_of_ne_nil h]
  by_cases c : v ∈ out
  · simp [c]
  · simp [c]
theorem len_flat {α : Type} (P : α → Bool) : ∀ l : List (List α), (l.flatten.filter P).length = (l.map fun a => (a.filter P).length).sum
  | [] => rfl
  | a :: l => by rw [List.flatten_cons, List.filter_append, List.length_append, len_flat P l]; rfl
theorem fw_count (G : Grid) (out : List Nat) (p : Nat) : ∀ (t v : Nat), ((wf G t v).filter (good out p)).length = fw G out p t v
  | 0, v => by
    show ([[v]].filter (good out p)).length = if v = p ∧ v ∉ out then 1 else 0
    have e : good out p [v] = (decide (v = p) && decide (v ∉ out)) := by
      show (decide (v = p) && decide ([v].filter (fun x => decide (x ∈ out)) = [])) = _
      congr 1
      by_cases c : v ∈ out <;> simp [c]
    by_cases a : v = p <;> by_cases c : v ∈ out <;> simp [e, a, c]
    all_goals (subst a; simp_all)
  | t + 1, v => by
    show ((((row G v).map fun u => (wf G t u).map (v :: ·)).flatten).filter (good out p)).length = if v ∉ out then ((row G v).map fun u => fw G out p t u).sum else 0
    rw [len_flat, List.map_map]
    have key : ∀ u, (((wf G t u).map (v :: ·)).filter (good out p)).length = if v ∉ out then fw G out p t u else 0 := fun u => by
      rw [List.filter_map, List.length_map]
      have e : (wf G t u).filter (good out p ∘ fun x => v :: x) = (wf G t u).filter fun r => decide (v ∉ out) && good out p r := by
        apply List.filter_congr
        intro r hr
        show good out p (v :: r) = _
        rw [good_cons (wf_ne t u r hr)]
      rw [e]
      by_cases c : v ∈ out
      · simp [c]
      · rw [if_pos c]
        simp only [c, not_false_eq_true, decide_true, Bool.true_and]
        exact fw_count G out p t u
    by_cases c : v ∈ out
    · rw [if_neg (by simpa using c)]
      have : (row G v).map ((fun a => (List.filter (good out p) a).length) ∘ fun u => (wf G t u).map (v :: ·)) = (row G v).map fun _ => 0 := List.map_congr_left fun u _ => by
        show (((wf G t u).map (v :: ·)).filter (good out p)).length = 0
        rw [key u, if_neg (by simpa using c)]
      rw [this, sum_zeros]
    · rw [if_pos c]
      congr 1
      apply List.map_congr_left
      intro u _
      show (((wf G t u).map (v :: ·)).filter (good out p)).length = _
      rw [key u, if_pos c]
theorem wf_lt {G : Grid} (h : SiteOk G) : ∀ (t v : Nat), v < G.length → ∀ r ∈ wf G t v, (∀ x ∈ r, x < G.length) ∧ r.length = t + 1
  | 0, v, hv, r, hr => by
    obtain rfl : r = [v] := by simpa [wf] using hr
    exact ⟨fun x hx => by rw [List.mem_singleton.mp hx]; exact hv, rfl⟩
  | t + 1, v, hv, r, hr => by
    unfold wf at hr
    obtain ⟨a, ha, hr⟩ := List.mem_flatten.mp hr
    obtain ⟨u, hu, rfl⟩ := List.mem_map.mp ha
    obtain ⟨q, hq, rfl⟩ := List.mem_map.mp hr
    obtain ⟨h1, h2⟩ := wf_lt h t u (h.rlt hu) q hq
    refine ⟨fun x hx => ?_, by rw [List.length_cons, h2]⟩
    rcases List.mem_cons.mp hx with rfl | hx
    · exact hv
    · exact h1 x hx
theorem sum_le {f : Nat → Nat} {b : Nat} : ∀ {l : List Nat}, (∀ x ∈ l, f x ≤ b) → (l.map f).sum ≤ l.length * b
  | [], _ => by simp
  | x :: l, h => by
    have a := h x List.mem_cons_self
    have b := sum_le (l := l) fun y hy => h y (List.mem_cons_of_mem _ hy)
    rw [List.map_cons, List.sum_cons, List.length_cons, Nat.succ_mul]
    omega
theorem fw_le {G : Grid} (h : SiteOk G) (out : List Nat) (p : Nat) : ∀ t v, fw G out p t v ≤ 12 ^ t
  | 0, v => by
    unfold fw
    split <;> simp
  | t + 1, v => by
    unfold fw
    split
    · have a := sum_le (f := fun u => fw G out p t u) (b := 12 ^ t) (l := row G v) fun u _ => fw_le h out p t u
      have b := Nat.mul_le_mul_right (12 ^ t) (h.rlen v)
      rw [Nat.pow_succ, Nat.mul_comm]
      omega
    · exact Nat.zero_le _
theorem wf_len {G : Grid} (h : SiteOk G) : ∀ (t v : Nat), (wf G t v).length ≤ G.length ^ t
  | 0, v => by simp [wf]
  | t + 1, v => by
    show (((row G v).map fun u => (wf G t u).map (v :: ·)).flatten).length ≤ _
    have e : (((row G v).map fun u => (wf G t u).map (v :: ·)).flatten).length = ((row G v).map fun u => (wf G t u).length).sum := by
      rw [List.length_flatten, List.map_map]
      congr 1
      apply List.map_congr_left
      intro u _
      show ((wf G t u).map _).length = _
      rw [List.length_map]
    rw [e]
    have a := sum_le (f := fun u => (wf G t u).length) (b := G.length ^ t) (l := row G v) fun u _ => wf_len h t u
    have rl : (row G v).length ≤ G.length := by
      by_cases q : v < G.length
      · exact nodup_lt _ (asc_nodup (h.asc v _ (at_row q))) (h.lt v _ (at_row q))
      · unfold row
        rw [List.getD_eq_getElem?_getD, List.getElem?_eq_none (by omega)]
        exact Nat.zero_le _
    have b := Nat.mul_le_mul_right (G.length ^ t) rl
    rw [Nat.pow_succ, Nat.mul_comm]
    omega
theorem flat_le {α β : Type} {f : α → List β} {b : Nat} : ∀ {l : List α}, (∀ x ∈ l, (f x).length ≤ b) → (l.map f).flatten.length ≤ l.length * b
  | [], _ => by simp
  | x :: l, h => by
    have a := h x List.mem_cons_self
    have c := flat_le (l := l) fun y hy => h y (List.mem_cons_of_mem _ hy)
    rw [List.map_cons, List.flatten_cons, List.length_append, List.length_cons, Nat.succ_mul]
    omega
/-! ### products of lists of numbers -/
def cnv (a b : List Nat) (k : Nat) : Nat := ((List.range (k + 1)).map fun i => a.getD i 0 * b.getD (k - i) 0).sum
def conv (a b : List Nat) (n : Nat) : List Nat := (List.range (n + 1)).map fun k => cnv a b k
theorem conv_len (a b : List Nat) (n : Nat) : (conv a b n).length = n + 1 := by unfold conv; rw [List.length_map, List.length_range]
theorem conv_at {a b : List Nat} {n k : Nat} (h : k ≤ n) : (conv a b n)[k]? = some (cnv a b k) := by
  unfold conv
  rw [List.getElem?_map, List.getElem?_range (by omega)]
  rfl
/-- what is added up while the first i of a are done, and j of b at the next one -/
def part (a b : List Nat) (i j k : Nat) : Nat := ((List.range (k + 1)).map fun u => if u < i ∨ (u = i ∧ k - u < j) then a.getD u 0 * b.getD (k - u) 0 else 0).sum
theorem part_zero (a b : List Nat) (k : Nat) : part a b 0 0 k = 0 := by
  unfold part
  have : (List.range (k + 1)).map (fun u => if u < 0 ∨ (u = 0 ∧ k - u < 0) then a.getD u 0 * b.getD (k - u) 0 else 0) = (List.range (k + 1)).map fun _ => 0 := List.map_congr_left fun u _ => by rw [if_neg (by omega)]
  rw [this, sum_zeros]
theorem sum_one (n i : Nat) (f g : Nat → Nat) (c : Nat) (hi : i < n) (h1 : ∀ u, u < n → u ≠ i → g u = f u) (h2 : g i = f i + c) : ((List.range n).map g).sum = ((List.range n).map f).sum + c := by
  induction n with
  | zero => omega
  | succ n ih =>
    rw [List.range_succ, List.map_append, List.map_append, List.sum_append, List.sum_append]
    simp only [List.map_cons, List.map_nil, List.sum_cons, List.sum_nil]
    by_cases e : i = n
    · subst e
      have : (List.range i).map g = (List.range i).map f := List.map_congr_left fun u hu => h1 u (by rw [List.mem_range] at hu; omega) (by rw [List.mem_range] at hu; omega)
      rw [this, h2]
      omega
    · rw [ih (by omega) (fun u hu ne => h1 u (by omega) ne), h1 n (by omega) (Ne.symm e)]
      omega
theorem part_step {a b : List Nat} {i j k : Nat} : part a b i (j + 1) k = part a b i j k + if k = i + j then a.getD i 0 * b.getD j 0 else 0 := by
  unfold part
  by_cases c : k = i + j
  · rw [if_pos c]
    refine sum_one (k + 1) i _ _ _ (by omega) (fun u hu ne => ?_) ?_
    · have : (u < i ∨ (u = i ∧ k - u < j + 1)) ↔ (u < i ∨ (u = i ∧ k - u < j)) := by omega
      simp only [this]
    · have e : k - i = j := by omega
      rw [if_pos (by omega), if_neg (by omega), e, Nat.zero_add]
  · rw [if_neg c, Nat.add_zero]
    congr 1
    apply List.map_congr_left
    intro u hu
    rw [List.mem_range] at hu
    have : (u < i ∨ (u = i ∧ k - u < j + 1)) ↔ (u < i ∨ (u = i ∧ k - u < j)) := by omega
    simp only [this]
theorem part_next {a b : List Nat} {i j k : Nat} (h : k < i + j ∨ b.length ≤ j ∨ a.getD i 0 = 0) : part a b i j k = part a b (i + 1) 0 k := by
  unfold part
  congr 1
  apply List.map_congr_left
  intro u hu
  rw [List.mem_range] at hu
  by_cases c1 : u < i
  · rw [if_pos (.inl c1), if_pos (by omega)]
  · by_cases c2 : u = i
    · subst c2
      rw [if_pos (show u < u + 1 ∨ _ by omega)]
      by_cases c3 : k - u < j
      · rw [if_pos (by omega)]
      · rw [if_neg (by omega)]
        rcases h with h | h | h
        · omega
        · rw [show b.getD (k - u) 0 = 0 by rw [List.getD_eq_getElem?_getD, List.getElem?_eq_none (by omega)]; rfl, Nat.mul_zero]
        · rw [h, Nat.zero_mul]
    · rw [if_neg (by omega), if_neg (by omega)]
theorem part_full {a b : List Nat} {i k : Nat} (h : k < i ∨ a.length ≤ i) : part a b i 0 k = cnv a b k := by
  unfold part cnv
  congr 1
  apply List.map_congr_left
  intro u hu
  rw [List.mem_range] at hu
  by_cases c : u < i
  · rw [if_pos (.inl c)]
  · rw [if_neg (by omega)]
    rw [show a.getD u 0 = 0 by rw [List.getD_eq_getElem?_getD, List.getElem?_eq_none (by omega)]; rfl, Nat.zero_mul]
theorem part_le {a b : List Nat} {i j k B C : Nat} (ha : ∀ x ∈ a, x ≤ B) (hb : ∀ x ∈ b, x ≤ C) : part a b i j k ≤ (k + 1) * (B * C) := by
  unfold part
  have ga : ∀ u, a.getD u 0 ≤ B := fun u => by
    by_cases q : u < a.length
    · rw [List.getD_eq_getElem?_getD, List.getElem?_eq_getElem q]
      exact ha _ (List.getElem_mem q)
    · rw [List.getD_eq_getElem?_getD, List.getElem?_eq_none (by omega)]
      exact Nat.zero_le _
  have gb : ∀ u, b.getD u 0 ≤ C := fun u => by
    by_cases q : u < b.length
    · rw [List.getD_eq_getElem?_getD, List.getElem?_eq_getElem q]
      exact hb _ (List.getElem_mem q)
    · rw [List.getD_eq_getElem?_getD, List.getElem?_eq_none (by omega)]
      exact Nat.zero_le _
  have := sum_le (f := fun u => if u < i ∨ (u = i ∧ k - u < j) then a.getD u 0 * b.getD (k - u) 0 else 0) (b := B * C) (l := List.range (k + 1)) fun u _ => by
    split
    · exact Nat.mul_le_mul (ga u) (gb _)
    · exact Nat.zero_le _
  rw [List.length_range] at this
  exact this
/-- the list of the sums -/
def parts (a b : List Nat) (n i j : Nat) : List Nat := (List.range (n + 1)).map fun k => part a b i j k
theorem parts_len (a b : List Nat) (n i j : Nat) : (parts a b n i j).length = n + 1 := by unfold parts; rw [List.length_map, List.length_range]
theorem parts_at {a b : List Nat} {n i j k : Nat} (h : k ≤ n) : (parts a b n i j)[k]? = some (part a b i j k) := by
  unfold parts
  rw [List.getElem?_map, List.getElem?_range (by omega)]
  rfl
theorem parts_zero (a b : List Nat) (n : Nat) : parts a b n 0 0 = List.replicate (n + 1) 0 := by
  apply List.ext_getElem?
  intro k
  by_cases h : k < n + 1
  · rw [parts_at (by omega), part_zero, List.getElem?_replicate, if_pos h]
  · rw [List.getElem?_eq_none (by rw [parts_len]; omega), List.getElem?_eq_none (by rw [List.length_replicate]; omega)]
theorem parts_step {a b : List Nat} {n i j : Nat} (h : i + j ≤ n) : (parts a b n i j).set (i + j) (part a b i j (i + j) + a.getD i 0 * b.getD j 0) = parts a b n i (j + 1) := by
  apply List.ext_getElem?
  intro k
  by_cases hk : k < n + 1
  · rw [parts_at (by omega), part_step, List.getElem?_set]
    by_cases e : i + j = k
    · subst e
      rw [if_pos rfl, if_pos (by rw [parts_len]; omega), if_pos rfl]
    · rw [if_neg e, parts_at (by omega), if_neg (Ne.symm e), Nat.add_zero]
  · rw [List.getElem?_eq_none (by rw [List.length_set, parts_len]; omega), List.getElem?_eq_none (by rw [parts_len]; omega)]
theorem parts_over {a b : List Nat} {n i j : Nat} (h : n < i + j) : parts a b n i (j + 1) = parts a b n i j := by
  unfold parts
  apply List.map_congr_left
  intro k hk
  rw [List.mem_range] at hk
  rw [part_step, if_neg (by omega), Nat.add_zero]
theorem parts_next {a b : List Nat} {n i j : Nat} (h : n < i + j ∨ b.length ≤ j ∨ a.getD i 0 = 0) : parts a b n i j = parts a b n (i + 1) 0 := by
  unfold parts
  apply List.map_congr_left
  intro k hk
  rw [List.mem_range] at hk
  exact part_next (by omega)
theorem parts_full {a b : List Nat} {n i : Nat} (h : n < i ∨ a.length ≤ i) : parts a b n i 0 = conv a b n := by
  unfold parts conv
  apply List.map_congr_left
  intro k hk
  rw [List.mem_range] at hk
  exact part_full (by omega)
section
open PySem PySem.Spec PyProof.Rows L2 Evl
theorem lc_enumE {K : PySem.W.Frag} {σ : L2.St} {H1 : Hp} {g : TG} {te : TE} {vs : List Nat} {Dl : Addr} {Q : VK} {a : Addr} {xs : List V} (Pv : Nat → Hp → Prop) (h0 : Pv 0 (upd H1 Dl (.lst []))) (hl : ∀ i H, i ≤ xs.length → Pv i H → SqL K H a xs)
    (hs : ∀ i x H T, xs[i]? = some x → Pv i H → H T = none → g (.ref T) (wipe σ vs) (upd H T (.tup [.int (i : Nat), x])) fun σ2 H2 => wipe σ2 vs = wipe σ vs ∧ te σ2 H2 fun y H4 => ∃ acc, H4 Dl = some (.lst acc) ∧ acc.length < sizeLine ∧ Pv (i + 1) (upd H4 Dl (.lst (acc ++ [y]))))
    (hd : ∀ H, Pv xs.length H → Q (.ref Dl) H) : LcG (Ite K a) g tYes te vs σ Dl H1 Q := by
  refine lc_g xs.length Pv h0 (fun H h => ⟨xs, hl _ H (Nat.le_refl _) h, Nat.le_refl _⟩) (fun i H hi h => ⟨xs, xs[i], hl i H (by omega) h, List.getElem?_eq_getElem hi⟩) (fun i H x H' hi h y => ?_) hd
  obtain ⟨T, v, rfl, hT, rfl, hf⟩ := y
  exact hs i v H T (hf xs (hl i _ (by omega) h)) h hT
/-- a row of a new grid changed -/
theorem GridN.chg {H H1 : Hp} {s : Addr} {G : Grid} (h : GridN H H1 s G) {j : Nat} (hj : j < G.length) : ∃ p xs, H1 s = some (.lst xs) ∧ xs.length = G.length ∧ xs[j]? = some (.ref p) ∧ H1 p = some (.lst ((nz (row G j)).map V.int)) ∧ H p = none ∧
    ∀ r : List Nat, GridN H (upd H1 p (.lst ((nz r).map V.int))) s (G.set j r) := by
  obtain ⟨h0, ps, h1, h2, h4, h5, h3⟩ := h
  have hx : ps[j]? = some ps[j] := List.getElem?_eq_getElem (by omega)
  have hp := h3 j _ hx
  refine ⟨ps[j], _, h1, by rw [List.length_map]; exact h2, by rw [List.getElem?_map, hx]; rfl, hp.2, hp.1, fun r => ?_⟩
  have ns : s ≠ ps[j] := fun e => h5 (by rw [e]; exact List.getElem_mem _)
  refine ⟨h0, ps, by rw [upd_ne ns]; exact h1, by rw [List.length_set]; exact h2, h4, h5, fun i q e => ⟨(h3 i q e).1, ?_⟩⟩
  by_cases c : i = j
  · subst c
    rw [hx] at e
    obtain rfl := Option.some.inj e
    rw [upd_same]
    unfold row
    rw [List.getD_eq_getElem?_getD, List.getElem?_set, if_pos rfl, if_pos hj]
    rfl
  · have nq : q ≠ ps[j] := fun z => by
      subst z
      exact c (nd_at h4 e hx)
    rw [upd_ne nq, (h3 i q e).2]
    unfold row
    rw [List.getD_eq_getElem?_getD, List.getD_eq_getElem?_getD, List.getElem?_set, if_neg (Ne.symm c)]
/-! ### what the functions of loops.py give -/
def cl (G : Grid) (out : List Nat) (p n : Nat) : List Nat := (List.range (n + 1)).map fun t => fw G out p t p
def stg (G : Grid) (out : List Nat) (p k j : Nat) : Grid := (List.range G.length).map fun v => (List.range (if v < j then k + 2 else k + 1)).map fun t => fw G out p t v
theorem stg_len (G : Grid) (out : List Nat) (p k j : Nat) : (stg G out p k j).length = G.length := by unfold stg; rw [List.length_map, List.length_range]
theorem stg_row {G : Grid} {out : List Nat} {p k j v : Nat} (h : v < G.length) : row (stg G out p k j) v = (List.range (if v < j then k + 2 else k + 1)).map fun t => fw G out p t v := by
  unfold row stg
  rw [List.getD_eq_getElem?_getD, List.getElem?_map, List.getElem?_range h]
  rfl
theorem stg_set {G : Grid} {out : List Nat} {p k j : Nat} (h : j < G.length) : (stg G out p k j).set j (row (stg G out p k j) j ++ [fw G out p (k + 1) j]) = stg G out p k (j + 1) := by
  apply List.ext_getElem?
  intro v
  by_cases hv : v < G.length
  · rw [List.getElem?_set, stg_row h, if_neg (Nat.lt_irrefl j)]
    have rhs : (stg G out p k (j + 1))[v]? = some (row (stg G out p k (j + 1)) v) := at_row (by rw [stg_len]; exact hv)
    rw [rhs, stg_row hv]
    by_cases e : j = v
    · subst e
      rw [if_pos rfl, if_pos (by rw [stg_len]; exact hv), if_pos (Nat.lt_succ_self j), List.range_succ (n := k + 1), List.map_append]
      rfl
    · rw [if_neg e, at_row (by rw [stg_len]; exact hv), stg_row hv]
      by_cases c : v < j
      · rw [if_pos c, if_pos (by omega)]
      · rw [if_neg c, if_neg (by omega)]
  · rw [List.getElem?_eq_none (by rw [List.length_set, stg_len]; omega), List.getElem?_eq_none (by rw [stg_len]; omega)]
theorem stg_next (G : Grid) (out : List Nat) (p k : Nat) : stg G out p k G.length = stg G out p (k + 1) 0 := by
  unfold stg
  apply List.map_congr_left
  intro v hv
  rw [List.mem_range] at hv
  rw [if_pos hv, if_neg (by omega)]
theorem stg_cl {G : Grid} {out : List Nat} {p n : Nat} (h : p < G.length) : row (stg G out p n 0) p = cl G out p n := by
  rw [stg_row h, if_neg (by omega)]
  rfl
def prs (G : Grid) (L : List Nat) (n : Nat) : Grid := (List.range L.length).map fun i => cl G (L.take i) (L.getD i 0) n
theorem prs_len (G : Grid) (L : List Nat) (n : Nat) : (prs G L n).length = L.length := by unfold prs; rw [List.length_map, List.length_range]
theorem prs_row {G : Grid} {L : List Nat} {n i : Nat} (h : i < L.length) : row (prs G L n) i = cl G (L.take i) (L.getD i 0) n := by
  unfold row prs
  rw [List.getD_eq_getElem?_getD, List.getElem?_map, List.getElem?_range h]
  rfl
def fold (n : Nat) (P : Grid) : List Nat := P.foldl (fun f q => conv f q n) (1 :: List.replicate n 0)
theorem fold_len (n : Nat) (P : Grid) : (fold n P).length = n + 1 := by
  unfold fold
  have : ∀ (P : Grid) (f : List Nat), f.length = n + 1 → (P.foldl (fun f q => conv f q n) f).length = n + 1 := fun P => by
    induction P with
    | nil => exact fun f h => h
    | cons q P ih => exact fun f _ => ih _ (conv_len _ _ _)
  exact this P _ (by simp)
theorem fold_snoc {n : Nat} {P : Grid} {i : Nat} {q : List Nat} (h : P[i]? = some q) : fold n (P.take (i + 1)) = conv (fold n (P.take i)) q n := by
  unfold fold
  rw [List.take_add_one, h, List.foldl_append]
  rfl
theorem cl_le {G : Grid} (h : SiteOk G) (out : List Nat) (p n : Nat) : ∀ x ∈ cl G out p n, x ≤ 12 ^ n := fun x hx => by
  unfold cl at hx
  obtain ⟨t, ht, rfl⟩ := List.mem_map.mp hx
  rw [List.mem_range] at ht
  exact Nat.le_trans (fw_le h out p t p) (Nat.pow_le_pow_right (by omega) (by omega))
theorem cl_len (G : Grid) (out : List Nat) (p n : Nat) : (cl G out p n).length = n + 1 := by unfold cl; rw [List.length_map, List.length_range]
theorem cnv_le {a b : List Nat} {k B C : Nat} (ha : ∀ x ∈ a, x ≤ B) (hb : ∀ x ∈ b, x ≤ C) : cnv a b k ≤ (k + 1) * (B * C) := by
  rw [← part_full (a := a) (b := b) (i := k + 1) (k := k) (.inl (by omega))]
  exact part_le ha hb
theorem fold_le {n : Nat} {P : Grid} (hP : ∀ q ∈ P, ∀ x ∈ q, x ≤ 12 ^ n) : ∀ i, ∀ x ∈ fold n (P.take i), x ≤ ((n + 1) * 12 ^ n) ^ i := fun i => by
  induction i with
  | zero =>
    intro x hx
    rw [List.take_zero] at hx
    have : x ∈ 1 :: List.replicate n 0 := hx
    rcases List.mem_cons.mp this with rfl | h
    · simp
    · rw [List.eq_of_mem_replicate h]; exact Nat.zero_le _
  | succ i ih =>
    intro x hx
    by_cases c : i < P.length
    · have e : P[i]? = some P[i] := List.getElem?_eq_getElem c
      rw [fold_snoc e] at hx
      unfold conv at hx
      obtain ⟨k, hk, rfl⟩ := List.mem_map.mp hx
      rw [List.mem_range] at hk
      have a := cnv_le (k := k) ih (hP P[i] (List.getElem_mem c))
      have b : (k + 1) * (((n + 1) * 12 ^ n) ^ i * 12 ^ n) ≤ (n + 1) * (((n + 1) * 12 ^ n) ^ i * 12 ^ n) := Nat.mul_le_mul_right _ (by omega)
      have d : (n + 1) * (((n + 1) * 12 ^ n) ^ i * 12 ^ n) = ((n + 1) * 12 ^ n) ^ (i + 1) := by
        rw [Nat.pow_succ, Nat.mul_left_comm]
      omega
    · rw [List.take_of_length_le (by omega)] at hx
      rw [List.take_of_length_le (by omega)] at ih
      have a := ih x hx
      have b : ((n + 1) * 12 ^ n) ^ i ≤ ((n + 1) * 12 ^ n) ^ (i + 1) := Nat.pow_le_pow_right (Nat.mul_pos (by omega) (Nat.pow_pos (by omega))) (by omega)
      omega
theorem big_fold {n i : Nat} (hn : n ≤ 60) (hi : i ≤ 12) : ((n + 1) * 12 ^ n) ^ i < 2 ^ 4000 := by
  have a : (n + 1) * 12 ^ n ≤ 61 * 12 ^ 60 := Nat.mul_le_mul (by omega) (Nat.pow_le_pow_right (by omega) hn)
  have b : ((n + 1) * 12 ^ n) ^ i ≤ (61 * 12 ^ 60) ^ i := Nat.pow_le_pow_left a i
  have c : (61 * 12 ^ 60) ^ i ≤ (61 * 12 ^ 60) ^ 12 := Nat.pow_le_pow_right (by decide) hi
  have d : (61 * 12 ^ 60) ^ 12 < 2 ^ 4000 := by decide +kernel
  omega
theorem big_cl {n : Nat} (hn : n ≤ 60) : 12 ^ n < 2 ^ 4000 := by
  have a : 12 ^ n ≤ 12 ^ 60 := Nat.pow_le_pow_right (by omega) hn
  have d : 12 ^ 60 < 2 ^ 4000 := by decide +kernel
  omega
/-- a new grid behind a new grid -/
theorem GridN.ext {H H1 H2 : Hp} {s d : Addr} {G F : Grid} (h : GridN H H1 s G) (g : GridN H1 H2 d F) (e : Ex H1 H2) (low : ∀ x, H1 x = none → H x = none) : ∃ xs zs, H2 s = some (.lst xs) ∧ H2 d = some (.lst zs) ∧ xs.length = G.length ∧ zs.length = F.length ∧ GridN H (upd H2 s (.lst (xs ++ zs))) s (G ++ F) := by
  obtain ⟨h0, ps, h1, h2, h4, h5, h3⟩ := h
  obtain ⟨g0, qs, g1, g2, g4, g5, g3⟩ := g
  refine ⟨_, _, e _ _ h1, g1, by rw [List.length_map, h2], by rw [List.length_map, g2], h0, ps ++ qs, by rw [upd_same, List.map_append], by rw [List.length_append, List.length_append, h2, g2], ?_, ?_, fun i p q => ?_⟩
  · rw [List.nodup_append]
    refine ⟨h4, g4, fun a ha b hb z => ?_⟩
    subst z
    obtain ⟨i, hi, ei⟩ := List.getElem_of_mem ha
    obtain ⟨j, hj, ej⟩ := List.getElem_of_mem hb
    have a1 := (h3 i a (List.getElem?_eq_some_iff.mpr ⟨hi, ei⟩)).2
    have a2 := (g3 j a (List.getElem?_eq_some_iff.mpr ⟨hj, ej⟩)).1
    rw [a2] at a1
    cases a1
  · intro m
    rcases List.mem_append.mp m with m | m
    · exact h5 m
    · obtain ⟨j, hj, ej⟩ := List.getElem_of_mem m
      have a2 := (g3 j s (List.getElem?_eq_some_iff.mpr ⟨hj, ej⟩)).1
      rw [a2] at h1
      cases h1
  · by_cases hi : i < ps.length
    · rw [List.getElem?_append_left hi] at q
      have := h3 i p q
      have ns : p ≠ s := fun z => h5 (z ▸ List.mem_of_getElem? q)
      refine ⟨this.1, ?_⟩
      rw [upd_ne ns, e _ _ this.2]
      unfold row
      rw [List.getD_eq_getElem?_getD, List.getD_eq_getElem?_getD, List.getElem?_append_left (by omega)]
    · rw [List.getElem?_append_right (by omega)] at q
      have := g3 _ p q
      have ns : p ≠ s := fun z => by
        have a := this.1
        rw [z, h1] at a
        cases a
      refine ⟨low p this.1, ?_⟩
      rw [upd_ne ns, this.2]
      unfold row
      rw [List.getD_eq_getElem?_getD, List.getD_eq_getElem?_getD, List.getElem?_append_right (by omega), h2]
theorem kept_ones (s : List Nat) (k : Nat → Bool) : kept s.length (fun i => k (s.getD i 0)) (fun _ => V.int 1) = (nz ((s.filter k).map fun _ => 1)).map V.int := by
  unfold kept nz
  have e : (List.range s.length).map (fun i => s.getD i 0) = s := by
    apply List.ext_getElem?
    intro j
    by_cases h : j < s.length
    · rw [List.getElem?_map, List.getElem?_range h, List.getElem?_eq_getElem h]
      show some (s.getD j 0) = _
      rw [List.getD_eq_getElem?_getD, List.getElem?_eq_getElem h]
      rfl
    · rw [List.getElem?_eq_none (by rw [List.length_map, List.length_range]; omega), List.getElem?_eq_none (by omega)]
  conv => rhs; rw [← e]
  rw [List.filter_map, List.map_map, List.map_map, List.map_map]
  rfl
/-- the rows that are kept -/
theorem GridAt.keep {H' : Hp} {D : Addr} {ps : List Addr} {G : Grid} (P : List Nat → Bool) (k : Nat → Bool) (hl : ps.length = G.length) (hr : ∀ i p, ps[i]? = some p → H' p = some (.lst ((nz (row G i)).map V.int))) (hk : ∀ i, i < G.length → k i = P (row G i))
    (hD : H' D = some (.lst (kept G.length k fun i => .ref (ps.getD i 0)))) : GridAt H' D (G.filter P) := by
  have eG : G = (List.range G.length).map (row G) := by
    apply List.ext_getElem?
    intro j
    by_cases h : j < G.length
    · rw [List.getElem?_map, List.getElem?_range h, at_row h]
      rfl
    · rw [List.getElem?_eq_none (by omega), List.getElem?_eq_none (by rw [List.length_map, List.length_range]; omega)]
  have eF : G.filter P = ((List.range G.length).filter k).map (row G) := by
    conv => lhs; rw [eG]
    rw [List.filter_map]
    congr 1
    apply List.filter_congr
    intro i hi
    rw [List.mem_range] at hi
    exact (hk i hi).symm
  refine ⟨((List.range G.length).filter k).map fun i => ps.getD i 0, ?_, ?_, fun i p e => ?_⟩
  · rw [hD]
    unfold kept
    rw [List.map_map]
    rfl
  · rw [eF, List.length_map, List.length_map]
  · rw [List.getElem?_map] at e
    cases q : ((List.range G.length).filter k)[i]? with
    | none => rw [q] at e; cases e
    | some j =>
      rw [q] at e
      have hj : j < G.length := List.mem_range.mp (List.mem_filter.mp (List.mem_of_getElem? q)).1
      have hx : ps[j]? = some ps[j] := List.getElem?_eq_getElem (by omega)
      have ep : ps.getD j 0 = p := Option.some.inj e
      rw [List.getD_eq_getElem?_getD, hx] at ep
      obtain rfl : ps[j] = p := ep
      rw [hr j _ hx]
      have : row (G.filter P) i = row G j := by
        rw [eF]
        unfold row
        rw [List.getD_eq_getElem?_getD, List.getElem?_map, q]
        rfl
      rw [this]
end
end BC

set_option Elab.async false
set_option linter.all false
set_option maxRecDepth 100000
set_option maxHeartbeats 4000000
/-! dicts: readings, loops over keys, keys that are texts of lists of digits -/
namespace BC
open PySem PySem.Spec PyProof.Rows L2 Evl
section
variable {K : PySem.W.Frag} {σ : L2.St} {H : Hp} {Q : VK} {QT : Bool → Hp → Prop} {td ty tv tx : TE} {D : Ends} {g : TG} {tb : TS} {c : TE}
theorem x_dnewK : tDNewK σ H Q = ∀ p, H p = none → Q (.ref p) (upd H p (.dK [])) := rfl
theorem x_dnewT : tDNewT σ H Q = ∀ p, H p = none → Q (.ref p) (upd H p (.dT [])) := rfl
theorem x_dget : tDGet td ty σ H Q = td σ H (fun x H1 => ty σ H1 fun y H2 => ∃ a v, x = .ref a ∧ DGet H2 a y (some v) ∧ Q v H2) := rfl
theorem x_dget1 : tDGet1 td ty σ H Q = td σ H (fun x H1 => ∃ a, x = .ref a ∧ IsD H1 a ∧ ty σ H1 fun y H2 => ∃ o, DGet H2 a y o ∧ Q (o.getD .non) H2) := rfl
theorem x_dget2 : tDGet2 td ty tx σ H Q = td σ H (fun x H1 => ∃ a, x = .ref a ∧ IsD H1 a ∧ ty σ H1 fun y H2 => tx σ H2 fun z H3 => ∃ o, DGet H3 a y o ∧ Q (o.getD z) H3) := rfl
theorem x_din : tDIn ty td σ H Q = ty σ H (fun y H1 => td σ H1 fun x H2 => ∃ a o, x = .ref a ∧ DGet H2 a y o ∧ Q (.bl o.isSome) H2) := rfl
theorem x_dnotin : tDNotIn ty td σ H Q = ty σ H (fun y H1 => td σ H1 fun x H2 => ∃ a o, x = .ref a ∧ DGet H2 a y o ∧ Q (.bl (!o.isSome)) H2) := rfl
theorem x_dput : sDPut td ty tv D σ H = tv σ H (fun v H1 => td σ H1 fun x H2 => ty σ H2 fun y H3 => ∃ a H4, x = .ref a ∧ DPut H3 a y v H4 ∧ D.nx σ H4) := rfl
theorem x_ikeys {R : It → Hp → Prop} : iKeys td σ H R = td σ H (fun x H1 => ∃ d o, x = .ref d ∧ ((∃ kvs, H1 d = some (.frz o (.dK kvs)) ∧ R (Itk d o kvs) H1) ∨ ∃ kvs, H1 d = some (.frz o (.dT kvs)) ∧ R (Itkt d o kvs) H1)) := rfl
/-- the keys of a locked dict -/
theorem lg_keys {d : Addr} {o : Obj} {kvs : List (Key × V)} (Pv : Nat → L2.St → Hp → Prop) (h0 : Pv 0 σ H) (hl : ∀ i σ H, i ≤ kvs.length → Pv i σ H → H d = some (.frz o (.dK kvs)))
    (hs : ∀ i k v σ H, kvs[i]? = some (k, v) → Pv i σ H → g (kV k) σ H fun σ2 H2 => tb { D with nx := Pv (i + 1), ct := Pv (i + 1), bk := D.nx } σ2 H2) (hd : ∀ σ H, Pv kvs.length σ H → D.nx σ H) : LoopG (Itk d o kvs) g tb D σ H := by
  refine ⟨fun i m σ H => m = kvs.length - i ∧ i ≤ kvs.length ∧ Pv i σ H, ⟨kvs.length, by simp, Nat.zero_le _, h0⟩, ?_⟩
  rintro i m σ H ⟨rfl, hi, p⟩
  have q := hl i σ H hi p
  by_cases hlt : i < kvs.length
  · refine .inr ⟨⟨q, hlt⟩, Pv (i + 1), fun σ' H' p' => ⟨kvs.length - (i + 1), by omega, rfl, hlt, p'⟩, fun x H' y => ?_⟩
    obtain ⟨rfl, k, v, e, rfl⟩ := y
    exact hs i k v σ _ e p
  · have e : i = kvs.length := by omega
    subst e
    exact .inl ⟨⟨q, Nat.le_refl _⟩, hd σ H p⟩
end
theorem frz_ex {H H' : Hp} {d : Addr} {u x : HO} (h : H d = some u) (e : Ex (upd H d x) H') : Ex H (upd H' d u) := fun a o ho => by
  by_cases q : a = d
  · subst q
    rw [upd_same]
    rw [h] at ho
    exact ho
  · rw [upd_ne q]
    exact e a o (by rw [upd_ne q]; exact ho)
theorem ex_frz {H H' : Hp} {d a : Addr} {o : HO} {x : HO} (q : a ≠ d) (ho : H a = some o) (e : Ex (upd H d x) H') : H' a = some o := e a o (by rw [upd_ne q]; exact ho)
/-! ### lists of digits, shown -/
def Dg (t : List Int) : Prop := ∀ n ∈ t, 0 ≤ n ∧ n < 10
def digL (cs : List Nat) : List Int := (cs.filter fun c => decide (48 ≤ c) && decide (c < 58)).map fun c : Nat => (c : Int) - 48
theorem digL_append (a b : List Nat) : digL (a ++ b) = digL a ++ digL b := by
  unfold digL
  rw [List.filter_append, List.map_append]
theorem digL_one : ∀ k : Fin 10, digL (Str.ofString (toString ((k.val : Nat) : Int))).cps.toList = [((k.val : Nat) : Int)] := by decide +kernel
theorem digL_int {n : Int} (h0 : 0 ≤ n) (h1 : n < 10) : digL (Str.ofString (toString n)).cps.toList = [n] := by
  have h := digL_one ⟨n.toNat, by omega⟩
  rw [show ((n.toNat : Nat) : Int) = n by omega] at h
  exact h
theorem digL_join : ∀ ns : List Int, Dg ns → digL (Str.join ", " (ns.map fun n => ((toString n : String) : Str))).cps.toList = ns
  | [], _ => by decide +kernel
  | [n], h => by
    obtain ⟨h0, h1⟩ := h n List.mem_cons_self
    exact digL_int h0 h1
  | n :: m :: ns, h => by
    obtain ⟨h0, h1⟩ := h n List.mem_cons_self
    have ih := digL_join (m :: ns) fun x hx => h x (List.mem_cons_of_mem _ hx)
    show digL ((((toString n : String) : Str) ++ ", " ++ Str.join ", " ((m :: ns).map fun n => ((toString n : String) : Str))).cps.toList) = _
    rw [cps_toList_append, cps_toList_append, digL_append, digL_append, ih, digL_int h0 h1, signs_sep]
    rfl
theorem digL_shown {ns : List Int} (h : Dg ns) : digL (shInts ns).cps.toList = ns := by
  unfold shInts
  rw [PyData.shown_list, PyData.shownAll_ints, cps_toList_append, cps_toList_append, digL_append, digL_append, digL_join ns h, signs_lbrack, signs_rbrack]
  show [] ++ ns ++ [] = ns
  simp
theorem shInts_inj {a b : List Int} (ha : Dg a) (hb : Dg b) (e : shInts a = shInts b) : a = b := by
  rw [← digL_shown ha, ← digL_shown hb, e]
/-! ### dicts by such texts -/
section
variable {α : Type} {f : α → V}
def kx (t : List Int) : Key := Sum.inr (shInts t)
theorem kx_inj {a b : List Int} (ha : Dg a) (hb : Dg b) : kx a = kx b ↔ a = b := ⟨fun e => shInts_inj ha hb (Sum.inr.inj e), fun e => by rw [e]⟩
def ren (f : α → V) (L : List (List Int × α)) : List (Key × V) := L.map fun p => (kx p.1, f p.2)
def getA (L : List (List Int × α)) (t : List Int) : Option α := (L.find? fun p => decide (p.1 = t)).map (·.2)
def putA (L : List (List Int × α)) (t : List Int) (a : α) : List (List Int × α) := if (L.any fun p => decide (p.1 = t)) = true then L.map (fun p => if p.1 = t then (p.1, a) else p) else L ++ [(t, a)]
theorem ren_val (t : List Int) (ht : Dg t) : ∀ L : List (List Int × α), (∀ p ∈ L, Dg p.1) → valV (ren f L) (kx t) = (getA L t).map f
  | [], _ => rfl
  | p :: L, h => by
    have ih := ren_val t ht L fun q hq => h q (List.mem_cons_of_mem _ hq)
    have hp := h p List.mem_cons_self
    show valV ((kx p.1, f p.2) :: ren f L) (kx t) = _
    by_cases e : p.1 = t
    · rw [valV_pos (by show kx p.1 = kx t; rw [e])]
      simp [getA, e]
    · rw [valV_neg (by show ¬ kx p.1 = kx t; rw [kx_inj hp ht]; exact e), ih]
      simp [getA, e]
theorem ren_any (t : List Int) (ht : Dg t) : ∀ L : List (List Int × α), (∀ p ∈ L, Dg p.1) → ((ren f L).any fun kv => decide (kv.1 = kx t)) = L.any fun p => decide (p.1 = t)
  | [], _ => rfl
  | p :: L, h => by
    have ih := ren_any t ht L fun q hq => h q (List.mem_cons_of_mem _ hq)
    have hp := h p List.mem_cons_self
    show (decide (kx p.1 = kx t) || (ren f L).any fun kv => decide (kv.1 = kx t)) = _
    rw [ih, List.any_cons]
    congr 1
    exact decide_eq_decide.mpr (kx_inj hp ht)
theorem ren_put (t : List Int) (ht : Dg t) (a : α) (L : List (List Int × α)) (h : ∀ p ∈ L, Dg p.1) : putK (ren f L) (kx t) (f a) = ren f (putA L t a) := by
  unfold putK putA
  rw [ren_any t ht L h]
  by_cases c : (L.any fun p => decide (p.1 = t)) = true
  · rw [if_pos c, if_pos c]
    unfold ren
    rw [List.map_map, List.map_map]
    refine List.map_congr_left fun p hp => ?_
    show (if kx p.1 = kx t then (kx p.1, f a) else (kx p.1, f p.2)) = _
    by_cases e : p.1 = t
    · rw [if_pos (by rw [e])]
      show _ = (kx (if p.1 = t then (p.1, a) else p).1, f (if p.1 = t then (p.1, a) else p).2)
      rw [if_pos e]
    · rw [if_neg (by rw [kx_inj (h p hp) ht]; exact e)]
      show _ = (kx (if p.1 = t then (p.1, a) else p).1, f (if p.1 = t then (p.1, a) else p).2)
      rw [if_neg e]
  · rw [if_neg c, if_neg c]
    unfold ren
    rw [List.map_append]
    rfl
theorem putA_key {L : List (List Int × α)} {t : List Int} {a : α} {p : List Int × α} (h : p ∈ putA L t a) : p.1 = t ∨ ∃ q ∈ L, q.1 = p.1 := by
  unfold putA at h
  split at h
  · obtain ⟨q, hq, rfl⟩ := List.mem_map.mp h
    refine .inr ⟨q, hq, ?_⟩
    split <;> rfl
  · rcases List.mem_append.mp h with h | h
    · exact .inr ⟨p, h, rfl⟩
    · rw [List.mem_singleton.mp h]
      exact .inl rfl
theorem putA_len (L : List (List Int × α)) (t : List Int) (a : α) : (putA L t a).length ≤ L.length + 1 := by
  unfold putA
  split
  · rw [List.length_map]; omega
  · rw [List.length_append, List.length_singleton]; omega
theorem ren_len (L : List (List Int × α)) : (ren f L).length = L.length := by unfold ren; rw [List.length_map]
theorem ren_at {L : List (List Int × α)} {i : Nat} {k : Key} {v : V} (h : (ren f L)[i]? = some (k, v)) : ∃ t a, L[i]? = some (t, a) ∧ k = kx t ∧ v = f a := by
  unfold ren at h
  rw [List.getElem?_map] at h
  cases e : L[i]? with
  | none => rw [e] at h; cases h
  | some p => rw [e] at h; cases h; exact ⟨p.1, p.2, rfl, rfl, rfl⟩
end
end BC
namespace BC
open PySem PySem.Spec PyProof.Rows L2 Evl
section
variable {α : Type} {f : α → V}
theorem putA_nodup {L : List (List Int × α)} {t : List Int} {a : α} (h : (L.map (·.1)).Nodup) : ((putA L t a).map (·.1)).Nodup := by
  unfold putA
  split
  · rw [List.map_map]
    have e : ((fun p : List Int × α => p.1) ∘ fun p : List Int × α => if p.1 = t then (p.1, a) else p) = fun p => p.1 := funext fun p => by
      show (if p.1 = t then (p.1, a) else p).1 = p.1
      split <;> rfl
    rw [e]
    exact h
  · next c =>
    rw [List.map_append, List.nodup_append]
    refine ⟨h, by simp, fun x hx y hy e => ?_⟩
    obtain ⟨p, hp, rfl⟩ := List.mem_map.mp hx
    have hy' : y = t := by simpa using hy
    refine c (List.any_eq_true.mpr ⟨p, hp, decide_eq_true ?_⟩)
    rw [e, hy']
theorem getA_at : ∀ {L : List (List Int × α)} {i : Nat} {t : List Int} {a : α}, (L.map (·.1)).Nodup → L[i]? = some (t, a) → getA L t = some a
  | [], _, _, _, _, h => by simp at h
  | p :: L, 0, t, a, _, h => by
    have : p = (t, a) := by simpa using h
    subst this
    simp [getA]
  | p :: L, i + 1, t, a, nd, h => by
    rw [List.map_cons, List.nodup_cons] at nd
    have h' : L[i]? = some (t, a) := by simpa using h
    have ih := getA_at nd.2 h'
    have ne : p.1 ≠ t := fun e => nd.1 (List.mem_map.mpr ⟨(t, a), List.mem_of_getElem? h', e.symm⟩)
    unfold getA at ih ⊢
    rw [List.find?_cons, decide_eq_false ne]
    exact ih
end
/-- what stands at a text's key, counted -/
theorem ren_get {L : List (List Int × Int)} {t : List Int} (ht : Dg t) (h : ∀ p ∈ L, Dg p.1) : (valV (ren V.int L) (kx t)).getD (.int 0) = .int ((getA L t).getD 0) := by
  rw [ren_val t ht L h]
  cases getA L t <;> rfl
theorem ints_at {ns : List Int} {i : Nat} {v : V} (h : (ns.map V.int)[i]? = some v) : ∃ n, ns[i]? = some n ∧ v = .int n := by
  rw [List.getElem?_map] at h
  cases e : ns[i]? with
  | none => rw [e] at h; cases h
  | some n => rw [e] at h; cases h; exact ⟨n, rfl, rfl⟩
theorem refs_at {ps : List Addr} {i : Nat} {v : V} (h : (ps.map V.ref)[i]? = some v) : ∃ q, ps[i]? = some q ∧ v = .ref q := by
  rw [List.getElem?_map] at h
  cases e : ps[i]? with
  | none => rw [e] at h; cases h
  | some n => rw [e] at h; cases h; exact ⟨n, rfl, rfl⟩
theorem tyS {K : PySem.W.Frag} {H : Hp} {x : Str} : tyV K "str" (.str x) H := rfl
end BC

set_option Elab.async false
set_option linter.all false
set_option maxRecDepth 100000
set_option maxHeartbeats 4000000
/-! own __len__, sorted(d.items()), comprehensions over pairs -/
namespace BC
open PySem PySem.Spec PyProof.Rows L2 Evl
section
variable {X : Cx} {CX : CXT} {k : Nat} {C f : Addr} {fd : FuncData} {ps : List Str} {sp : Sp} {E : XK}
/-- len(o), by the class's own __len__ -/
def rLenOwn (C : Addr) (sp : Sp) (E : XK) : List V → Hp → VK → Prop := fun xs H Q => ∃ a dx fs, xs = [.ref a] ∧ H a = some (.ins C dx fs) ∧ sp [.ref a] H (fun v H' => ∃ n : Int, v = .int n ∧ 0 ≤ n ∧ n < 2 ^ 63 ∧ Q (.int n) H') E
theorem call_lenOwn (hs : PySem.W.findIn X.K (.ref C) "__len__" = some (some (.ref f))) (hf : PySem.W.isFn X.K (.ref f) = true) (F : FnOk X.prog X.w X.K X.mg X.base CX k f fd ps sp) (hr : Room (k + 1) X.A) (hb : Binds X.K fd ps []) (hx : Passes CX X E) : CallR X (.builtin "len") (rLenOwn C sp E) := by
  intro pins s σ H xs us Q I r h
  obtain ⟨a, dx, fs, rfl, ea, h⟩ := h
  obtain ⟨u, rfl, ru⟩ := vals1 r
  obtain rfl : u = Value.ref a := ru
  obtain ⟨mA, O, _, _, _, _⟩ := ins_get I.hok ea
  obtain ⟨od, J, _⟩ := O.look
  obtain ⟨m, hF⟩ := I.fr
  have hl : ([Value.ref a] ++ ([] : List Value)).length = ps.length := by
    rw [← F.len _ _ _ _ h]
    rfl
  refine PySem.W.len_K hF I.ok.mod.kin J hs hf (wpAny_call ?_)
  refine codeAny_mono (F.run X.A.in1 X.stack s H ⟨[.ref a], []⟩ [.ref a] [.ref a] _ E hr.in1 I.env0.in1 (hb _ [.ref a] I.kIn hl) (.cons rfl .nil) h) fun r s' hq => ?_
  cases r with
  | error er => exact hx pins σ H s er s' I hq
  | ok fl =>
    cases fl with
    | ret u =>
      obtain ⟨v, H', I3, rv, n, rfl, n0, n1, q⟩ := I.after hq
      obtain ⟨t, rfl⟩ := rv
      exact ⟨⟨n0, n1⟩, .int n, H', I3.tok _, ⟨_, rfl⟩, q⟩
    | next => exact False.elim hq
    | brk => exact False.elim hq
    | cont => exact False.elim hq
end
/-! ### sorted(d.items()), numbers by numbers -/
def PairAt (H : Hp) (t : Addr) (q : Int × Int) : Prop := H t = some (.tup [.int q.1, .int q.2])
def itK (q : Int × Int) : Key × V := (Sum.inl q.1, .int q.2)
def leP (a b : Int × Int) : Prop := a.1 < b.1 ∨ (a.1 = b.1 ∧ a.2 ≤ b.2)
open L2.DX
/-- d.items() of a dict of numbers or texts -/
def rItems : V → List V → Hp → VK → Prop := fun x xs H Q => ∃ (a : Addr) (kvs : List (Key × V)), x = .ref a ∧ xs = [] ∧ H a = some (.dK kvs) ∧ ∀ p, H p = none → Q (.ref p) (upd H p (itemsO p a))
def rSortIt : List V → Hp → VK → Prop := fun xs H Q => ∃ (v d : Addr) (qs : List (Int × Int)), xs = [.ref v] ∧ H v = some (itemsO v d) ∧ H d = some (.dK (qs.map itK)) ∧
  ∀ (H' : Hp) (p : Addr) (ts : List Addr) (rs : List (Int × Int)), Ex H H' → H p = none → H' p = some (.lst (ts.map V.ref)) → rs.Perm qs → rs.Pairwise leP → ts.length = rs.length → (∀ i t, ts[i]? = some t → H t = none ∧ PairAt H' t (rs.getD i (0, 0))) → Q (.ref p) H'
theorem pairs_get {κ : Type} [DecidableEq κ] {P : Program} {w : World} {knd : KeyKind P w κ} {es : List DictEntry} {vs : List (κ × Value)} (h : Pairs knd es vs) : ∀ {j : Nat} {en : DictEntry}, es[j]? = some en → ∃ kv, vs[j]? = some kv ∧ knd.is kv.1 en.key = true ∧ en.val = kv.2 := by
  induction h with
  | nil => intro j en e; simp at e
  | @cons e kv es kvs h1 h2 _ ih =>
    intro j en he
    cases j with
    | zero =>
      simp at he
      subst he
      exact ⟨kv, by simp, h1, h2⟩
    | succ j =>
      simp only [List.getElem?_cons_succ] at he ⊢
      exact ih he
section
variable {X : Cx}
theorem mt_items : MtR X "dict.items" rItems := by
  intro pins s σ H x xs v us Q I rx rxs h
  obtain ⟨a, kvs, rfl, rfl, ha, q⟩ := h
  cases rx
  cases rxs
  obtain ⟨hz, hd0, vs, kv, o, es, ep, ho, hx, hdat, _⟩ := dk_of I.hok ha
  refine DT.callItems (es := es) (ep := ep) hd0 ⟨o, ho, hx, hdat⟩ ?_
  have hf : H s.heap.objs.size = none := I.hok.fresh (Nat.le_refl _)
  exact ⟨.ref s.heap.objs.size, upd H s.heap.objs.size (itemsO s.heap.objs.size a), I.laid (t' := s.toks) (fun b u e => Heap.get?_push_of_some _ e) (Nat.le_refl _) (itemsO_ok (Heap.get?_push_size _ rfl)), rfl, q _ hf⟩
def adr : Value → Addr
  | .ref b => b
  | _ => 0
theorem cr_sortIt (hc : X.calm = true) : CallR X (.builtin "sorted") rSortIt := by
  intro pins s σ H xs us Q I r h
  obtain ⟨p, a, qs, rfl, hp, ha, q⟩ := h
  obtain rfl := Vals.ref1 r
  have view : s.heap.IsItemsView p a := (show ObjOk X.prog X.w H s.heap p (itemsO p a) from I.hok p _ hp).1
  obtain ⟨hz, hd0, vs, kv, o, es, ep, ho, hx, hdat, hks, prs, hn⟩ := dk_of I.hok ha
  rw [List.length_map] at hz
  have l1 : (qs.map itK).length = vs.length := Paired.length kv
  rw [List.length_map] at l1
  have l2 : es.size = vs.length := by rw [← prs.length, Array.length_toList]
  refine DT.sortedI (es := es) (ep := ep) (I.ok.hd hc) view ⟨o, ho, hx, hdat⟩ (by omega) fun h' tk as hk hlt hl hG => ?_
  have lak : as.length = qs.length := by omega
  have nd : as.Nodup := List.Pairwise.imp (fun h => Nat.ne_of_lt h) hG.rise
  have pr : ∀ (j : Nat) (b : Addr), as[j]? = some b → ∃ (g : Int × Int) (t u : Tok), qs[j]? = some g ∧ h'.get? b = some { cls := .type "tuple", data := .seq #[Value.int g.1 t, Value.int g.2 u] } := by
    intro j b hj
    obtain ⟨en, he, hg⟩ := hG.pairs j b hj
    have he' : es.toList[j]? = some en := by rw [Array.getElem?_toList]; exact he
    obtain ⟨kv0, h1, h2, h3⟩ := pairs_get prs he'
    have hjl : j < qs.length := by have := (List.getElem?_eq_some_iff.mp hj).1; omega
    have hq : qs[j]? = some qs[j] := List.getElem?_eq_getElem hjl
    obtain ⟨u, hu, ru⟩ := kv_get kv (i := j) (k := Sum.inl qs[j].1) (v := .int qs[j].2) (by rw [List.getElem?_map, hq]; rfl)
    rw [h1] at hu
    cases hu
    obtain ⟨tk1, hk1⟩ : RelV (kV (Sum.inl qs[j].1)) en.key := relV_key (show keyIs (Sum.inl qs[j].1) en.key = true from h2)
    obtain ⟨tk2, hk2⟩ := ru
    refine ⟨qs[j], tk1, tk2, hq, ?_⟩
    rw [hg, h3, hk2]
    have : en.key = Value.int qs[j].1 tk1 := hk1
    rw [this]
  have hob : (h'.push { cls := .type "list", data := .seq (as.map Value.ref).toArray }).get? h'.objs.size = some (seqObj "list" (as.map Value.ref).toArray 0) := Heap.get?_push_size _ rfl
  have kb : ∀ b o, s.heap.get? b = some o → (h'.push { cls := .type "list", data := .seq (as.map Value.ref).toArray }).get? b = some o := fun b o e => Heap.get?_push_of_some _ (hk b o e)
  have ne0 : ∀ b o, h'.get? b = some o → b ≠ h'.objs.size := fun b o e => Nat.ne_of_lt (Heap.lt_size e)
  generalize hh2 : h'.push { cls := .type "list", data := .seq (as.map Value.ref).toArray } = h2 at hob kb ⊢
  have ka : ∀ b o, h'.get? b = some o → h2.get? b = some o := fun b o e => by rw [← hh2]; exact Heap.get?_push_of_some _ e
  let kf : Value → Int × Int := fun u => qs.getD (as.idxOf (adr u)) (0, 0)
  have kfa : ∀ (j : Nat) (b : Addr), as[j]? = some b → kf (.ref b) = qs.getD j (0, 0) := fun j b hj => by
    obtain ⟨hjl, hjb⟩ := List.getElem?_eq_some_iff.mp hj
    show qs.getD (as.idxOf b) (0, 0) = _
    rw [← hjb, nd.idxOf_getElem j hjl]
  have isp : ∀ v ∈ as.map Value.ref, Srt.IsPair h2 v (kf v).1 (kf v).2 := fun v hv => by
    obtain ⟨b, hb, rfl⟩ := List.mem_map.mp hv
    obtain ⟨j, hj⟩ := List.mem_iff_getElem?.mp hb
    obtain ⟨g, t, u, hg, hob⟩ := pr j b hj
    rw [kfa j b hj, List.getD_eq_getElem?_getD, hg]
    exact ⟨b, _, t, u, 0, rfl, ka _ _ hob, rfl, rfl⟩
  refine wpAny_call_entry PyProof.Rows.slot_list_sort ⟨_, hob, rfl⟩ PyProof.Rows.entry_list_sort
    (SrtO.list_sort_ord (s := { s with heap := h2, toks := tk }) (SrtO.swo_lex kf) hob (by rw [List.length_map]; omega) (fun h2' => SrtO.pairs_sortableO (by omega) isp fun o e => ?_) fun out h1 h2' => ⟨.none, rfl, ?_⟩) (PyProof.Rows.args_list_sort _)
  · have e' : some o = some (seqObj "list" (as.map Value.ref).toArray 0) := e.symm.trans hob
    cases e'
    intro c
    exact absurd (Value.type.inj c) (by decide)
  · show EP X pins σ Q (.ref h'.objs.size) { s with heap := sortedHeap h2 h'.objs.size (as.map Value.ref) out.toArray, toks := tk }
    have hperm := h2'.perm
    have outr : ∀ u ∈ out, ∃ b, b ∈ as ∧ u = Value.ref b := fun u hu => by
      obtain ⟨b, hb, e⟩ := List.mem_map.mp (hperm.mem_iff.mp hu)
      exact ⟨b, hb, e.symm⟩
    have hout : out = (out.map adr).map Value.ref := by
      rw [List.map_map]
      conv => lhs; rw [← List.map_id out]
      refine List.map_congr_left fun u hu => ?_
      obtain ⟨b, _, rfl⟩ := outr u hu
      rfl
    have tperm : (out.map adr).Perm as := by
      have := hperm.map adr
      rw [List.map_map] at this
      have e : as.map (adr ∘ Value.ref) = as := by
        conv => rhs; rw [← List.map_id as]
        exact List.map_congr_left fun b _ => rfl
      rw [e] at this
      exact this
    have kF : ∀ b o, b ≠ h'.objs.size → h2.get? b = some o → (sortedHeap h2 h'.objs.size (as.map Value.ref) out.toArray).get? b = some o := fun b o hb e => (PyProof.Rows.sortedHeap_old hb (Heap.lt_size e)).trans e
    have kS : ∀ b o, s.heap.get? b = some o → (sortedHeap h2 h'.objs.size (as.map Value.ref) out.toArray).get? b = some o := fun b o e => kF b o (ne0 _ _ (hk b o e)) (kb b o e)
    obtain ⟨eF, heF⟩ := PyProof.Rows.sortedHeap_at (vs := as.map Value.ref) (out := out.toArray) hob
    have I1 : Inv X pins σ H { s with heap := sortedHeap h2 h'.objs.size (as.map Value.ref) out.toArray, toks := tk } := I.kept (t' := tk) kS
    have hn0 : H h'.objs.size = none := I.hok.fresh (Nat.le_of_lt hlt)
    have lout : (out.map adr).length = qs.length := by rw [tperm.length_eq, lak]
    have rv : Vals ((out.map adr).map V.ref) out := by
      conv => rhs; rw [hout]
      exact LiI.vals_refs _
    have I2 : Inv X pins σ (upd H h'.objs.size (.lst ((out.map adr).map V.ref))) { s with heap := sortedHeap h2 h'.objs.size (as.map Value.ref) out.toArray, toks := tk } :=
      I1.take (h' := sortedHeap h2 h'.objs.size (as.map Value.ref) out.toArray) (t' := tk) (fun b ob _ e => e) (I.fpOk (Nat.le_of_lt hlt) hn0) ⟨by rw [List.length_map, lout]; omega, out, eF, rv, heF⟩
    obtain ⟨H2, I3, g, qt⟩ := takeT (P := fun b vs => ∃ (j : Nat) (g : Int × Int), as[j]? = some b ∧ qs[j]? = some g ∧ vs = [.int g.1, .int g.2]) I as _ I2 nd fun b hb => by
      obtain ⟨j, hj⟩ := List.mem_iff_getElem?.mp hb
      obtain ⟨g, t, u, hg, hob⟩ := pr j b hj
      have hbl : s.heap.objs.size ≤ b := Nat.le_of_lt (hG.above b hb)
      refine ⟨hbl, ?_, [.int g.1, .int g.2], ⟨j, g, hj, hg, rfl⟩, fun H3 => ⟨(by rw [sizeLine_eq]; show 2 ≤ 16777216; omega), [Value.int g.1 t, Value.int g.2 u], .cons ⟨t, rfl⟩ (.cons ⟨u, rfl⟩ .nil), ⟨_, kF _ _ (ne0 _ _ hob) (ka _ _ hob), rfl, 0, rfl⟩⟩⟩
      rw [upd_ne (ne0 _ _ hob)]
      exact I.hok.fresh hbl
    have gr : ∀ b o, H b = some o → H2 b = some o := fun b o e => g b o (by rw [upd_ne (ne_of_none e hn0)]; exact e)
    refine ⟨.ref h'.objs.size, H2, I3, rfl, q H2 h'.objs.size (out.map adr) ((out.map adr).map fun b => kf (.ref b)) gr hn0 (g _ _ upd_same) ?_ ?_ (by simp only [List.length_map]) fun i t hi => ?_⟩
    · have e := tperm.map (fun b => kf (.ref b))
      have e2 : as.map (fun b => kf (.ref b)) = qs := by
        apply List.ext_getElem?
        intro j
        rw [List.getElem?_map]
        cases c : as[j]? with
        | none =>
          rw [List.getElem?_eq_none_iff] at c
          rw [List.getElem?_eq_none (by omega)]
          rfl
        | some b =>
          have hjl := (List.getElem?_eq_some_iff.mp c).1
          show some (kf (.ref b)) = _
          rw [kfa j b c, List.getD_eq_getElem?_getD, List.getElem?_eq_getElem (by omega)]
          rfl
      rw [e2] at e
      exact e
    · have hs := h1
      rw [hout] at hs
      unfold SrtO.Srtd at hs
      rw [List.pairwise_map] at hs
      rw [List.pairwise_map]
      refine hs.imp fun {x y} h => ?_
      have := SrtO.lexB_no.mp h
      unfold leP
      show (kf (.ref x)).1 < (kf (.ref y)).1 ∨ ((kf (.ref x)).1 = (kf (.ref y)).1 ∧ (kf (.ref x)).2 ≤ (kf (.ref y)).2)
      omega
    · have ta : t ∈ as := tperm.mem_iff.mp (List.mem_of_getElem? hi)
      obtain ⟨vs', ⟨j, g', j1, j2, ev⟩, hH⟩ := qt t ta
      refine ⟨I.hok.fresh (Nat.le_of_lt (hG.above t ta)), ?_⟩
      have e3 : ((out.map adr).map fun b => kf (.ref b)).getD i (0, 0) = g' := by
        rw [List.getD_eq_getElem?_getD, List.getElem?_map, hi]
        show kf (.ref t) = g'
        rw [kfa j t j1, List.getD_eq_getElem?_getD, j2]
        rfl
      unfold PairAt
      rw [e3, hH, ev]
end
/-! ### xs[:1] = ys -/
theorem bounds_head (n : Nat) : sliceBounds none (some 1) none n = (((0 : Nat) : Int), ((min 1 n : Nat) : Int), 1) := by
  unfold sliceBounds
  simp
  omega
section
variable {prog : Program} {w : World} {A : Around} {s : Shared} {E : Value → Shared → Prop}
theorem setItem_head {l b sl : Addr} {items new : Array Value} {n n2 : Nat} {vl vu : Value} {Q : Unit → Shared → Prop}
    (e : s.heap.get? l = some { cls := .type "list", data := .seq items n }) (e2 : s.heap.get? b = some { cls := .type "list", data := .seq new n2 }) (hne : l ≠ b)
    (hs : s.heap.IsSliceOf sl vl vu .none) (pl : IsPart vl none) (pu : IsPart vu (some 1))
    (hsz : items.size + new.size ≤ sizeLine) (h : Q () { s with heap := s.heap.update l (Obj.mapSeq fun xs => xs.extract 0 0 ++ new ++ xs.extract (min 1 items.size) xs.size) }) :
    wpAny (model prog w) A (setItem (.ref l) (.ref sl) (.ref b)) Q E s := by
  have hl : s.heap.IsList l items := PySem.IsL.isList e
  have hb : s.heap.IsList b new := PySem.IsL.isList e2
  obtain ⟨os, hos, hcs, hds⟩ := id hs
  have hTs : s.TypeIs (.ref sl) "slice" := ⟨os, hos, hcs⟩
  have hstep : ¬ ((rawPart none == rawInt 0) = true) := Bool.false_ne_true
  have hsame : Builtin.List.listSameRef (.ref l) (.ref b) = false := by
    unfold Builtin.List.listSameRef
    exact beq_eq_false_iff_ne.mpr hne
  have hmax : (max ((0 : Nat) : Int) ((min 1 items.size : Nat) : Int)).toNat = min 1 items.size := by omega
  have hz' : ((fun xs : Array Value => xs.extract 0 0 ++ new ++ xs.extract (min 1 items.size) xs.size) items).size ≤ sizeLine + 1 := by
    simp only [Array.size_append, Array.size_extract]
    omega
  unfold setItem
  try with_reducible refine wpAny_holding ?_
  first | refine wpAny_bind (wpAny_pure ?_) | skip
  refine wpAny_bind (wpAny_sequenceKey hl.typeIs (by decide) ?_)
  refine wpAny_bind (wpAny_callSpecial?_slot (name := Str.ofString "__setitem__") hl.typeIs slot_list_setitem
    (wpAny_call_entry slot_list_setitem hl.typeIs entry_list_setitem ?_ (args_list_setitem _ _ _)))
  show wpAny _ _ (Builtin.List.listSubscript? (.ref sl) >>= _) _ _ s
  refine wpAny_bind ?_
  unfold Builtin.List.listSubscript?
  refine wpAny_bind (wpAny_specialOf hTs slice_no_index ?_)
  simp only [Option.isNone_none, if_true]
  refine wpAny_pure ?_
  show wpAny _ _ (typeOf (.ref sl) >>= _) _ _ s
  refine wpAny_bind (wpAny_typeOf hTs ?_)
  first
    | rw [if_neg (by decide)]
    | refine PySem.W.KFB.if_not (by decide) ?_
  rw [listSliceParts_eq]
  refine wpAny_bind (wpAny_bind (wpAny_field hos hds (x := .none) rfl (wpAny_bind (wpAny_listPart .none ?_))))
  rw [if_neg hstep]
  refine wpAny_bind (wpAny_field hos hds (x := vl) rfl (wpAny_bind (wpAny_listPart pl ?_)))
  refine wpAny_bind (wpAny_field hos hds (x := vu) rfl (wpAny_bind (wpAny_listPart pu (wpAny_pure ?_))))
  first
    | simp only [hsame, Bool.false_eq_true, if_false]
    | refine PySem.W.KFB.if_not hsame ?_
    | (dsimp only
       rw [if_neg (by rw [hsame]; exact Bool.false_ne_true)])
  refine wpAny_bind (m := Builtin.List.listAllItems (.ref b) "must assign iterable to extended slice") ?_
  unfold Builtin.List.listAllItems
  refine wpAny_bind (wpAny_typeOf hb.typeIs ?_)
  first
    | refine PySem.W.KFB.if_so (by decide) ?_
    | rw [if_pos (by decide)]
    | simp only [beq_self_eq_true, Bool.true_or, if_true]
  unfold Builtin.List.listItems
  refine wpAny_bind (wpAny_seqItems e2 rfl (wpAny_pure ?_))
  refine wpAny_bind (wpAny_bind (wpAny_seqItems e rfl (wpAny_pure ?_)))
  refine wpAny_bind (wpAny_of_eq ((sliceIndices_raw none (some 1) none items.size (by simp)).trans (congrArg (pure : Int × Int × Int → Sem (Int × Int × Int)) (bounds_head items.size))) ?_)
  show wpAny _ _ (if ((1 : Int) == 1) = true then _ else _) _ _ s
  rw [if_pos (by decide)]
  refine wpAny_bind (wpAny_rule ?_)
  first
    | simp only [notLongL hsz, Bool.false_eq_true, if_false]
    | refine PySem.W.KFB.if_not (notLongL hsz) ?_
  first | refine wpAny_bind (wpAny_pure ?_) | skip
  show wpAny _ _ (updateSeq l (fun xs => xs.extract 0 ((0 : Nat) : Int).toNat ++ new ++ xs.extract (max ((0 : Nat) : Int) ((min 1 items.size : Nat) : Int)).toNat xs.size) >>= _) _ _ s
  rw [hmax, Int.toNat_natCast]
  refine wpAny_bind (wpAny_updateSeq (hz := Nat.le_trans (Nat.le_add_right _ _) hsz) (_hz' := hz') e rfl ?_)
  refine wpAny_bind (wpAny_letGo ?_)
  first
    | exact wpAny_bind (wpAny_pure (wpAny_pure ⟨.none, rfl, wpAny_pure h⟩))
    | exact wpAny_pure ⟨.none, rfl, wpAny_pure h⟩
end
section
variable {X : Cx} {o e : Expr} {to : TE} {p2 pos : Pos}
/-- o[:1] = v, both lists -/
def gHead (to : TE) : TG := fun v σ H QG => to σ H fun x H1 => ∃ a b xs ys, x = .ref a ∧ v = .ref b ∧ a ≠ b ∧ H1 a = some (.lst xs) ∧ H1 b = some (.lst ys) ∧ xs.length + ys.length ≤ sizeLine ∧ QG σ (upd H1 a (.lst (ys ++ xs.drop 1)))
theorem set_head {pins : List (Addr × Obj)} {s : Shared} {σ : L2.St} {H : Hp} {l b sl : Addr} {xs ys : List V} {vl vu : Value} {Q : Unit → Shared → Prop} (I : Inv X pins σ H s)
    (hH : H l = some (.lst xs)) (hB : H b = some (.lst ys)) (hne : l ≠ b) (hs : s.heap.IsSliceOf sl vl vu .none) (pl : IsPart vl none) (pu : IsPart vu (some 1))
    (hz : xs.length + ys.length ≤ sizeLine) (h : ∀ s', Inv X pins σ (upd H l (.lst (ys ++ xs.drop 1))) s' → Q () s') :
    wpAny (model X.prog X.w) X.A (setItem (.ref l) (.ref sl) (.ref b)) Q X.xe s := by
  obtain ⟨z, its, n, r, hl, e⟩ := I.lstM hH
  obtain ⟨z2, its2, n2, r2, hl2, e2⟩ := I.lstM hB
  refine setItem_head e e2 hne hs pl pu (by rw [List.size_toArray, List.size_toArray]; omega) (h _ ?_)
  have ed : ∀ {α : Type} (zs : List α), zs.drop (min 1 zs.length) = zs.drop 1 := fun zs => by
    cases zs with
    | nil => rfl
    | cons a zs => rw [List.length_cons, show min 1 (zs.length + 1) = 1 by omega]
  have er : ys ++ xs.drop 1 = xs.take 0 ++ ys ++ xs.drop (min 1 xs.length) := by rw [ed, List.take_zero, List.nil_append]
  rw [er]
  refine I.lset (its' := its.take 0 ++ its2 ++ its.drop (min 1 its.length)) (t' := s.toks) hH e ?_ (Vals.append (Vals.append (r.take _) r2) (by rw [r.length]; exact r.drop _)) ?_
  · rw [List.size_toArray]
    exact splice_eq its its2 0 (min 1 its.length)
  · rw [List.length_append, List.length_append, List.length_take, List.length_drop]
    omega
theorem pg_head {k1 : Nat} {p3 : Pos} (ho : PE X o to)
    (ha0 : ∀ v, assign (.Subscript o (.Slice none (some (.Constant (.int 1) k1 p3)) none p2) pos) X.env v = (do
      let ov ← holding [v] (eval o X.env)
      let iv ← holding [v, ov] (eval (.Slice none (some (.Constant (.int 1) k1 p3)) none p2) X.env)
      standAt pos
      holding [v, ov, iv] (setItem ov iv v)
      release [iv, v, ov] []) := by intro _; rfl) : PG X (.Subscript o (.Slice none (some (.Constant (.int 1) k1 p3)) none p2) pos) (gHead to) := by
  refine ⟨fun pins s σ H v u Q I r h => ?_⟩
  rw [ha0]
  refine wpAny_bind (wpAny_holding (thn (ho.run pins s σ H _ I h) fun ov s1 ⟨x, H1, I1, r1, q1⟩ => ?_))
  obtain ⟨a, b, xs, ys, rfl, rfl, hne, ha, hb, hz, q⟩ := q1
  cases r1
  cases r
  refine wpAny_bind (wpAny_holding ?_)
  refine wpAny_Slice ?_
  rw [evalPart_none]
  refine wpAny_pure ?_
  rw [evalPart_some]
  refine thn ((pe_int (X := X) (i := 1)).run pins s1 σ H1 (fun v H' => v = .int 1 ∧ H' = H1) I1 ⟨rfl, rfl⟩) fun u s2 ⟨x, H2, I2, r2, ex, eH⟩ => ?_
  subst ex
  subst eH
  obtain ⟨t, rfl⟩ := r2
  refine wpAny_pure ?_
  have I4 : Inv X pins σ H2 { s2 with heap := s2.heap.push { cls := .type "slice", data := .fields #[.none, .int 1 t, .none] } } := I2.kept (t' := s2.toks) fun b ob q => Heap.get?_push_of_some _ q
  refine wpAny_bind (wpAny_standAt (wpAny_bind (wpAny_holding ?_)))
  refine set_head I4 ha hb hne (Heap.IsSliceOf.new ..) .none (.int _ _) hz fun s' I5 => ?_
  exact wpAny_release ⟨σ, _, I5, q⟩
theorem x_ghead {σ : L2.St} {H : Hp} {v : V} {QG : L2.St → Hp → Prop} : gHead to v σ H QG = to σ H fun x H1 => ∃ a b xs ys, x = .ref a ∧ v = .ref b ∧ a ≠ b ∧ H1 a = some (.lst xs) ∧ H1 b = some (.lst ys) ∧ xs.length + ys.length ≤ sizeLine ∧ QG σ (upd H1 a (.lst (ys ++ xs.drop 1))) := rfl
end
/-! ### comprehensions over pairs -/
section
variable {K : PySem.W.Frag} {σ : L2.St} {H1 : Hp} {g : TG} {tt : TT} {te : TE} {vs : List Nat} {Dl : Addr} {Q : VK}
/-- the items of a list or a tuple are pairs -/
theorem lc_pairs {a : Addr} {J : It} {ts : List Addr} {u v : Nat → V} {j k : Nat} (hJ : (J = Itl K a ∧ SqL K H1 a (ts.map V.ref)) ∨ (J = Itt K a ∧ SqT K H1 a (ts.map V.ref))) (hp : ∀ i t, ts[i]? = some t → H1 t = some (.tup [u i, v i])) (keep : Nat → Bool) (f : Nat → V) (hD : H1 Dl = none) (hn : ts.length ≤ 100000)
    (hw : ∀ x y : V, wipe (((wipe σ vs).set j (some x)).set k (some y)) vs = wipe σ vs)
    (ht : ∀ i, i < ts.length → Evl.EvT tt (((wipe σ vs).set j (some (u i))).set k (some (v i))) H1 (keep i))
    (he : ∀ i, i < ts.length → keep i = true → Evl.Ev te (((wipe σ vs).set j (some (u i))).set k (some (v i))) H1 (f i))
    (hd : ∀ H', Evl.Ex H1 H' → H' Dl = some (.lst (kept ts.length keep f)) → Q (.ref Dl) H') : LcG J (gTup K 2 (gCons (gName j) (gCons (gName k) gNil))) tt te vs σ Dl H1 Q := by
  have gt : ∀ i, i < ts.length → ts[i]? = some (ts.getD i 0) := fun i hi => by rw [List.getD_eq_getElem?_getD, List.getElem?_eq_getElem hi]; rfl
  have fin : ∀ (i : Nat) (H' : Hp) (x : V) (QG : L2.St → Hp → Prop), i < ts.length → Evl.Ex H1 H' → (ts.map V.ref)[i]? = some x → (Evl.Ex H' H' → QG (((wipe σ vs).set j (some (u i))).set k (some (v i))) H') → gTup K 2 (gCons (gName j) (gCons (gName k) gNil)) x (wipe σ vs) H' QG := fun i H' x QG hi e hx q => by
    rw [List.getElem?_map, gt i hi] at hx
    cases hx
    exact g_two (e _ _ (hp i _ (gt i hi))) (q (Ex.refl _))
  rcases hJ with ⟨rfl, hx⟩ | ⟨rfl, hx⟩
  · refine lc_pure ts.length (fun i => ((wipe σ vs).set j (some (u i))).set k (some (v i))) keep f hD hn (fun H' e => ⟨_, Evl.ex_l e hx, by rw [List.length_map]; exact Nat.le_refl _⟩) (fun i H' hi e => ⟨_, _, Evl.ex_l e hx, by rw [List.getElem?_map, gt i hi]; rfl⟩)
      (fun i H' x H'' QG hi e y q => ?_) (fun i hi => hw _ _) ht he hd
    obtain ⟨rfl, hf⟩ := y
    exact fin i _ _ QG hi e (hf _ (Evl.ex_l e hx)) q
  · refine lc_pure ts.length (fun i => ((wipe σ vs).set j (some (u i))).set k (some (v i))) keep f hD hn (fun H' e => ⟨_, Evl.ex_t e hx, by rw [List.length_map]; exact Nat.le_refl _⟩) (fun i H' hi e => ⟨_, _, Evl.ex_t e hx, by rw [List.getElem?_map, gt i hi]; rfl⟩)
      (fun i H' x H'' QG hi e y q => ?_) (fun i hi => hw _ _) ht he hd
    obtain ⟨rfl, hf⟩ := y
    exact fin i _ _ QG hi e (hf _ (Evl.ex_t e hx)) q
/-- zip of two lists, the second not longer -/
theorem lc_zipS {a b : Addr} {xs ys : List V} {j k : Nat} (keep : Nat → Bool) (f : Nat → V) (hx : SqL K H1 a xs) (hy : SqL K H1 b ys) (he0 : ys.length ≤ xs.length) (hD : H1 Dl = none) (hn : ys.length ≤ 100000)
    (hw : ∀ u v : V, wipe (((wipe σ vs).set j (some u)).set k (some v)) vs = wipe σ vs)
    (ht : ∀ i x y, xs[i]? = some x → ys[i]? = some y → Evl.EvT tt (((wipe σ vs).set j (some x)).set k (some y)) H1 (keep i))
    (he : ∀ i x y, xs[i]? = some x → ys[i]? = some y → keep i = true → Evl.Ev te (((wipe σ vs).set j (some x)).set k (some y)) H1 (f i))
    (hd : ∀ H', Evl.Ex H1 H' → H' Dl = some (.lst (kept ys.length keep f)) → Q (.ref Dl) H') : LcG (Itz K a b) (gTup K 2 (gCons (gName j) (gCons (gName k) gNil))) tt te vs σ Dl H1 Q := by
  have gx : ∀ i, i < ys.length → xs[i]? = some (xs.getD i .non) := fun i hi => by rw [List.getD_eq_getElem?_getD, List.getElem?_eq_getElem (by omega)]; rfl
  have gy : ∀ i, i < ys.length → ys[i]? = some (ys.getD i .non) := fun i hi => by rw [List.getD_eq_getElem?_getD, List.getElem?_eq_getElem hi]; rfl
  refine lc_pure ys.length (fun i => ((wipe σ vs).set j (some (xs.getD i .non))).set k (some (ys.getD i .non))) keep f hD hn (fun H' e => ⟨xs, ys, Evl.ex_l e hx, Evl.ex_l e hy, ?_⟩)
    (fun i H' hi e => ⟨xs, ys, _, _, Evl.ex_l e hx, Evl.ex_l e hy, gx i hi, gy i hi⟩)
    (fun i H' x H'' QG hi e y q => ?_) (fun i hi => hw _ _) (fun i hi => ht i _ _ (gx i hi) (gy i hi)) (fun i hi => he i _ _ (gx i hi) (gy i hi)) hd
  · first | exact .inr (Nat.le_refl _) | exact .inr ⟨by omega, Nat.le_refl _⟩ | (simp; omega)
  obtain ⟨T, u, v, rfl, hT, rfl, hf, hf2⟩ := y
  have hu := hf xs (Evl.ex_l e hx)
  have hv := hf2 ys (Evl.ex_l e hy)
  have e1 : xs.getD i .non = u := by rw [List.getD_eq_getElem?_getD, hu]; rfl
  have e2 : ys.getD i .non = v := by rw [List.getD_eq_getElem?_getD, hv]; rfl
  refine g_two upd_same ?_
  have q2 := q (Evl.Ex.new hT)
  rw [e1, e2] at q2
  exact q2
end
/-! ### dict(pairs), sorted(d) -/
section
variable {K : PySem.W.Frag}
theorem putK_end {kvs : List (Key × V)} {k : Key} {v : V} (h : k ∉ kvs.map (·.1)) : putK kvs k v = kvs ++ [(k, v)] := by
  unfold putK
  rw [if_neg]
  intro e
  obtain ⟨p, hp, e⟩ := List.any_eq_true.mp e
  exact h (List.mem_map.mpr ⟨p, hp, of_decide_eq_true e⟩)
theorem mergeK_nodup : ∀ (more kvs : List (Key × V)), ((kvs ++ more).map (·.1)).Nodup → mergeK kvs more = kvs ++ more
  | [], kvs, _ => by rw [List.append_nil]; rfl
  | p :: more, kvs, h => by
    have hn : p.1 ∉ kvs.map (·.1) := fun hm => by
      rw [List.map_append, List.nodup_append] at h
      exact h.2.2 p.1 hm p.1 (by simp) rfl
    show mergeK (putK kvs p.1 p.2) more = _
    rw [putK_end hn, mergeK_nodup more _ (by rw [List.append_assoc]; exact h)]
    simp
theorem nodup_itK {qs : List (Int × Int)} (h : (qs.map (·.1)).Nodup) : ((qs.map itK).map (·.1)).Nodup := by
  have e : (qs.map itK).map (·.1) = (qs.map (·.1)).map Sum.inl := by rw [List.map_map, List.map_map]; rfl
  rw [e, List.nodup_iff_pairwise_ne, List.pairwise_map]
  exact h.imp fun h e => h (Sum.inl.inj e)
/-- what the list of pairs at a reads -/
def PairsAt (K : PySem.W.Frag) (H : Hp) (a : Addr) (ts : List Addr) (qs : List (Int × Int)) : Prop := SqL K H a (ts.map V.ref) ∧ ts.length = qs.length ∧ ∀ i t, ts[i]? = some t → PairAt H t (qs.getD i (0, 0))
theorem PairsAt.ex {H H' : Hp} {a : Addr} {ts : List Addr} {qs : List (Int × Int)} (h : PairsAt K H a ts qs) (e : Ex H H') : PairsAt K H' a ts qs := ⟨ex_l e h.1, h.2.1, fun i t hi => e _ _ (h.2.2 i t hi)⟩
def rDictI (K : PySem.W.Frag) : List V → Hp → VK → Prop := fun xs H Q => ∃ (a : Addr) (ts : List Addr) (qs : List (Int × Int)), xs = [.ref a] ∧ PairsAt K H a ts qs ∧ (qs.map (·.1)).Nodup ∧ ∀ p, H p = none → Q (.ref p) (upd H p (.dK (qs.map itK)))
theorem paired_of {H : Hp} : ∀ {ts : List Addr} {qs : List (Int × Int)}, ts.length = qs.length → (∀ (i : Nat) t, ts[i]? = some t → PairAt H t (qs.getD i (0, 0))) → Paired (fun p kv => SqT K H p [kV kv.1, kv.2]) ts (qs.map itK)
  | [], [], _, _ => .nil
  | [], _ :: _, h, _ => by simp at h
  | _ :: _, [], h, _ => by simp at h
  | t :: ts, q :: qs, h, hp => .cons (.inl (.inl (hp 0 t rfl))) (paired_of (by simpa using h) fun i u hi => by
    have := hp (i + 1) u (by simpa using hi)
    simpa using this)
theorem k_dictP {X : Cx} (hK : X.K = K) (hc : X.calm = true) : CallR X (.type "dict") (rDictI K) := by
  subst hK
  intro pins s σ H xs us Q I r h
  obtain ⟨a, ts, qs, rfl, ⟨hs, hl, hp⟩, nd, q⟩ := h
  refine call_dictP hc pins s σ H _ us Q I r ⟨a, ts, qs.map itK, rfl, hs, paired_of hl hp, fun p np => ?_⟩
  have e : mergeK [] (qs.map itK) = qs.map itK := by rw [mergeK_nodup _ _ (by simpa using nodup_itK nd)]; rfl
  rw [e]
  exact q p np
def rSortDI : List V → Hp → VK → Prop := fun xs H Q => ∃ (a : Addr) (kvs : List (Key × V)) (ks : List Int), xs = [.ref a] ∧ Rd H a (.dK kvs) ∧ kvs.map (·.1) = ks.map Sum.inl ∧ ks.length < 64 ∧
    ∀ (ys : List Int) (p : Addr), ys.Perm ks → ys.Pairwise (· ≤ ·) → H p = none → Q (.ref p) (upd H p (.lst (ys.map V.int)))
theorem cr_sortDI {X : Cx} (hc : X.calm = true) : CallR X (.builtin "sorted") rSortDI := call_sortedDI hc
theorem tyD {H : Hp} {p : Addr} {kvs : List (Key × V)} (h : H p = some (.dK kvs)) : tyV K "dict" (.ref p) H := .inr (.inr (.inl ⟨rfl, .inl ⟨kvs, h⟩⟩))
theorem valV_itK {qs : List (Int × Int)} (nd : (qs.map (·.1)).Nodup) {x y : Int} (h : (x, y) ∈ qs) : valV (qs.map itK) (Sum.inl x) = some (.int y) := by
  induction qs with
  | nil => exact (List.not_mem_nil h).elim
  | cons q qs ih =>
    rw [List.map_cons, List.nodup_cons] at nd
    rw [List.map_cons]
    rcases List.mem_cons.mp h with e | h
    · subst e
      exact valV_pos rfl
    · have ne : q.1 ≠ x := fun e => nd.1 (List.mem_map.mpr ⟨(x, y), h, e.symm⟩)
      rw [valV_neg (by show ¬ (Sum.inl q.1 : Key) = Sum.inl x; exact fun e => ne (Sum.inl.inj e))]
      exact ih nd.2 h
theorem valV_itK_none {qs : List (Int × Int)} {x : Int} (h : x ∉ qs.map (·.1)) : valV (qs.map itK) (Sum.inl x) = none := by
  induction qs with
  | nil => rfl
  | cons q qs ih =>
    rw [List.map_cons, List.mem_cons, not_or] at h
    rw [List.map_cons, valV_neg (by show ¬ (Sum.inl q.1 : Key) = Sum.inl x; exact fun e => h.1 (Sum.inl.inj e).symm)]
    exact ih h.2
end
/-! ### readings -/
section
variable {K : PySem.W.Frag} {σ : L2.St} {H : Hp} {Q : VK} {ta tv : TE} {a : TA} {D : Ends} {f : Str} {C : Addr} {sp : Sp} {dvs : List V} {E : XK}
theorem x_fld : tFld K ta f σ H Q = ta σ H (fun x H1 => ∃ a C dx fs v, x = .ref a ∧ H1 a = some (.ins C dx fs) ∧ Cls K C ∧ NoAttr K C f ∧ fs.lookup f = some v ∧ Q v H1) := rfl
theorem x_sfld : sFld K ta tv f D σ H = tv σ H (fun y H1 => ta σ H1 fun x H2 => ∃ a C dx fs, x = .ref a ∧ H2 a = some (.ins C dx fs) ∧ Cls K C ∧ NoAttr K C f ∧ fs.length < 1000 ∧ D.nx σ (upd H2 a (.ins C dx (putF f y fs)))) := rfl
theorem x_prop : tProp C sp dvs E ta σ H Q = ta σ H (fun x H1 => ∃ a dx fs, x = .ref a ∧ H1 a = some (.ins C dx fs) ∧ sp (.ref a :: dvs) H1 Q E) := rfl
theorem x_meth {m : Str} {t : TA} : tMeth C m sp dvs E ta t σ H Q = ta σ H (fun x H1 => ∃ a dx fs, x = .ref a ∧ H1 a = some (.ins C dx fs) ∧ fs.lookup m = none ∧ t σ H1 fun vs H2 => sp (x :: (vs ++ dvs)) H2 Q E) := rfl
theorem x_make : tMake C sp dvs E a σ H Q = a σ H (fun vs H1 => ∀ x dx, H1 x = none → H1 dx = none → dx ≠ x → sp (.ref x :: (vs ++ dvs)) (upd (upd H1 dx (.own x)) x (.ins C dx [])) (fun v H2 => v = .non ∧ Q (.ref x) H2) E) := rfl
theorem k_fld {X : Cx} {e : Expr} {pos : Pos} (hK : X.K = K) (he : PE X e ta) (hb : attributeBase e f X.env (eval e X.env) = eval e X.env) : PE X (.Attribute e f pos) (tFld K ta f) := by subst hK; exact pe_fld he hb
theorem k_sfld {X : Cx} {o value : Expr} {pos' pos : Pos} (hK : X.K = K) (ha : PE X o ta) (hv : PE X value tv) (hs : swapsWith value (some (.Attribute o f pos')) pos.line X.env = pure false) : PS X (.Assign [.Attribute o f pos'] value pos) (sFld K ta tv f) := by subst hK; exact ps_fld ha hv hs
def DcG (J : It) (g : TG) (tt : TT) (tk tv : TE) (vs : List Nat) (σ : L2.St) (D : Addr) (H1 : Hp) (Q : VK) : Prop := ∃ W : Nat → Nat → Hp → Prop, (∃ m, W 0 m (upd H1 D (.dK []))) ∧ ∀ i m H, W i m H →
  (J.stop i H ∧ Q (.ref D) H) ∨ (J.go i H ∧ ∃ Nx : Hp → Prop, (∀ H', Nx H' → ∃ m', m' < m ∧ W (i + 1) m' H') ∧ ∀ x H', J.yld i H x H' → g x (wipe σ vs) H' fun σ2 H2 => wipe σ2 vs = wipe σ vs ∧ tt σ2 H2 fun b H3 =>
    if b = true then tk σ2 H3 fun y H4 => tv σ2 H4 fun z H5 => ∃ kvs k, y = kV k ∧ H5 D = some (.dK kvs) ∧ kvs.length < sizeLine ∧ Nx (upd H5 D (.dK (putK kvs k z))) else Nx H3)
theorem x_dc {wi : TI} {g : TG} {tt : TT} {tk tv : TE} {vs : List Nat} : tDc wi g tt tk tv vs σ H Q = wi σ H (fun J H1 => ∀ D, H1 D = none → DcG J g tt tk tv vs σ D H1 Q) := rfl
theorem dcg_tup {a : Addr} {xs : List V} {g : TG} {tt : TT} {tk tv : TE} {vs : List Nat} {H1 : Hp} {D : Addr} (Pv : Nat → Hp → Prop) (h0 : Pv 0 (upd H1 D (.dK []))) (hl : ∀ i H, i ≤ xs.length → Pv i H → SqT K H a xs)
    (hs : ∀ i x H, xs[i]? = some x → Pv i H → g x (wipe σ vs) H fun σ2 H2 => wipe σ2 vs = wipe σ vs ∧ tt σ2 H2 fun b H3 =>
      if b = true then tk σ2 H3 fun y H4 => tv σ2 H4 fun z H5 => ∃ kvs k, y = kV k ∧ H5 D = some (.dK kvs) ∧ kvs.length < sizeLine ∧ Pv (i + 1) (upd H5 D (.dK (putK kvs k z))) else Pv (i + 1) H3) (hd : ∀ H, Pv xs.length H → Q (.ref D) H) : DcG (Itt K a) g tt tk tv vs σ D H1 Q := dc_tup (Qd := fun H => Q (.ref D) H) Pv h0 hl hs hd
end
theorem lg_zip {K : PySem.W.Frag} {a b : Addr} {xs ys : List V} {g : TG} {tb : TS} {D : Ends} {σ : L2.St} {H : Hp} (hl : xs.length = ys.length) (Pv : Nat → L2.St → Hp → Prop) (h0 : Pv 0 σ H) (hq : ∀ i σ H, Pv i σ H → SqL K H a xs ∧ SqL K H b ys)
    (hs : ∀ (i : Nat) (x y : V) (T : Addr) (σ : L2.St) (H : Hp), xs[i]? = some x → ys[i]? = some y → Pv i σ H → H T = none → g (.ref T) σ (upd H T (.tup [x, y])) fun σ2 H2 => tb { D with nx := Pv (i + 1), ct := Pv (i + 1), bk := D.nx } σ2 H2) (hd : ∀ σ H, Pv xs.length σ H → D.nx σ H) : LoopG (Itz K a b) g tb D σ H := RZ.for_zipL hl Pv h0 hq hs hd
/-! ### what comes behind each visit -/
def seconds (row : List Int) : List Int := row.drop 1 ++ row.drop (row.length - 1)
theorem cut_drop1 (row : List Int) : cutV (row.map V.int) (some 1) none = (row.drop 1).map V.int := by
    cases row with
    | nil => rfl
    | cons a r =>
      have e : HT.sIx ((a :: r).map V.int).length 0 (some 1) = 1 := by
        show (if (1 : Int) < 0 then ((1 : Int) + (((a :: r).map V.int).length : Int)).toNat else min (1 : Int).toNat ((a :: r).map V.int).length) = 1
        rw [if_neg (by omega), List.length_map, List.length_cons]
        show min 1 (r.length + 1) = 1
        omega
      unfold cutV
      rw [e, HT.sIx_none, List.map_drop, List.take_of_length_le (by rw [List.length_drop]; exact Nat.le_refl _)]
theorem cut_seconds (row : List Int) : cutV (row.map V.int) (some 1) none ++ cutV (row.map V.int) (some (-1)) none = (seconds row).map V.int := by
  have h1 : cutV (row.map V.int) (some 1) none = (row.drop 1).map V.int := by
    unfold cutV
    cases row with
    | nil => rfl
    | cons a r =>
      have e : HT.sIx ((a :: r).map V.int).length 0 (some 1) = 1 := by
        show (if (1 : Int) < 0 then ((1 : Int) + (((a :: r).map V.int).length : Int)).toNat else min (1 : Int).toNat ((a :: r).map V.int).length) = 1
        rw [if_neg (by omega), List.length_map, List.length_cons]
        show min 1 (r.length + 1) = 1
        omega
      rw [e, HT.sIx_none, List.map_drop, List.take_of_length_le (by rw [List.length_drop]; exact Nat.le_refl _)]
  have h2 : cutV (row.map V.int) (some (-1)) none = (row.drop (row.length - 1)).map V.int := by
    have e : HT.sIx (row.map V.int).length 0 (some (-1)) = row.length - 1 := by
      show (if (-1 : Int) < 0 then ((-1 : Int) + ((row.map V.int).length : Int)).toNat else min (-1 : Int).toNat (row.map V.int).length) = _
      rw [if_pos (by omega), List.length_map]
      omega
    unfold cutV
    rw [e, HT.sIx_none, List.map_drop, List.take_of_length_le]
    rw [List.length_drop, List.length_map]
    exact Nat.le_refl _
  rw [h1, h2, seconds, List.map_append]
theorem seconds_len (row : List Int) : (seconds row).length = row.length := by
  unfold seconds
  rw [List.length_append, List.length_drop, List.length_drop]
  omega
theorem seconds_at {row : List Int} {i : Nat} (hi : i < row.length) : (seconds row)[i]? = some ((row.drop (i + 1)).headD (row.getD i 0)) := by
  unfold seconds
  by_cases c : i + 1 < row.length
  · rw [List.getElem?_append_left (by rw [List.length_drop]; omega), List.getElem?_drop, List.headD_eq_head?_getD, List.head?_drop, Nat.add_comm 1 i, List.getElem?_eq_getElem c]
    rfl
  · rw [List.getElem?_append_right (by rw [List.length_drop]; omega), List.length_drop, List.getElem?_drop, List.drop_eq_nil_of_le (by omega), show row.length - 1 + (i - (row.length - 1)) = i by omega, List.getD_eq_getElem?_getD, List.getElem?_eq_getElem hi]
    rfl
theorem ev_din {ty td : TE} {σ : L2.St} {H : Hp} {d : Addr} {kvs : List (Key × V)} {k : Key} (hy : Ev ty σ H (kV k)) (hd : Ev td σ H (.ref d)) (h : H d = some (.dK kvs)) : Ev (tDIn ty td) σ H (.bl (valV kvs k).isSome) := fun H1 e Q q => hy H1 e _ fun H2 e2 => hd H2 (e.trans e2) _ fun H3 e3 => ⟨d, _, rfl, DGet.k (e3 _ _ (e2 _ _ (e _ _ h))), q H3 (e2.trans e3)⟩
theorem ev_dnotin {ty td : TE} {σ : L2.St} {H : Hp} {d : Addr} {kvs : List (Key × V)} {k : Key} (hy : Ev ty σ H (kV k)) (hd : Ev td σ H (.ref d)) (h : H d = some (.dK kvs)) : Ev (tDNotIn ty td) σ H (.bl (!(valV kvs k).isSome)) := fun H1 e Q q => hy H1 e _ fun H2 e2 => hd H2 (e.trans e2) _ fun H3 e3 => ⟨d, _, rfl, DGet.k (e3 _ _ (e2 _ _ (e _ _ h))), q H3 (e2.trans e3)⟩
theorem ev_dget {ty td : TE} {σ : L2.St} {H : Hp} {d : Addr} {kvs : List (Key × V)} {k : Key} {v : V} (hd : Ev td σ H (.ref d)) (hy : Ev ty σ H (kV k)) (h : H d = some (.dK kvs)) (hv : valV kvs k = some v) : Ev (tDGet td ty) σ H v := fun H1 e Q q => hd H1 e _ fun H2 e2 => hy H2 (e.trans e2) _ fun H3 e3 => ⟨d, v, rfl, .inl ⟨_, k, .inl (e3 _ _ (e2 _ _ (e _ _ h))), rfl, hv.symm⟩, q H3 (e2.trans e3)⟩
theorem putK_le (c : List (Key × V)) (k : Key) (x : V) : (putK c k x).length ≤ c.length + 1 := by
  unfold putK
  split
  · rw [List.length_map]; omega
  · rw [List.length_append, List.length_singleton]; omega
end BC

set_option Elab.async false
set_option linter.all false
set_option maxRecDepth 100000
set_option maxHeartbeats 4000000
namespace LW
open PySem PySem.Spec PyProof.Rows L2 BC Evl TR
def topS (i : Nat) : Stmt := PySem.Challenge.pw_breadcrumbs_k01_sites_recognized.main.body.getD i (.Pass ⟨0, 0, 0, 0⟩)
abbrev s_is_integer : Stmt := topS 2
theorem sc_is_integer : FnScope ["value", "least", "most"] ["value", "least", "most"] (defScope s_is_integer) := ⟨rfl, rfl, rfl, by decide +kernel, rfl, by decide +kernel, by decide +kernel⟩
abbrev s_is_row : Stmt := topS 3
theorem sc_is_row : FnScope ["value", "page", "many", "other"] ["value", "page", "many"] (defScope s_is_row) := ⟨rfl, rfl, rfl, by decide +kernel, rfl, by decide +kernel, by decide +kernel⟩
abbrev s_is_site : Stmt := topS 4
theorem sc_is_site : FnScope ["value", "page", "row"] ["value"] (defScope s_is_site) := ⟨rfl, rfl, rfl, by decide +kernel, rfl, by decide +kernel, by decide +kernel⟩
abbrev s_law_source : Stmt := topS 6
theorem sc_law_source : FnScope ["_law_cell", "_law_k"] ["_law_cell", "_law_k"] (defScope s_law_source) := ⟨rfl, rfl, rfl, by decide +kernel, rfl, by decide +kernel, by decide +kernel⟩
abbrev s_law_draw : Stmt := topS 7
theorem sc_law_draw : FnScope ["_law_source_here", "_law_count", "_law_mixed", "_law_digit"] ["_law_source_here", "_law_count"] (defScope s_law_draw) := ⟨rfl, rfl, rfl, by decide +kernel, rfl, by decide +kernel, by decide +kernel⟩
abbrev s_law_net : Stmt := topS 8
theorem sc_law_net : FnScope ["_law_source_here", "_law_most", "_law_many", "_law_spot", "_law_style", "_law_found", "_law_row", "_law_other", "_law_picks"] ["_law_source_here", "_law_most"] (defScope s_law_net) := ⟨rfl, rfl, rfl, by decide +kernel, rfl, by decide +kernel, by decide +kernel⟩
abbrev s_law_is_net : Stmt := topS 9
theorem sc_law_is_net : FnScope ["_law_value", "_law_spot", "_law_row", "_law_last", "_law_other"] ["_law_value"] (defScope s_law_is_net) := ⟨rfl, rfl, rfl, by decide +kernel, rfl, by decide +kernel, by decide +kernel⟩
abbrev s_law_bad_net : Stmt := topS 10
theorem sc_law_bad_net : FnScope ["_law_source_here", "_law_net_here", "_law_links", "_law_spot", "_law_rows", "_law_odd", "_law_some", "_law_at", "_law_many"] ["_law_source_here", "_law_net_here"] (defScope s_law_bad_net) := ⟨rfl, rfl, rfl, by decide +kernel, rfl, by decide +kernel, by decide +kernel⟩
abbrev s_law_checked : Stmt := topS 11
theorem sc_law_checked : FnScope ["_law_value", "_law_before", "_law_result"] ["_law_value"] (defScope s_law_checked) := ⟨rfl, rfl, rfl, by decide +kernel, rfl, by decide +kernel, by decide +kernel⟩
abbrev s_law_holds : Stmt := topS 12
theorem sc_law_holds : FnScope ["_law_source_here", "_law_most", "_law_net_here", "_law_step", "_law_full", "_law_nested", "_law_some", "_law_row", "_law_other", "_law_spot", "_law_value"] ["_law_source_here", "_law_most"] (defScope s_law_holds) := ⟨rfl, rfl, rfl, by decide +kernel, rfl, by decide +kernel, by decide +kernel⟩
abbrev s_law : Stmt := topS 13
theorem sc_law : FnScope ["_law_script", "_law_k", "_law_cell"] ["_law_script"] (defScope s_law) := ⟨rfl, rfl, rfl, by decide +kernel, rfl, by decide +kernel, by decide +kernel⟩
structure Txt (K : PySem.W.Frag) (mg : Str → Option Value) where
  f_is_integer : Addr
  fd_is_integer : FuncData
  F_is_integer : Fun K "is_integer" "is_integer" s_is_integer f_is_integer fd_is_integer
  m_is_integer : mg "is_integer" = some (.ref f_is_integer)
  b_is_integer : Binds K fd_is_integer ["value", "least", "most"] []
  f_is_row : Addr
  fd_is_row : FuncData
  F_is_row : Fun K "is_row" "is_row" s_is_row f_is_row fd_is_row
  m_is_row : mg "is_row" = some (.ref f_is_row)
  b_is_row : Binds K fd_is_row ["value", "page", "many"] []
  f_is_site : Addr
  fd_is_site : FuncData
  F_is_site : Fun K "is_site" "is_site" s_is_site f_is_site fd_is_site
  m_is_site : mg "is_site" = some (.ref f_is_site)
  b_is_site : Binds K fd_is_site ["value"] []
  f_law_source : Addr
  fd_law_source : FuncData
  F_law_source : Fun K "_law_source" "_law_source" s_law_source f_law_source fd_law_source
  m_law_source : mg "_law_source" = some (.ref f_law_source)
  b_law_source : Binds K fd_law_source ["_law_cell", "_law_k"] []
  f_law_draw : Addr
  fd_law_draw : FuncData
  F_law_draw : Fun K "_law_draw" "_law_draw" s_law_draw f_law_draw fd_law_draw
  m_law_draw : mg "_law_draw" = some (.ref f_law_draw)
  b_law_draw : Binds K fd_law_draw ["_law_source_here", "_law_count"] []
  f_law_net : Addr
  fd_law_net : FuncData
  F_law_net : Fun K "_law_net" "_law_net" s_law_net f_law_net fd_law_net
  m_law_net : mg "_law_net" = some (.ref f_law_net)
  b_law_net : Binds K fd_law_net ["_law_source_here", "_law_most"] []
  f_law_is_net : Addr
  fd_law_is_net : FuncData
  F_law_is_net : Fun K "_law_is_net" "_law_is_net" s_law_is_net f_law_is_net fd_law_is_net
  m_law_is_net : mg "_law_is_net" = some (.ref f_law_is_net)
  b_law_is_net : Binds K fd_law_is_net ["_law_value"] []
  f_law_bad_net : Addr
  fd_law_bad_net : FuncData
  F_law_bad_net : Fun K "_law_bad_net" "_law_bad_net" s_law_bad_net f_law_bad_net fd_law_bad_net
  m_law_bad_net : mg "_law_bad_net" = some (.ref f_law_bad_net)
  b_law_bad_net : Binds K fd_law_bad_net ["_law_source_here", "_law_net_here"] []
  f_law_checked : Addr
  fd_law_checked : FuncData
  F_law_checked : Fun K "_law_checked" "_law_checked" s_law_checked f_law_checked fd_law_checked
  m_law_checked : mg "_law_checked" = some (.ref f_law_checked)
  b_law_checked : Binds K fd_law_checked ["_law_value"] []
  f_law_holds : Addr
  fd_law_holds : FuncData
  F_law_holds : Fun K "_law_holds" "_law_holds" s_law_holds f_law_holds fd_law_holds
  m_law_holds : mg "_law_holds" = some (.ref f_law_holds)
  b_law_holds : Binds K fd_law_holds ["_law_source_here", "_law_most"] []
  f_law : Addr
  fd_law : FuncData
  F_law : Fun K "law" "law" s_law f_law fd_law
  m_law : mg "law" = some (.ref f_law)
  b_law : Binds K fd_law ["_law_script"] []
  t_MOST_PAGES : Tok
  c_MOST_PAGES : mg "MOST_PAGES" = some (.int 12 t_MOST_PAGES)
  n_abs : mg "abs" = none
  n_all : mg "all" = none
  n_bool : mg "bool" = none
  n_enumerate : mg "enumerate" = none
  n_int : mg "int" = none
  n_isinstance : mg "isinstance" = none
  n_len : mg "len" = none
  n_list : mg "list" = none
  n_max : mg "max" = none
  n_min : mg "min" = none
  n_range : mg "range" = none
  n_repr : mg "repr" = none
  n_set : mg "set" = none
  n_sorted : mg "sorted" = none
  n_tuple : mg "tuple" = none
local macro_rules | `(tactic| walk_at "sx") => `(tactic| try simp only [x_seq, x_next, x_brk, x_cnt, x_nev, x_ret, x_retN, x_drop, x_ifS, x_asg, x_gn, x_gsub, x_par, x_par3, x_aug, x_for, x_lc, x_rng1, x_rng2, x_rng3, x_ilist, x_itup, x_ienum, x_izip, x_izipA, x_istr, x_var, x_c, x_op, x_un, x_test, x_b, x_chain, x_and, x_or, x_not, x_andV, x_orV, x_notV, x_ife, x_nil, x_cons, x_lst, x_tup, x_cb, x_call, x_callK, x_bm, x_bm0, x_tru, x_sl, x_nopart, x_part, x_revL, x_I0, x_I, x_U, x_ip, x_ipC, x_eqI, x_neI, x_eqB, x_neB, x_eqS, x_neS, x_isB, x_isNB, x_lrg, x_gall, x_lenSet, x_augS, x_sortSet, x_sortSetB, x_lenSetA, x_rg1, x_rg2,
  L2.start, List.map_cons, List.map_nil, List.length_cons, List.length_nil, Nat.reduceAdd, Nat.reduceSub, Nat.sub_self, Nat.zero_add, List.replicate, List.replicate_succ, List.replicate_zero, List.append_nil, List.cons_append, List.nil_append, List.set_cons_zero, List.set_cons_succ, List.getElem?_cons_zero, List.getElem?_cons_succ, Option.some.injEq, V.int.injEq, V.bl.injEq, V.ref.injEq, V.str.injEq, List.cons.injEq, and_true, true_and, exists_eq_left', exists_eq_left, exists_and_left, exists_eq, if_true, if_false, ite_true, ite_false, Bool.true_eq_false, Bool.false_eq_true, reduceIte, reduceCtorEq, Bool.not_true, Bool.not_false, decide_true, decide_false, decide_eq_true_eq, Bool.and_true, Bool.true_and, Bool.and_self, Bool.and_false, Bool.false_and, Bool.or_self, Bool.or_false, Bool.false_or, Bool.or_true, Bool.true_or, eq_self])
section
variable {P : Program} {w : World} {K : PySem.W.Frag} {mg : Str → Option Value} {base : Heap}
/-- a value with its type: a number, or what is none -/
inductive Kd (K : PySem.W.Frag) (H : Hp) : V → Prop
  | int (i : Int) : Kd K H (.int i)
  | bl (b : Bool) : Kd K H (.bl b)
  | odd {v : V} {t : Value} (h : TyX K H v t) (n : PySem.W.kitOne K t (.type "int") = some false) : Kd K H v
def inR (lo hi : Int) : V → Bool
  | .int i => decide (lo ≤ i) && decide (i ≤ hi)
  | _ => false
def spIsInt (K : PySem.W.Frag) : Sp := fun vs H Q _ => ∃ (v : V) (lo hi : Int), vs = [v, .int lo, .int hi] ∧ Kd K H v ∧ Q (.bl (inR lo hi v)) H
theorem ok_is_integer (T : Txt K mg) : FnOk P w K mg base CX0 1 T.f_is_integer T.fd_is_integer ["value", "least", "most"] (spIsInt K) := by
  refine T.F_is_integer.ok sc_is_integer (fun vs H Q E h => ?_) (fun cdv A outer s H vs Q E hr h => ?_)
  · obtain ⟨v, lo, hi, rfl, _⟩ := h
    rfl
  · obtain ⟨v, lo, hi, rfl, kd, k⟩ := h
    apply Exists.intro
    apply And.intro
    · apply pss_one
      exact (ps_ret (pe_and (pe_callB (k_isi (K := K) rfl) (by rfl) T.n_isinstance (by decide +kernel) (pa_cons (pv 0) (pa_cons (pe_bltn (v := .ty "int") (by rfl) T.n_int (by decide +kernel) rfl) pa_nil))) (pe_and (pe_not (pe_callB (k_isi (K := K) rfl) (by rfl) T.n_isinstance (by decide +kernel) (pa_cons (pv 0) (pa_cons (pe_bltn (v := .ty "bool") (by rfl) T.n_bool (by decide +kernel) rfl) pa_nil)))) (pe_one (pe_chain op_le op_le (pv 1) (pv 0) (pv 2))))))
    walk_at "sx"
    cases kd with
    | int i =>
      refine isi_int (b := true) (by decide +kernel) ?_
      walk_at "sx"
      refine isi_int (b := false) (by decide +kernel) ?_
      have k' : Q (.bl (decide (lo ≤ i) && decide (i ≤ hi))) H := k
      walk_at "sx"
      by_cases h1 : lo ≤ i
      · simpa [h1] using k'
      · simpa [h1] using k'
    | bl b =>
      refine ⟨.bl b, .ty "int", .type "bool", .type "int", true, rfl, .ty "int", .base (.bl b), kit_ty (by decide +kernel), ?_⟩
      walk_at "sx"
      refine ⟨.bl b, .ty "bool", .type "bool", .type "bool", true, rfl, .ty "bool", .base (.bl b), kit_ty (by decide +kernel), ?_⟩
      walk_at "sx"
      exact k
    | odd ty n =>
      refine ⟨v, .ty "int", _, .type "int", false, rfl, .ty "int", ty, n, ?_⟩
      have e : inR lo hi v = false := by
        cases v with
        | int i =>
          cases ty with
          | base h => cases h; exact absurd n (by rw [kit_ty (r := true) (by decide +kernel)]; simp)
        | _ => rfl
      rw [e] at k
      walk_at "sx"
      exact k
def spIsPage (K : PySem.W.Frag) : Sp := fun vs H Q _ => ∃ v, vs = [v] ∧ Kd K H v ∧ Q (.bl (inR 0 39 v)) H
theorem Kd.of {K : PySem.W.Frag} {H : Hp} {v : V} {t : Value} (h : TyX K H v t) (n : PySem.W.kitOne K t (.type "int") = some false) : Kd K H v := .odd h n
theorem kd_non {K : PySem.W.Frag} {H : Hp} : Kd K H .non := .odd (.base .non) (kit_ty (by decide +kernel))
theorem kd_str {K : PySem.W.Frag} {H : Hp} (x : Str) : Kd K H (.str x) := .odd (.base (.str x)) (kit_ty (by decide +kernel))
theorem kd_lst {K : PySem.W.Frag} {H : Hp} {a : Addr} {xs : List V} (e : H a = some (.lst xs)) : Kd K H (.ref a) := .odd (.base (.lst e)) (kit_ty (by decide +kernel))
theorem kd_tup {K : PySem.W.Frag} {H : Hp} {a : Addr} {xs : List V} (e : H a = some (.tup xs)) : Kd K H (.ref a) := .odd (.base (.tup e)) (kit_ty (by decide +kernel))
theorem kd_dic {K : PySem.W.Frag} {H : Hp} {a : Addr} {xs : List (Key × V)} (e : H a = some (.dK xs)) : Kd K H (.ref a) := .odd (.base (.dK e)) (kit_ty (by decide +kernel))
end
/-! ### sites.py on any value -/
section
variable {P : Program} {w : World} {K : PySem.W.Frag} {mg : Str → Option Value} {base : Heap}
theorem inR_inD {H : Hp} {v : V} {d : PyData} {lo hi : Int} (h : De K H v d) : inR lo hi v = inD lo hi d := by
  cases h <;> rfl
theorem de_nums {H : Hp} {m : Int} : ∀ {xs : List V} {ds : List PyData}, DeAll K H xs ds → ds.all (inD 0 m) = true → xs = (ds.map numD).map V.int ∧ ∀ n ∈ ds.map numD, 0 ≤ n ∧ n ≤ m
  | _, [], .nil, _ => ⟨rfl, fun n h => by cases h⟩
  | x :: xs, d :: ds, .cons h1 h2, c => by
    rw [List.all_cons, Bool.and_eq_true] at c
    obtain ⟨e, hn⟩ := de_nums h2 c.2
    cases h1 with
    | int i =>
      have c1 := c.1
      simp [inD] at c1
      refine ⟨by rw [e]; rfl, fun n hn2 => ?_⟩
      rw [List.map_cons] at hn2
      rcases List.mem_cons.mp hn2 with rfl | q
      · exact c1
      · exact hn n q
    | _ => exact absurd c.1 (by simp [inD])
theorem de_kd {H : Hp} {v : V} {d : PyData} (h : De K H v d) : Kd K H v := by
  cases h with
  | non => exact kd_non
  | bl b => exact .bl b
  | int i => exact .int i
  | str x => exact kd_str x
  | lst h _ => exact .odd (tyx_l h) (kit_ty (by decide +kernel))
  | tup h _ => exact .odd (tyx_t h) (kit_ty (by decide +kernel))
  | dic h => exact kd_dic h
theorem pw_sorted {ns ms : List Int} (pw : ms.Pairwise (· < ·)) (mem : ∀ k : Int, k ∈ ms ↔ k ∈ ns) : (ns = ms) ↔ ns.Pairwise (· < ·) := by
  constructor
  · rintro rfl; exact pw
  · intro h; exact asc_same h pw fun k => (mem k).symm
theorem dbl {ds : List PyData} {f : PyData → Bool} : (List.range ds.length).map (fun i => f (ds.getD i .none)) = ds.map f := by
  apply List.ext_getElem
  · simp
  · intro i h1 h2
    simp at h1
    simp [List.getD_eq_getElem?_getD, h1]
theorem kept_ds {ds : List PyData} {n : Nat} (hn : n = ds.length) (f : PyData → Bool) : kept n (fun _ => true) (fun i => V.bl (f (ds.getD i .none))) = (ds.map f).map V.bl := by
  subst hn
  rw [kept_all, ← dbl, List.map_map]
  rfl
def spIsRow (K : PySem.W.Frag) : Sp := fun vs H Q _ => ∃ (v : V) (d : PyData) (i m : Nat), vs = [v, .int i, .int m] ∧ De K H v d ∧ m ≤ 12 ∧ (∀ ds, d = .list ds → ds.length ≤ 4000) ∧ ∀ H', Ex H H' → Q (.bl (isRowD i m d)) H'
theorem ok_is_row (T : Txt K mg) : FnOk P w K mg base CX0 2 T.f_is_row T.fd_is_row ["value", "page", "many"] (spIsRow K) := by
  refine T.F_is_row.ok sc_is_row (fun vs H Q E h => ?_) (fun cdv A outer s H vs Q E hr h => ?_)
  · obtain ⟨v, d, i, m, rfl, _⟩ := h
    rfl
  · obtain ⟨v, d, i, m, rfl, hd, hm, hl, k⟩ := h
    apply Exists.intro
    apply And.intro
    · apply pss_cons
      · apply ps_if
        · exact (PW.pt (pw_or (pt_not (pt_val (pe_callB (k_isi (K := K) rfl) (by rfl) T.n_isinstance (by decide +kernel) (pa_cons (pv 0) (pa_cons (pe_bltn (v := .ty "list") (by rfl) T.n_list (by decide +kernel) rfl) pa_nil))))) (pw_or1 (pt_not (pt_val (pe_callB (k_all (K := K) rfl rfl) (by rfl) T.n_all (by decide +kernel) (pa_cons (pe_lc (own := [("other", 3)]) rfl sc_is_row.nd (k_pi_list (K := K) rfl (pv 0)) (blkOk_by (own := [("other", 3)]) (N := ["value", "page", "many", "other"]) (sc := defScope s_is_row) (by decide +kernel)) (fun _ _ _ _ _ => by exact (pg_name (i := 3) sc_is_row.nd rfl (.inl rfl))) (fun _ _ _ _ _ => by exact pts_nil) (fun _ _ _ _ _ => by exact (pe_call (ok_is_integer T) (hr.mono (by decide)) (by rfl) T.m_is_integer T.F_is_integer.kp T.b_is_integer .nil pass0 (pa_cons (pv 3) (pa_cons pe_int (pa_cons (pe_op op_sub (pv 2) pe_int) pa_nil)))))) pa_nil)))))))
        · apply pss_one
          exact (ps_ret pe_bl)
        · exact pss_nil
      apply pss_one
      exact (ps_ret (pe_and (pe_cmpR (k_notIn (K := K) rfl) (pv 1) (pv 0) (by rfl)) (pe_one (pe_cmpR (k_eqD (K := K) rfl hr.units) (pv 0) (k_sortSetB (K := K) rfl (by rfl) T.n_sorted (by rfl) T.n_set (pv 0)) (by rfl)))))
    have k0 := k H (Ex.refl H)
    walk_at "sx"
    cases hd with
    | @lst a xs ds hA hx =>
      have ln := hx.len
      have hl := hl ds rfl
      refine isi_x (b := true) (tyx_l hA) (by decide +kernel) ?_
      walk_at "sx"
      refine ⟨⟨_, hA⟩, fun D nD => ?_⟩
      refine lc_list (xs := xs) (fun _ => true) (fun j => V.bl (inD 0 ((m : Int) - 1) (ds.getD j .none))) hA nD (by omega) (fun u => rfl) (fun j x _ => tyes) (fun j x hj _ => ?_) (fun H2 e2 hD => ?_)
      · obtain ⟨d, hdj, hde⟩ := hx.at hj
        intro H3 e3 R hR
        walk_at "sx"
        refine ⟨_, rfl, _, rfl, ?_⟩
        walk_at "sx"
        refine ⟨_, _, _, rfl, de_kd (De.ex e3 _ _ hde), ?_⟩
        rw [inR_inD hde, show d = ds.getD j .none by rw [List.getD_eq_getElem?_getD, hdj]; rfl]
        exact hR _ (Ex.refl _)
      · rw [kept_ds ln] at hD
        refine allL (.inl (.inl hD)) ?_
        rw [List.all_map]
        have ea : (id ∘ inD 0 ((m : Int) - 1)) = inD 0 ((m : Int) - 1) := rfl
        rw [ea]
        have hA2 := ex_l e2 hA
        cases c : ds.all (inD 0 ((m : Int) - 1)) with
        | false =>
          walk_at "sx"
          have := k _ e2
          rwa [show isRowD i m (.list ds) = false from if_neg (by rw [c]; simp)] at this
        | true =>
          obtain ⟨ex, hn⟩ := de_nums hx c
          have kk : ∀ H', Ex H H' → Q (.bl (decide ((i : Int) ∉ ds.map numD) && decide ((ds.map numD).Pairwise (· < ·)))) H' := fun H' e => by
            have := k H' e
            rwa [show isRowD i m (.list ds) = (decide ((i : Int) ∉ ds.map numD) && decide ((ds.map numD).Pairwise (· < ·))) from if_pos c] at this
          rw [ex] at hA2
          walk_at "sx"
          refine ninL hA2 ?_
          walk_at "sx"
          by_cases c2 : (i : Int) ∈ ds.map numD
          · rw [decide_eq_true c2]
            walk_at "sx"
            have := kk _ e2
            rwa [decide_eq_false (fun z => z c2), Bool.false_and] at this
          · rw [decide_eq_false c2]
            walk_at "sx"
            refine ⟨_, hA2, by rw [List.length_map]; omega, fun z hz => by have := hn z hz; omega, fun ms p pw mem np => ?_⟩
            have ep := Ex.new np (o := .lst (ms.map V.int))
            refine eqInts (ex_l ep hA2) (.inl (.inl upd_same)) ?_
            have := kk _ (e2.trans ep)
            rw [decide_eq_true (show (i : Int) ∉ ds.map numD from c2), Bool.true_and] at this
            rwa [decide_eq_decide.mpr (pw_sorted pw mem)]
    | non => exact isi_x (b := false) (.base .non) (by decide +kernel) (by walk_at "sx"; exact k0)
    | bl b => exact isi_x (b := false) (.base (.bl b)) (by decide +kernel) (by walk_at "sx"; exact k0)
    | int i => exact isi_x (b := false) (.base (.int i)) (by decide +kernel) (by walk_at "sx"; exact k0)
    | str x => exact isi_x (b := false) (.base (.str x)) (by decide +kernel) (by walk_at "sx"; exact k0)
    | tup h1 h2 => exact isi_x (b := false) (tyx_t h1) (by decide +kernel) (by walk_at "sx"; exact k0)
    | dic h1 => exact isi_x (b := false) (.base (.dK h1)) (by decide +kernel) (by walk_at "sx"; exact k0)
def spIsSite (K : PySem.W.Frag) : Sp := fun vs H Q _ => ∃ (v : V) (d : PyData), vs = [v] ∧ De K H v d ∧ RowsL d ∧ ∀ H', Ex H H' → Q (.bl (isSiteD d)) H'
theorem ok_is_site (T : Txt K mg) : FnOk P w K mg base CX0 3 T.f_is_site T.fd_is_site ["value"] (spIsSite K) := by
  refine T.F_is_site.ok sc_is_site (fun vs H Q E h => ?_) (fun cdv A outer s H vs Q E hr h => ?_)
  · obtain ⟨v, d, rfl, _⟩ := h
    rfl
  · obtain ⟨v, d, rfl, hd, hr4, k⟩ := h
    apply Exists.intro
    apply And.intro
    · apply pss_cons
      · apply ps_if
        · exact (PW.pt (pw_or (pt_not (pt_val (pe_callB (k_isi (K := K) rfl) (by rfl) T.n_isinstance (by decide +kernel) (pa_cons (pv 0) (pa_cons (pe_bltn (v := .ty "list") (by rfl) T.n_list (by decide +kernel) rfl) pa_nil))))) (pw_or1 (pt_not (pt_chain op_le op_le pe_int (pe_callB (k_len (K := K) rfl) (by rfl) T.n_len PySem.boot_len (pa_cons (pv 0) pa_nil)) (pe_glob (v := .int 12) rfl T.c_MOST_PAGES ⟨_, rfl⟩))))))
        · apply pss_one
          exact (ps_ret pe_bl)
        · exact pss_nil
      apply pss_one
      exact (ps_ret (pe_callB (k_all (K := K) rfl rfl) (by rfl) T.n_all (by decide +kernel) (pa_cons (pe_lc (own := [("page", 1), ("row", 2)]) rfl sc_is_site.nd (k_pi_enum (K := K) rfl (by rfl) T.n_enumerate (pa_cons (pv 0) pa_nil)) (blkOk_by (own := [("page", 1), ("row", 2)]) (N := ["value", "page", "row"]) (sc := defScope s_is_site) (by decide +kernel)) (fun _ _ _ _ _ => by exact (k_tup (K := K) (n := 2) rfl rfl (pgs_cons (pg_name (i := 1) sc_is_site.nd rfl (.inl rfl)) (pgs_cons (pg_name (i := 2) sc_is_site.nd rfl (.inl rfl)) pgs_nil)))) (fun _ _ _ _ _ => by exact pts_nil) (fun _ _ _ _ _ => by exact (pe_call (ok_is_row T) (hr.mono (by decide)) (by rfl) T.m_is_row T.F_is_row.kp T.b_is_row .nil pass0 (pa_cons (pv 2) (pa_cons (pv 1) (pa_cons (pe_callB (k_len (K := K) rfl) (by rfl) T.n_len PySem.boot_len (pa_cons (pv 0) pa_nil)) pa_nil)))))) pa_nil)))
    have k0 := k H (Ex.refl H)
    walk_at "sx"
    cases hd with
    | @lst a xs ds hA hx =>
      have ln := hx.len
      have hr5 := hr4 ds rfl
      refine isi_x (b := true) (tyx_l hA) (by decide +kernel) ?_
      walk_at "sx"
      refine lenL hA ?_
      walk_at "sx"
      by_cases c1 : 1 ≤ ds.length
      · by_cases c2 : ds.length ≤ 12
        · rw [if_pos (show (1 : Int) ≤ ((xs.length : Nat) : Int) by omega)]
          rw [show (decide (((xs.length : Nat) : Int) ≤ 12)) = true from decide_eq_true (by omega)]
          walk_at "sx"
          refine ⟨_, hA, fun D nD => ?_⟩
          refine lc_enum (xs := xs) (fun _ => true) (fun j => V.bl (isRowD j ds.length (ds.getD j .none))) hA nD (by omega) (fun u v => rfl) (fun i x _ => tyes) (fun j x hj _ => ?_) (fun H2 e2 hD => ?_)
          · obtain ⟨d, hdj, hde⟩ := hx.at hj
            intro H3 e3 R hR
            walk_at "sx"
            refine ⟨_, rfl, _, rfl, _, rfl, ?_⟩
            refine lenL (ex_l e3 hA) ?_
            refine ⟨_, d, j, ds.length, by rw [ln], De.ex e3 _ _ hde, c2, fun es he => hr5 d (List.mem_of_getElem? hdj) es he, fun H4 e4 => ?_⟩
            rw [show d = ds.getD j .none by rw [List.getD_eq_getElem?_getD, hdj]; rfl]
            exact hR _ e4
          · have hk : kept xs.length (fun _ => true) (fun j => V.bl (isRowD j ds.length (ds.getD j .none))) = ((List.range ds.length).map fun j => isRowD j ds.length (ds.getD j .none)).map V.bl := by
              rw [kept_all, List.map_map, ln]; rfl
            rw [hk] at hD
            refine allL (.inl (.inl hD)) ?_
            rw [List.all_map]
            have := k _ e2
            rwa [show isSiteD (.list ds) = (List.range ds.length).all fun i => isRowD i ds.length (ds.getD i .none) from if_pos ⟨c1, c2⟩] at this
        · rw [if_pos (show (1 : Int) ≤ ((xs.length : Nat) : Int) by omega)]
          rw [show (decide (((xs.length : Nat) : Int) ≤ 12)) = false from decide_eq_false (by omega)]
          walk_at "sx"
          rwa [show isSiteD (.list ds) = false from if_neg (by omega)] at k0
      · rw [if_neg (show ¬ (1 : Int) ≤ ((xs.length : Nat) : Int) by omega)]
        rwa [show isSiteD (.list ds) = false from if_neg (by omega)] at k0
    | non => exact isi_x (b := false) (.base .non) (by decide +kernel) (by walk_at "sx"; exact k0)
    | bl b => exact isi_x (b := false) (.base (.bl b)) (by decide +kernel) (by walk_at "sx"; exact k0)
    | int i => exact isi_x (b := false) (.base (.int i)) (by decide +kernel) (by walk_at "sx"; exact k0)
    | str x => exact isi_x (b := false) (.base (.str x)) (by decide +kernel) (by walk_at "sx"; exact k0)
    | tup h1 h2 => exact isi_x (b := false) (tyx_t h1) (by decide +kernel) (by walk_at "sx"; exact k0)
    | dic h1 => exact isi_x (b := false) (.base (.dK h1)) (by decide +kernel) (by walk_at "sx"; exact k0)
end
end LW

set_option Elab.async false
set_option linter.all false
set_option maxRecDepth 100000
set_option maxHeartbeats 4000000
namespace LW
open PySem PySem.Spec PyProof.Rows L2 BC Evl TR
local macro_rules | `(tactic| walk_at "sx") => `(tactic| try simp only [x_seq, x_next, x_brk, x_cnt, x_nev, x_ret, x_retN, x_drop, x_ifS, x_asg, x_gn, x_gsub, x_par, x_par3, x_aug, x_for, x_lc, x_rng1, x_rng2, x_rng3, x_ilist, x_itup, x_ienum, x_izip, x_izipA, x_istr, x_var, x_c, x_op, x_un, x_test, x_b, x_chain, x_and, x_or, x_not, x_andV, x_orV, x_notV, x_ife, x_nil, x_cons, x_lst, x_tup, x_cb, x_call, x_callK, x_bm, x_bm0, x_tru, x_sl, x_nopart, x_part, x_revL, x_I0, x_I, x_U, x_ip, x_ipC, x_eqI, x_neI, x_eqB, x_neB, x_eqS, x_neS, x_isB, x_isNB, x_lrg, x_gall, x_lenSet, x_augS, x_sortSet, x_sortSetB, x_lenSetA, x_rg1, x_rg2,
  L2.start, List.map_cons, List.map_nil, List.length_cons, List.length_nil, Nat.reduceAdd, Nat.reduceSub, Nat.sub_self, Nat.zero_add, List.replicate, List.replicate_succ, List.replicate_zero, List.append_nil, List.cons_append, List.nil_append, List.set_cons_zero, List.set_cons_succ, List.getElem?_cons_zero, List.getElem?_cons_succ, Option.some.injEq, V.int.injEq, V.bl.injEq, V.ref.injEq, V.str.injEq, List.cons.injEq, and_true, true_and, exists_eq_left', exists_eq_left, exists_and_left, exists_eq, if_true, if_false, ite_true, ite_false, Bool.true_eq_false, Bool.false_eq_true, reduceIte, reduceCtorEq, Bool.not_true, Bool.not_false, decide_true, decide_false, decide_eq_true_eq, Bool.and_true, Bool.true_and, Bool.and_self, Bool.and_false, Bool.false_and, Bool.or_self, Bool.or_false, Bool.false_or, Bool.or_true, Bool.true_or, eq_self])
section
variable {P : Program} {w : World} {K : PySem.W.Frag} {mg : Str → Option Value} {base : Heap}
def spSource : Sp := fun vs H Q _ => ∃ (n : Int) (k : Nat), vs = [.int n, .int k] ∧ k ≤ 1000 ∧ ∀ p H', H p = none → Ex H H' → BagAt H' p 0 → Q (.ref p) H'
theorem ok_law_source (T : Txt K mg) : FnOk P w K mg base CX0 1 T.f_law_source T.fd_law_source ["_law_cell", "_law_k"] spSource := by
  refine T.F_law_source.ok sc_law_source (fun vs H Q E h => ?_) (fun cdv A outer s H vs Q E hr h => ?_)
  · obtain ⟨n, k, rfl, _⟩ := h
    rfl
  · obtain ⟨n, i, rfl, hi, k⟩ := h
    apply Exists.intro
    apply And.intro
    · apply pss_one
      exact (ps_ret (pe_lst (pa_cons (pe_callB (call_max2 rfl) (by rfl) T.n_max (by decide +kernel) (pa_cons pe_int (pa_cons (pe_op op_sub (pv 0) (pe_op op_powX pe_int pe_int)) pa_nil))) (pa_cons (pe_op op_add (pe_op op_mulX (pe_op op_modX (pv 0) (pe_op op_add (pe_op op_powX pe_int pe_int) pe_int)) pe_int) (pv 1)) (pa_cons pe_int pa_nil)))))
    walk_at "sx"
    have t18 : Int.toNat 18 = 18 := rfl
    have t33 : Int.toNat 33 = 33 := rfl
    rw [t33]
    have m0 : 0 ≤ n % (10 ^ 33 + 153) := Int.emod_nonneg _ (by decide)
    have m1 : n % (10 ^ 33 + 153) < 10 ^ 33 + 153 := Int.emod_lt_of_pos _ (by decide)
    refine ⟨⟨by decide, by decide, by decide⟩, _, _, ⟨rfl, rfl⟩, ⟨by decide, by decide, by decide⟩, by decide, .inl (.inr ⟨by decide, by decide⟩), sz_ok (by omega), fun p np => ?_⟩
    refine k p _ np (Ex.new np) ⟨_, _, _, upd_same, by omega, by omega, by omega, by omega⟩
theorem ok_law_draw (T : Txt K mg) : FnOk P w K mg base CX0 1 T.f_law_draw T.fd_law_draw ["_law_source_here", "_law_count"] spDraw := by
  refine T.F_law_draw.ok sc_law_draw (fun vs H Q E h => ?_) (fun cdv A outer s H vs Q E hr h => ?_)
  · obtain ⟨b, m, c, rfl, _⟩ := h
    rfl
  · obtain ⟨b, m, c, rfl, h1, h2, hB, hc, k⟩ := h
    obtain ⟨x0, x1, x2, hb, h3, h4, h5, h6⟩ := hB
    apply Exists.intro
    apply And.intro
    · apply pss_cons
      · apply ps_if
        · exact (pt_cmpR op_gt (pe_ix (k_ix_list (K := K) rfl) (pv 0) pe_int (fun _ _ => rfl)) pe_int (by rfl))
        · apply pss_cons
          · exact (ps_set (i := 3) sc_law_draw.nd rfl (.inl rfl) (pe_op op_modX (pe_ix (k_ix_list (K := K) rfl) (pv 0) pe_int (fun _ _ => rfl)) (pv 1)))
          apply pss_cons
          · exact (ps_asg (pe_op op_fdivX (pe_ix (k_ix_list (K := K) rfl) (pv 0) pe_int (fun _ _ => rfl)) (pv 1)) (pg_sub (pv 0) pe_int set_list))
          apply pss_one
          exact (ps_ret (pv 3))
        · exact pss_nil
      apply pss_cons
      · exact (ps_asg (pe_op op_add (pe_ix (k_ix_list (K := K) rfl) (pv 0) pe_int (fun _ _ => rfl)) pe_int) (pg_sub (pv 0) pe_int set_list))
      apply pss_cons
      · exact (ps_set (i := 2) sc_law_draw.nd rfl (.inl rfl) (pe_op op_modX (pe_op op_powX (pe_op op_add (pe_ix (k_ix_list (K := K) rfl) (pv 0) pe_int (fun _ _ => rfl)) (pe_op op_mulX pe_int (pe_ix (k_ix_list (K := K) rfl) (pv 0) pe_int (fun _ _ => rfl)))) pe_int) (pe_op op_add (pe_op op_powX pe_int pe_int) pe_int)))
      apply pss_cons
      · exact (ps_set (i := 2) sc_law_draw.nd rfl (.inl rfl) (pe_op op_modX (pe_op op_powX (pe_op op_add (pv 2) (pe_op op_mulX pe_int (pe_ix (k_ix_list (K := K) rfl) (pv 0) pe_int (fun _ _ => rfl)))) pe_int) (pe_op op_add (pe_op op_powX pe_int pe_int) pe_int)))
      apply pss_one
      exact (ps_ret (pe_op op_modX (pe_op op_fdivX (pv 2) pe_int) (pv 1)))
    walk_at "sx"
    refine ixL (.inl (.inl hb)) (atI_n (j := 0) rfl rfl) ?_
    walk_at "sx"
    have hdm : ∀ i, CDivW i m := fun i => wide_div (b := 2001) h1 (big_lt h1 h2) (by omega) (by omega)
    by_cases h0 : 0 < x0
    · simp only [h0, if_true]
      refine ixL (.inl (.inl hb)) (atI_n (j := 0) rfl rfl) ?_
      walk_at "sx"
      refine ⟨h1, ?_⟩
      refine ixL (.inl (.inl hb)) (atI_n (j := 0) rfl rfl) ?_
      walk_at "sx"
      refine ⟨hdm _, ?_⟩
      refine setL hb (ixN_n (j := 0) rfl (by simp)) ?_
      exact k _ _ (Int.emod_nonneg _ (by omega)) (Int.emod_lt_of_pos _ h1) Fx.put ⟨_, _, _, upd_same, h3, h4, h5, by omega⟩
    · simp only [h0, if_false]
      refine ixL (.inl (.inl hb)) (atI_n (j := 2) rfl rfl) ?_
      walk_at "sx"
      refine setL hb (ixN_n (j := 2) rfl (by simp)) ?_
      have hb2 : (upd H b (.lst [V.int x0, V.int x1, V.int (x2 + 1)])) b = some (.lst [V.int x0, V.int x1, V.int (x2 + 1)]) := upd_same
      refine ixL (.inl (.inl hb2)) (atI_n (j := 1) rfl rfl) ?_
      walk_at "sx"
      refine ixL (.inl (.inl hb2)) (atI_n (j := 2) rfl rfl) ?_
      walk_at "sx"
      have c1 : CMulX 970051 (x2 + 1) := .inl (.inl ⟨by decide, by decide⟩)
      have c2 : CMulX 73 (x2 + 1) := .inl (.inl ⟨by decide, by decide⟩)
      have c3 : CPowX (x1 + 970051 * (x2 + 1)) 3 := ⟨by decide, by decide, Nat.lt_of_lt_of_le (log2_small (k := 300) (by decide) (by omega)) (by decide)⟩
      have t39 : Int.toNat 39 = 39 := rfl
      have t36 : Int.toNat 36 = 36 := rfl
      rw [t39, t36]
      refine ⟨c1, c3, ⟨by decide, by decide, by decide⟩, by decide, ?_⟩
      refine ixL (.inl (.inl hb2)) (atI_n (j := 2) rfl rfl) ?_
      walk_at "sx"
      generalize hz : (x1 + 970051 * (x2 + 1)) ^ Int.toNat 3 % (10 ^ 39 + 3) = z
      have hz0 : 0 ≤ z := by rw [← hz]; exact Int.emod_nonneg _ (by decide)
      have hz1 : z < 10 ^ 39 + 3 := by rw [← hz]; exact Int.emod_lt_of_pos _ (by decide)
      have c4 : CPowX (z + 73 * (x2 + 1)) 3 := ⟨by decide, by decide, Nat.lt_of_lt_of_le (log2_small (k := 300) (by decide) (by omega)) (by decide)⟩
      refine ⟨c2, c4, ⟨by decide, by decide, by decide⟩, by decide, ⟨by decide, by decide⟩, h1, ?_⟩
      exact k _ _ (Int.emod_nonneg _ (by omega)) (Int.emod_lt_of_pos _ h1) Fx.put ⟨_, _, _, hb2, h3, h4, by omega, by omega⟩
/-- a drawn site -/
def spNet : Sp := fun vs H Q _ => ∃ (b : Addr) (mo c : Nat), vs = [.ref b, .int mo] ∧ 1 ≤ mo ∧ mo ≤ 12 ∧ BagAt H b c ∧ c ≤ 100000 ∧
  ∀ s (G : Grid) H', Fx b H H' → BagAt H' b (c + 400) → GridN H H' s G → SiteOk G → G.length ≤ mo → Q (.ref s) H'
def RowsOk (m : Nat) (G : Grid) : Prop := ∀ (i : Nat) (r : List Nat), G[i]? = some r → r.Pairwise (· < ·) ∧ (∀ x ∈ r, x < m) ∧ i ∉ r
def JNe (H : Hp) (b : Addr) (mo m c : Nat) (st : Int) (i : Nat) (σ' : L2.St) (H' : Hp) : Prop := ∃ l3 f l6 l7 l8 G, σ' = [some (.ref b), some (.int mo), some (.int m), l3, some (.int st), some (.ref f), l6, l7, l8] ∧
  Fx b H H' ∧ BagAt H' b (c + 4 + 2 * m * i) ∧ GridN H H' f G ∧ G.length = i ∧ RowsOk m G
def JRo (H0 : Hp) (b : Addr) (mo m c : Nat) (st : Int) (f r : Addr) (i : Nat) (j : Nat) (σ' : L2.St) (H' : Hp) : Prop := ∃ l7 l8 R, σ' = [some (.ref b), some (.int mo), some (.int m), some (.int (i : Int)), some (.int st), some (.ref f), some (.ref r), l7, l8] ∧
  Fx b H0 H' ∧ BagAt H' b (c + 4 + 2 * m * i + 2 * j) ∧ H' r = some (.lst ((nz R).map V.int)) ∧ R.Pairwise (· < ·) ∧ (∀ x ∈ R, x < j) ∧ i ∉ R
theorem ok_law_net (T : Txt K mg) : FnOk P w K mg base CX0 2 T.f_law_net T.fd_law_net ["_law_source_here", "_law_most"] spNet := by
  refine T.F_law_net.ok sc_law_net (fun vs H Q E h => ?_) (fun cdv A outer s H vs Q E hr h => ?_)
  · obtain ⟨b, mo, c, rfl, _⟩ := h
    rfl
  · obtain ⟨b, mo, c, rfl, m1, m2, hB, hc, k⟩ := h
    apply Exists.intro
    apply And.intro
    · apply pss_cons
      · exact (ps_set (i := 2) sc_law_net.nd rfl (.inl rfl) (pe_ix (k_ix_list (K := K) rfl) (pe_lst (pa_cons (pe_op op_add pe_int (pe_call (ok_law_draw T) (hr.mono (by decide)) (by rfl) T.m_law_draw T.F_law_draw.kp T.b_law_draw .nil pass0 (pa_cons (pv 0) (pa_cons (pv 1) pa_nil)))) (pa_cons (pe_op op_add pe_int (pe_call (ok_law_draw T) (hr.mono (by decide)) (by rfl) T.m_law_draw T.F_law_draw.kp T.b_law_draw .nil pass0 (pa_cons (pv 0) (pa_cons (pe_callB (call_min2 rfl) (by rfl) T.n_min (by decide +kernel) (pa_cons (pv 1) (pa_cons pe_int pa_nil))) pa_nil)))) (pa_cons (pv 1) pa_nil)))) (pe_call (ok_law_draw T) (hr.mono (by decide)) (by rfl) T.m_law_draw T.F_law_draw.kp T.b_law_draw .nil pass0 (pa_cons (pv 0) (pa_cons pe_int pa_nil))) (fun _ _ => rfl)))
      apply pss_cons
      · exact (ps_par (i := 4) (j := 5) (by rfl) sc_law_net.nd rfl rfl (by decide) rfl rfl (pa_cons (pe_call (ok_law_draw T) (hr.mono (by decide)) (by rfl) T.m_law_draw T.F_law_draw.kp T.b_law_draw .nil pass0 (pa_cons (pv 0) (pa_cons pe_int pa_nil))) (pa_cons (pe_lst pa_nil) pa_nil)) (by rfl))
      apply pss_cons
      · apply ps_for PassesOwn.never rfl
        · exact (pi_range1 (by rfl) T.n_range (pa_cons (pv 2) pa_nil))
        · exact (pg_name (i := 3) sc_law_net.nd rfl (.inl rfl))
        · apply pss_cons
          · exact (ps_set (i := 6) sc_law_net.nd rfl (.inl rfl) (pe_lst pa_nil))
          apply pss_cons
          · apply ps_for PassesOwn.never rfl
            · exact (pi_range1 (by rfl) T.n_range (pa_cons (pv 2) pa_nil))
            · exact (pg_name (i := 7) sc_law_net.nd rfl (.inl rfl))
            · apply pss_cons
              · exact (ps_set (i := 8) sc_law_net.nd rfl (.inl rfl) (pe_lst (pa_cons pe_int (pa_cons (pe_callTy call_int1 (by rfl) T.n_int (by decide +kernel) (pa_cons (pe_cmpR op_eq (pv 7) (pe_op op_modX (pe_op op_add (pv 3) pe_int) (pv 2)) (by rfl)) pa_nil)) (pa_cons (pe_callTy call_int1 (by rfl) T.n_int (by decide +kernel) (pa_cons (pe_cmpR op_eq (pe_callB call_abs (by rfl) T.n_abs (by decide +kernel) (pa_cons (pe_op op_sub (pv 3) (pv 7)) pa_nil)) pe_int (by rfl)) pa_nil)) (pa_cons (pe_call (ok_law_draw T) (hr.mono (by decide)) (by rfl) T.m_law_draw T.F_law_draw.kp T.b_law_draw .nil pass0 (pa_cons (pv 0) (pa_cons pe_int pa_nil))) pa_nil))))))
              apply pss_cons
              · exact (ps_expr (k_bm (K := K) rfl (pe_bm PySem.F.plainAttrs_list PySem.F.slot_list_append PySem.F.type_list_append mt_append (pv 8) (pa_cons (pe_callTy call_int1 (by rfl) T.n_int (by decide +kernel) (pa_cons (pe_cmpR op_eq (pe_call (ok_law_draw T) (hr.mono (by decide)) (by rfl) T.m_law_draw T.F_law_draw.kp T.b_law_draw .nil pass0 (pa_cons (pv 0) (pa_cons pe_int pa_nil))) pe_int (by rfl)) pa_nil)) pa_nil))))
              apply pss_one
              apply ps_if
              · exact (PW.pt (pw_and (pt_cmpR op_ne (pv 7) (pv 3) (by rfl)) (pw_and1 (pt_cmpR op_eq (pe_ix (k_ix_list (K := K) rfl) (pv 8) (pv 4) (fun _ _ => rfl)) pe_int (by rfl)))))
              · apply pss_one
                exact (ps_expr (k_bm (K := K) rfl (pe_bm PySem.F.plainAttrs_list PySem.F.slot_list_append PySem.F.type_list_append mt_append (pv 6) (pa_cons (pv 7) pa_nil))))
              · exact pss_nil
          apply pss_one
          exact (ps_expr (k_bm (K := K) rfl (pe_bm PySem.F.plainAttrs_list PySem.F.slot_list_append PySem.F.type_list_append mt_append (pv 5) (pa_cons (pv 6) pa_nil))))
      apply pss_one
      exact (ps_ret (pv 5))
    obtain ⟨ob, hob⟩ := hB.some
    refine seq_asg (fun v H' => ∃ m : Nat, v = .int m ∧ 1 ≤ m ∧ m ≤ mo ∧ Fx b H H' ∧ BagAt H' b (c + 3)) (fun R hR => ?_) (fun v H1 hC => ?_)
    · walk_at "sx"
      refine ⟨b, _, _, rfl, by omega, big_of (by omega), hB, by omega, fun r1 H1 r10 r11 f1 b1 => ?_⟩
      walk_at "sx"
      refine ⟨_, _, ⟨rfl, rfl⟩, ?_⟩
      refine ⟨b, _, _, rfl, by split <;> omega, big_of (by split <;> omega), b1, by omega, fun r2 H2 r20 r21 f2 b2 => ?_⟩
      have r22 : r2 < mo := by split at r21 <;> omega
      walk_at "sx"
      refine ⟨sz_ok (by omega), fun z nz => ?_⟩
      have ez := Ex.new nz (o := .lst [V.int (1 + r1), V.int (1 + r2), V.int mo])
      refine ⟨b, _, _, rfl, by omega, big_of (by omega), b2.ex ez, by omega, fun r3 H3 r30 r31 f3 b3 => ?_⟩
      obtain ⟨x, hx, em⟩ := pickI (ns := [1 + r1, 1 + r2, (mo : Int)]) r30 r31
      simp only [List.mem_cons, List.mem_nil_iff, or_false] at hx
      refine ixL (.inl (.inl (f3 _ _ (b2.apart nz) upd_same))) em ?_
      exact hR _ _ ⟨x.toNat, by rw [Int.toNat_of_nonneg (by omega)], by omega, by omega, ((f1.trans f2).trans (Fx.of ez)).trans f3, b3⟩
    obtain ⟨m, rfl, n1, n2, f1, b1⟩ := hC
    simp only [L2.start, List.map_cons, List.map_nil, List.set_cons_zero, List.set_cons_succ]
    refine seq_cut (fun σ' H' => ∃ (st : Int) (f : Addr), σ' = [some (.ref b), some (.int mo), some (.int m), none, some (.int st), some (.ref f), none, none, none] ∧ 0 ≤ st ∧ st < 5 ∧ Fx b H H' ∧ BagAt H' b (c + 4) ∧ GridN H H' f []) (fun N hN => ?_) (fun σ2 H2 hC => ?_)
    · walk_at "sx"
      refine ⟨b, _, _, rfl, by omega, big_of (by omega), b1, by omega, fun st H2 s0 s1 f2 b2 => ?_⟩
      refine ⟨sz_ok (by omega), fun f nf => ⟨_, _, ⟨rfl, rfl⟩, ?_⟩⟩
      have ef := Ex.new nf (o := .lst [])
      have nfb := b2.apart nf
      refine hN _ _ ⟨st, f, rfl, s0, s1, (f1.trans f2).trans (Fx.of ef), b2.ex ef, fx_none (f1.trans f2) nf nfb, [], upd_same, rfl, List.nodup_nil, List.not_mem_nil, fun i p e => by simp at e⟩
    obtain ⟨st, f, rfl, s0, s1, f2, b2, g2⟩ := hC
    walk_at "sx"
    refine ⟨by omega, by omega, ?_⟩
    rw [Int.toNat_natCast]
    refine lg_rng (JNe H b mo m c st) ⟨none, f, none, none, none, [], rfl, f2, by simpa using b2, g2, rfl, fun i r e => by simp at e⟩ (fun i σ' H' hi hP => ?_) (fun σ' H' hP => ?_)
    · obtain ⟨l3, f, l6, l7, l8, G, rfl, fx, hb, gn, gl, rok⟩ := hP
      rw [show (0 : Int) + (i : Int) = (i : Int) by omega]
      simp only [x_gn, List.set_cons_zero, List.set_cons_succ]
      have mi : 2 * m * i ≤ 264 := by
        have a : m * i ≤ 12 * 11 := Nat.mul_le_mul (by omega) (by omega)
        have e : 2 * m * i = 2 * (m * i) := Nat.mul_assoc 2 m i
        omega
      refine seq_asg (fun v H1 => ∃ r, v = .ref r ∧ H' r = none ∧ Ex H' H1 ∧ H1 r = some (.lst [])) (fun R hR => ?_) (fun v H1 hC => ?_)
      · walk_at "sx"
        exact ⟨sz_ok (by omega), fun r nr => hR _ _ ⟨r, rfl, nr, Ex.new nr, upd_same⟩⟩
      obtain ⟨r, rfl, nr, e1, hr⟩ := hC
      have nrb := hb.apart nr
      refine seq_cut (fun σ' H2 => ∃ l7 l8 R, σ' = [some (.ref b), some (.int mo), some (.int m), some (.int (i : Int)), some (.int st), some (.ref f), some (.ref r), l7, l8] ∧ Fx b H' H2 ∧ BagAt H2 b (c + 4 + 2 * m * i + 2 * m) ∧ H2 r = some (.lst ((nz R).map V.int)) ∧ R.Pairwise (· < ·) ∧ (∀ x ∈ R, x < m) ∧ i ∉ R) (fun N hN => ?_) (fun σ2 H2 hC => ?_)
      · walk_at "sx"
        refine ⟨by omega, by omega, ?_⟩
        rw [Int.toNat_natCast]
        refine lg_rng (JRo H' b mo m c st f r i) ⟨l7, l8, [], rfl, Fx.of e1, hb.ex e1, hr, List.Pairwise.nil, fun x h => (List.not_mem_nil h).elim, List.not_mem_nil⟩ (fun j σ' H3 hj hP => ?_) (fun σ' H3 hP => ?_)
        · obtain ⟨l7, l8, R, rfl, fx3, b3, hr3, pw, lt, no⟩ := hP
          rw [show (0 : Int) + (j : Int) = (j : Int) by omega]
          simp only [x_gn, List.set_cons_zero, List.set_cons_succ]
          refine seq_asg (fun v H4 => ∃ p a0 a1 a2 a3 : Int, ∃ q, v = .ref q ∧ H3 q = none ∧ Fx b H3 H4 ∧ BagAt H4 b (c + 4 + 2 * m * i + 2 * j + 1) ∧ H4 q = some (.lst [.int a0, .int a1, .int a2, .int a3])) (fun R' hR => ?_) (fun v H4 hC => ?_)
          · walk_at "sx"
            have mm : (0 : Int) < (m : Int) := by omega
            refine ⟨mm, .inr ?_⟩
            refine .inr ?_
            refine ⟨b, _, _, rfl, by omega, big_of (by omega), b3, by omega, fun r4 H4 r40 r41 f4 b4 => ?_⟩
            refine ⟨sz_ok (by simp), fun q nq => ?_⟩
            exact hR _ _ ⟨0, _, _, _, _, q, rfl, fx_none f4 nq (b4.apart nq), f4.trans (Fx.of (Ex.new nq)), b4.ex (Ex.new nq), upd_same⟩
          obtain ⟨_, a0, a1, a2, a3, q, rfl, nq, f4, b4, hq⟩ := hC
          have nqb := b3.apart nq
          refine seq_cut (fun σ' H5 => σ' = [some (.ref b), some (.int mo), some (.int m), some (.int (i : Int)), some (.int st), some (.ref f), some (.ref r), some (.int (j : Int)), some (.ref q)] ∧ Fx b H3 H5 ∧ BagAt H5 b (c + 4 + 2 * m * i + 2 * j + 2) ∧ ∃ a4 : Int, H5 q = some (.lst [.int a0, .int a1, .int a2, .int a3, .int a4])) (fun N2 hN2 => ?_) (fun σ5 H5 hC => ?_)
          · walk_at "sx"
            refine ⟨tyL hq, ?_⟩
            refine ⟨b, _, _, rfl, by omega, big_of (by omega), b4, by omega, fun r5 H5 r50 r51 f5 b5 => ?_⟩
            walk_at "sx"
            refine .inr ?_
            refine appL (f5 _ _ nqb hq) (BC.sz_lt (by simp)) ?_
            exact hN2 _ _ ⟨rfl, (f4.trans f5).mut nq, b5.off nqb, _, upd_same⟩
          obtain ⟨rfl, f5, b5, a4, hq5⟩ := hC
          obtain ⟨pk, _, epk⟩ := pickI (ns := [a0, a1, a2, a3, a4]) s0 s1
          have hr5 := f5 _ _ nrb hr3
          have nqr : q ≠ r := Ne.symm (ne_of_none hr3 nq)
          walk_at "sx"
          by_cases c1 : (j : Int) = (i : Int)
          · rw [decide_eq_true c1]
            walk_at "sx"
            exact ⟨_, _, R, rfl, fx3.trans f5, b5, hr5, pw, fun x hx => by have := lt x hx; omega, no⟩
          · rw [decide_eq_false c1]
            walk_at "sx"
            refine ixL (.inl (.inl hq5)) epk ?_
            walk_at "sx"
            by_cases c2 : pk = 1
            · rw [if_pos c2]
              have rl : R.length ≤ j := nodup_lt j (asc_nodup pw) lt
              refine ⟨tyL hr5, appL hr5 (BC.sz_lt (by rw [List.length_map, nz_len]; omega)) ?_⟩
              rw [nz_v]
              refine ⟨_, _, R ++ [j], rfl, (fx3.trans f5).mut nr, b5.off nrb, upd_same, ?_, fun x hx => ?_, fun hx => ?_⟩
              · rw [List.pairwise_append]
                refine ⟨pw, List.pairwise_singleton _ _, fun x hx y hy => ?_⟩
                rw [List.mem_singleton.mp hy]
                exact lt x hx
              · rcases List.mem_append.mp hx with h | h
                · have := lt x h; omega
                · rw [List.mem_singleton.mp h]; omega
              · rcases List.mem_append.mp hx with h | h
                · exact no h
                · have := List.mem_singleton.mp h
                  omega
            · rw [if_neg c2]
              exact ⟨_, _, R, rfl, fx3.trans f5, b5, hr5, pw, fun x hx => by have := lt x hx; omega, no⟩
        · obtain ⟨l7, l8, R, rfl, fx3, b3, hr3, pw, lt, no⟩ := hP
          exact hN _ _ ⟨_, _, R, rfl, fx3, b3, hr3, pw, lt, no⟩
      obtain ⟨l7', l8', R, rfl, f12, b12, hr2, pw, lt, no⟩ := hC
      have nw := Nw.fx hob f12
      have nrH : H r = none := fx_none fx nr nrb
      obtain ⟨xs, hf, xl, g3⟩ := gn.push nrH nr nw hr2
      walk_at "sx"
      refine ⟨tyL hf, appL hf (BC.sz_lt (by omega)) ?_⟩
      have nfb : f ≠ b := fun e => by subst e; rw [gn.1] at hob; cases hob
      refine ⟨_, f, _, _, _, G ++ [R], rfl, (fx.trans f12).mut gn.1, ((b12.off nfb).mono ?_), g3, by rw [List.length_append, List.length_singleton, gl], fun u x e => ?_⟩
      · have e : 2 * m * (i + 1) = 2 * m * i + 2 * m := Nat.mul_succ (2 * m) i
        omega
      · by_cases hu : u < G.length
        · rw [List.getElem?_append_left hu] at e
          exact rok u x e
        · rw [List.getElem?_append_right (by omega)] at e
          have hu2 : u - G.length = 0 := by
            have := (List.getElem?_eq_some_iff.mp e).1
            rw [List.length_singleton] at this
            omega
          rw [hu2] at e
          obtain rfl : R = x := by simpa using e
          have : u = i := by omega
          subst this
          exact ⟨pw, lt, no⟩
    · obtain ⟨l3, f, l6, l7, l8, G, rfl, fx, hb, gn, gl, rok⟩ := hP
      walk_at "sx"
      have mi : 2 * m * m ≤ 288 := by
        have a : m * m ≤ 12 * 12 := Nat.mul_le_mul (by omega) (by omega)
        have e : 2 * m * m = 2 * (m * m) := Nat.mul_assoc 2 m m
        omega
      exact k f G _ fx (hb.mono (by omega)) gn ⟨by omega, by omega, fun i r e => (rok i r e).1, fun i r e x hx => by rw [gl]; exact (rok i r e).2.1 x hx, fun i r e => (rok i r e).2.2⟩ (by omega)
end
section
variable {P : Program} {w : World} {K : PySem.W.Frag} {mg : Str → Option Value} {base : Heap}
theorem site_bad {ds : List PyData} {j : Nat} (hj : j < ds.length) (h : isRowD j ds.length (ds.getD j .none) = false) : isSiteD (.list ds) = false := by
  show (if 1 ≤ ds.length ∧ ds.length ≤ 12 then (List.range ds.length).all fun i => isRowD i ds.length (ds.getD i .none) else false) = false
  split
  · rw [List.all_eq_false]
    exact ⟨j, List.mem_range.mpr hj, by rw [h]; exact Bool.false_ne_true⟩
  · rfl
theorem site_good {ds : List PyData} (h1 : 1 ≤ ds.length) (h2 : ds.length ≤ 12) (h : ∀ j, j < ds.length → isRowD j ds.length (ds.getD j .none) = true) : isSiteD (.list ds) = true := by
  show (if 1 ≤ ds.length ∧ ds.length ≤ 12 then (List.range ds.length).all fun i => isRowD i ds.length (ds.getD i .none) else false) = true
  rw [if_pos ⟨h1, h2⟩, List.all_eq_true]
  exact fun j hj => h j (List.mem_range.mp hj)
def spIsNet (K : PySem.W.Frag) : Sp := fun vs H Q _ => ∃ (v : V) (d : PyData), vs = [v] ∧ De K H v d ∧ ∀ H', Ex H H' → Q (.bl (isSiteD d)) H'
def JNo (H : Hp) (a : Addr) (ds : List PyData) (i : Nat) (σ' : L2.St) (H' : Hp) : Prop := ∃ l1 l2 l3 l4, σ' = [some (.ref a), l1, l2, l3, l4] ∧ Ex H H' ∧ ∀ j, j < i → isRowD j ds.length (ds.getD j .none) = true
def JNi (H : Hp) (a : Addr) (i : Nat) (r : V) (m : Int) (es : List PyData) (j : Nat) (σ' : L2.St) (H' : Hp) : Prop := ∃ p l4, σ' = [some (.ref a), some (.int (i : Nat)), some r, some (.int p), l4] ∧ Ex H H' ∧ -1 ≤ p ∧ netRow m i (-1) es = netRow m i p (es.drop j)
theorem ok_law_is_net (T : Txt K mg) : FnOk P w K mg base CX0 1 T.f_law_is_net T.fd_law_is_net ["_law_value"] (spIsNet K) := by
  refine T.F_law_is_net.ok sc_law_is_net (fun vs H Q E h => ?_) (fun cdv A outer s H vs Q E hr h => ?_)
  · obtain ⟨v, d, rfl, _⟩ := h
    rfl
  · obtain ⟨v, d, rfl, hd, k⟩ := h
    apply Exists.intro
    apply And.intro
    · apply pss_cons
      · apply ps_if
        · exact (PW.pt (pw_or (pt_not (pt_val (pe_callB (k_isi (K := K) rfl) (by rfl) T.n_isinstance (by decide +kernel) (pa_cons (pv 0) (pa_cons (pe_bltn (v := .ty "list") (by rfl) T.n_list (by decide +kernel) rfl) pa_nil))))) (pw_or (pt_cmpR (k_eqNil (K := K) rfl hr.units) (pv 0) (pe_lst pa_nil) (by rfl)) (pw_or1 (pt_cmpR op_gt (pe_callB (k_len (K := K) rfl) (by rfl) T.n_len PySem.boot_len (pa_cons (pv 0) pa_nil)) pe_int (by rfl))))))
        · apply pss_one
          exact (ps_ret pe_bl)
        · exact pss_nil
      apply pss_cons
      · apply ps_for PassesOwn.never rfl
        · exact (k_pi_enum (K := K) rfl (by rfl) T.n_enumerate (pa_cons (pv 0) pa_nil))
        · exact (k_tup (K := K) (n := 2) rfl rfl (pgs_cons (pg_name (i := 1) sc_law_is_net.nd rfl (.inl rfl)) (pgs_cons (pg_name (i := 2) sc_law_is_net.nd rfl (.inl rfl)) pgs_nil)))
        · apply pss_cons
          · apply ps_if
            · exact (pt_not (pt_val (pe_callB (k_isi (K := K) rfl) (by rfl) T.n_isinstance (by decide +kernel) (pa_cons (pv 2) (pa_cons (pe_bltn (v := .ty "list") (by rfl) T.n_list (by decide +kernel) rfl) pa_nil)))))
            · apply pss_one
              exact (ps_ret pe_bl)
            · exact pss_nil
          apply pss_cons
          · exact (ps_set (i := 3) sc_law_is_net.nd rfl (.inl rfl) (pe_un un_neg pe_int))
          apply pss_one
          apply ps_for PassesOwn.never rfl
          · exact (k_pi_list (K := K) rfl (pv 2))
          · exact (pg_name (i := 4) sc_law_is_net.nd rfl (.inl rfl))
          · apply pss_cons
            · apply ps_if
              · exact (PW.pt (pw_or (pt_val (pe_callB (k_isi (K := K) rfl) (by rfl) T.n_isinstance (by decide +kernel) (pa_cons (pv 4) (pa_cons (pe_bltn (v := .ty "bool") (by rfl) T.n_bool (by decide +kernel) rfl) pa_nil)))) (pw_or (pt_not (pt_val (pe_callB (k_isi (K := K) rfl) (by rfl) T.n_isinstance (by decide +kernel) (pa_cons (pv 4) (pa_cons (pe_bltn (v := .ty "int") (by rfl) T.n_int (by decide +kernel) rfl) pa_nil))))) (pw_or (pt_cmpR op_le (pv 4) (pv 3) (by rfl)) (pw_or1 (pt_cmpR op_ge (pv 4) (pe_callB (k_len (K := K) rfl) (by rfl) T.n_len PySem.boot_len (pa_cons (pv 0) pa_nil)) (by rfl)))))))
              · apply pss_one
                exact (ps_ret pe_bl)
              · exact pss_nil
            apply pss_cons
            · apply ps_if
              · exact (pt_cmpR op_eq (pv 4) (pv 1) (by rfl))
              · apply pss_one
                exact (ps_ret pe_bl)
              · exact pss_nil
            apply pss_one
            exact (ps_set (i := 3) sc_law_is_net.nd rfl (.inl rfl) (pv 4))
      apply pss_one
      exact (ps_ret pe_bl)
    have k0 := k H (Ex.refl H)
    walk_at "sx"
    cases hd with
    | @lst a xs ds hA hx =>
      have ln := hx.len
      refine isi_x (b := true) (tyx_l hA) (by decide +kernel) ?_
      walk_at "sx"
      refine ⟨sz_ok (by omega), fun z nz1 => ?_⟩
      have ez := Ex.new nz1 (o := .lst [])
      refine eqNil (ex_l ez hA) (.inl (.inl upd_same)) ?_
      walk_at "sx"
      by_cases c0 : xs = []
      · rw [if_pos c0]
        have := k _ ez
        have e0 : ds = [] := List.length_eq_zero_iff.mp (by rw [← ln, c0]; rfl)
        rwa [e0, show isSiteD (.list []) = false from rfl] at this
      rw [if_neg c0]
      have p1 : 1 ≤ ds.length := by
        have := List.length_pos_iff.mpr c0
        omega
      refine lenL (ex_l ez hA) ?_
      walk_at "sx"
      by_cases c1 : ((xs.length : Nat) : Int) > 12
      · rw [if_pos c1]
        have := k _ ez
        rwa [show isSiteD (.list ds) = false from if_neg (by omega)] at this
      rw [if_neg c1]
      generalize hH1 : upd H z (.lst []) = H1 at ez ⊢
      have hA1 := ex_l ez hA
      refine ⟨_, hA1, ?_⟩
      refine lg_enum (xs := xs) (JNo H1 a ds) ⟨_, _, _, _, rfl, Ex.refl _, fun j hj => by omega⟩ (fun i σ' H' hi hP => by obtain ⟨_, _, _, _, _, e, _⟩ := hP; exact ex_l e hA1) (fun i x σ' H' T hv hP nT => ?_) (fun σ' H' hP => ?_)
      · obtain ⟨l1, l2, l3, l4, rfl, e1, hrow⟩ := hP
        obtain ⟨d, hdi, hde⟩ := hx.at hv
        have hi : i < ds.length := (List.getElem?_eq_some_iff.mp hdi).1
        have hg : ds.getD i .none = d := by rw [List.getD_eq_getElem?_getD, hdi]; rfl
        refine g_two upd_same ?_
        have eT := Ex.new nT (o := .tup [V.int (i : Nat), x])
        generalize hHT : upd H' T (.tup [V.int (i : Nat), x]) = HT at eT ⊢
        have E1 := e1.trans eT
        have hdT := De.ex (ez.trans E1) _ _ hde
        have bad : isRowD i ds.length d = false → ∀ H2, Ex HT H2 → Q (.bl false) H2 := fun hb H2 e2 => by
          have := k H2 ((ez.trans E1).trans e2)
          rwa [site_bad hi (by rw [hg]; exact hb)] at this
        walk_at "sx"
        cases hdT with
        | @lst ra ys es hR hy =>
          refine isi_x (b := true) (tyx_l hR) (by decide +kernel) ?_
          walk_at "sx"
          refine ⟨⟨_, hR⟩, ?_⟩
          refine lg_list (xs := ys) (JNi HT a i (.ref ra) ds.length es) ⟨-1, _, rfl, Ex.refl _, by omega, rfl⟩ (fun j σ' H' _ hP => by obtain ⟨_, _, _, e, _⟩ := hP; exact ex_l e hR) (fun j y σ' H2 hj hP => ?_) (fun σ' H2 hP => ?_)
          · obtain ⟨p, l4, rfl, e2, hp, hn⟩ := hP
            obtain ⟨f, hf, hfe⟩ := hy.at hj
            have hfj := (List.getElem?_eq_some_iff.mp hf).1
            rw [show es.drop j = f :: es.drop (j + 1) by rw [List.drop_eq_getElem_cons hfj, (List.getElem?_eq_some_iff.mp hf).2]] at hn
            have hlen := ex_l e2 (ex_l E1 hA1)
            have bad2 : netRow ds.length i p (f :: es.drop (j + 1)) = false → Q (.bl false) H2 := fun hb => bad (by rw [← netRow_row, hn]; exact hb) _ e2
            walk_at "sx"
            cases hfe with
            | int n =>
              refine isi_int (b := false) (by decide +kernel) ?_
              walk_at "sx"
              refine isi_int (b := true) (by decide +kernel) ?_
              walk_at "sx"
              by_cases c2 : n ≤ p
              · rw [if_pos c2]
                exact bad2 (if_pos (.inl c2))
              rw [if_neg c2]
              refine lenL hlen ?_
              walk_at "sx"
              by_cases c3 : n ≥ ((xs.length : Nat) : Int)
              · rw [if_pos c3]
                exact bad2 (if_pos (.inr (by omega)))
              rw [if_neg c3]
              have e3 : netRow ds.length i p (.int n :: es.drop (j + 1)) = if n = (i : Int) then false else netRow ds.length i n (es.drop (j + 1)) := if_neg (by omega)
              by_cases c4 : n = ((i : Nat) : Int)
              · walk_at "sx"
                rw [if_pos c4]
                exact bad2 (by rw [e3, if_pos c4])
              walk_at "sx"
              rw [if_neg c4]
              rw [e3, if_neg c4] at hn
              exact ⟨n, _, rfl, e2, by omega, hn⟩
            | bl b => exact isi_x (b := true) (.base (.bl b)) (by decide +kernel) (by walk_at "sx"; exact bad2 rfl)
            | non => exact isi_x (b := false) (.base .non) (by decide +kernel) (by walk_at "sx"; exact isi_x (b := false) (.base .non) (by decide +kernel) (by walk_at "sx"; exact bad2 rfl))
            | str z => exact isi_x (b := false) (.base (.str z)) (by decide +kernel) (by walk_at "sx"; exact isi_x (b := false) (.base (.str z)) (by decide +kernel) (by walk_at "sx"; exact bad2 rfl))
            | lst h1 h2 => exact isi_x (b := false) (tyx_l (ex_l e2 h1)) (by decide +kernel) (by walk_at "sx"; exact isi_x (b := false) (tyx_l (ex_l e2 h1)) (by decide +kernel) (by walk_at "sx"; exact bad2 rfl))
            | tup h1 h2 => exact isi_x (b := false) (tyx_t (ex_t e2 h1)) (by decide +kernel) (by walk_at "sx"; exact isi_x (b := false) (tyx_t (ex_t e2 h1)) (by decide +kernel) (by walk_at "sx"; exact bad2 rfl))
            | dic h1 => exact isi_x (b := false) (.base (.dK (e2 _ _ h1))) (by decide +kernel) (by walk_at "sx"; exact isi_x (b := false) (.base (.dK (e2 _ _ h1))) (by decide +kernel) (by walk_at "sx"; exact bad2 rfl))
          · obtain ⟨p, l4, rfl, e2, hp, hn⟩ := hP
            have ly := hy.len
            rw [ly, List.drop_length, netRow_row] at hn
            refine ⟨_, _, _, _, rfl, E1.trans e2, fun j hj => ?_⟩
            rcases Nat.lt_or_ge j i with q | q
            · exact hrow j q
            · obtain rfl : j = i := by omega
              rw [hg]
              exact hn
        | non => exact isi_x (b := false) (.base .non) (by decide +kernel) (by walk_at "sx"; exact bad rfl _ (Ex.refl _))
        | bl b => exact isi_x (b := false) (.base (.bl b)) (by decide +kernel) (by walk_at "sx"; exact bad rfl _ (Ex.refl _))
        | int i => exact isi_x (b := false) (.base (.int i)) (by decide +kernel) (by walk_at "sx"; exact bad rfl _ (Ex.refl _))
        | str x => exact isi_x (b := false) (.base (.str x)) (by decide +kernel) (by walk_at "sx"; exact bad rfl _ (Ex.refl _))
        | tup h1 h2 => exact isi_x (b := false) (tyx_t h1) (by decide +kernel) (by walk_at "sx"; exact bad rfl _ (Ex.refl _))
        | dic h1 => exact isi_x (b := false) (.base (.dK h1)) (by decide +kernel) (by walk_at "sx"; exact bad rfl _ (Ex.refl _))
      · obtain ⟨l1, l2, l3, l4, rfl, e1, hrow⟩ := hP
        walk_at "sx"
        rw [ln] at hrow
        have := k _ (ez.trans e1)
        rwa [site_good p1 (by omega) hrow] at this
    | non => exact isi_x (b := false) (.base .non) (by decide +kernel) (by walk_at "sx"; exact k0)
    | bl b => exact isi_x (b := false) (.base (.bl b)) (by decide +kernel) (by walk_at "sx"; exact k0)
    | int i => exact isi_x (b := false) (.base (.int i)) (by decide +kernel) (by walk_at "sx"; exact k0)
    | str x => exact isi_x (b := false) (.base (.str x)) (by decide +kernel) (by walk_at "sx"; exact k0)
    | tup h1 h2 => exact isi_x (b := false) (tyx_t h1) (by decide +kernel) (by walk_at "sx"; exact k0)
    | dic h1 => exact isi_x (b := false) (.base (.dK h1)) (by decide +kernel) (by walk_at "sx"; exact k0)
end
end LW

set_option Elab.async false
set_option linter.all false
set_option maxRecDepth 100000
set_option maxHeartbeats 4000000
namespace LW
open PySem PySem.Spec PyProof.Rows L2 BC Evl TR
local macro_rules | `(tactic| walk_at "sx") => `(tactic| try simp only [x_seq, x_next, x_brk, x_cnt, x_nev, x_ret, x_retN, x_drop, x_ifS, x_asg, x_gn, x_gsub, x_par, x_par3, x_aug, x_for, x_lc, x_rng1, x_rng2, x_rng3, x_ilist, x_itup, x_ienum, x_izip, x_izipA, x_istr, x_var, x_c, x_op, x_un, x_test, x_b, x_chain, x_and, x_or, x_not, x_andV, x_orV, x_notV, x_ife, x_nil, x_cons, x_lst, x_tup, x_cb, x_call, x_callK, x_bm, x_bm0, x_tru, x_sl, x_nopart, x_part, x_revL, x_I0, x_I, x_U, x_ip, x_ipC, x_eqI, x_neI, x_eqB, x_neB, x_eqS, x_neS, x_isB, x_isNB, x_lrg, x_gall, x_lenSet, x_augS, x_sortSet, x_sortSetB, x_lenSetA, x_rg1, x_rg2,
  L2.start, List.map_cons, List.map_nil, List.length_cons, List.length_nil, Nat.reduceAdd, Nat.reduceSub, Nat.sub_self, Nat.zero_add, List.replicate, List.replicate_succ, List.replicate_zero, List.append_nil, List.cons_append, List.nil_append, List.set_cons_zero, List.set_cons_succ, List.getElem?_cons_zero, List.getElem?_cons_succ, Option.some.injEq, V.int.injEq, V.bl.injEq, V.ref.injEq, V.str.injEq, List.cons.injEq, and_true, true_and, exists_eq_left', exists_eq_left, exists_and_left, exists_eq, if_true, if_false, ite_true, ite_false, Bool.true_eq_false, Bool.false_eq_true, reduceIte, reduceCtorEq, Bool.not_true, Bool.not_false, decide_true, decide_false, decide_eq_true_eq, Bool.and_true, Bool.true_and, Bool.and_self, Bool.and_false, Bool.false_and, Bool.or_self, Bool.or_false, Bool.false_or, Bool.or_true, Bool.true_or, eq_self])
section
variable {P : Program} {w : World} {K : PySem.W.Frag} {mg : Str → Option Value} {base : Heap}
theorem hid_at {b p : Addr} {H : Hp} {o : HO} (n : p ≠ b) (h : H p = some o) : hidB b H p = some o := by rw [hid_ne n]; exact h
theorem hid_grid {b s : Addr} {H0 H : Hp} {G : Grid} {ob : HO} (h : GridN H0 H s G) (hb : H0 b = some ob) : GridAt (hidB b H) s G := by
  obtain ⟨h0, ps, h1, h2, h4, h5, h3⟩ := h
  have nb : ∀ {x : Addr}, H0 x = none → x ≠ b := fun n e => by subst e; rw [hb] at n; cases n
  exact ⟨ps, hid_at (nb h0) h1, h2, fun i p e => hid_at (nb (h3 i p e).1) (h3 i p e).2⟩
theorem site_small {G : Grid} (ok : SiteOk G) : ∀ i, (row G i).length ≤ 12 ∧ ∀ x ∈ row G i, x < 256 := fun i => by
  refine ⟨ok.rlen i, fun x hx => ?_⟩
  have := ok.n2
  by_cases hi : i < G.length
  · have := ok.lt i _ (at_row hi) x hx
    omega
  · unfold row at hx
    rw [List.getD_eq_getElem?_getD, List.getElem?_eq_none (by omega)] at hx
    cases hx
def spBad (K : PySem.W.Frag) : Sp := fun vs H Q _ => ∃ (b s : Addr) (G : Grid) (c : Nat) (H0 : Hp) (ob : HO), vs = [.ref b, .ref s] ∧ GridN H0 H s G ∧ H0 b = some ob ∧ SiteOk G ∧ BagAt H b c ∧ c ≤ 900000 ∧
  ∀ v H', Fx b H H' → BagAt H' b (c + 7) → Sr K H' 5 300000 v → Q v H'
theorem ok_law_bad_net (T : Txt K mg) : FnOk P w K mg base CX0 2 T.f_law_bad_net T.fd_law_bad_net ["_law_source_here", "_law_net_here"] (spBad K) := by
  refine T.F_law_bad_net.ok sc_law_bad_net (fun vs H Q E h => ?_) (fun cdv A outer s H vs Q E hr h => ?_)
  · obtain ⟨b, s, G, c, H0, ob, rfl, _⟩ := h
    rfl
  · obtain ⟨b, s, G, c, H0, ob, rfl, hG, hb0, ok, hB, hc, k⟩ := h
    apply Exists.intro
    apply And.intro
    · apply pss_cons
      · exact (ps_par (i := 7) (j := 8) (by rfl) sc_law_bad_net.nd rfl rfl (by decide) rfl rfl (pa_cons (pe_call (ok_law_draw T) (hr.mono (by decide)) (by rfl) T.m_law_draw T.F_law_draw.kp T.b_law_draw .nil pass0 (pa_cons (pv 0) (pa_cons (pe_callB (k_len (K := K) rfl) (by rfl) T.n_len PySem.boot_len (pa_cons (pv 1) pa_nil)) pa_nil))) (pa_cons (pe_callB (k_len (K := K) rfl) (by rfl) T.n_len PySem.boot_len (pa_cons (pv 1) pa_nil)) pa_nil)) (by rfl))
      apply pss_cons
      · exact (ps_set (i := 2) sc_law_bad_net.nd rfl (.inl rfl) (pe_lst (pa_cons (pv 8) (pa_cons (pe_op op_add (pv 8) pe_int) (pa_cons (pe_un un_neg pe_int) (pa_cons (pe_un un_neg pe_int) (pa_cons (pe_op op_sub pe_int (pv 8)) (pa_cons (pv 7) (pa_cons pe_bl (pa_cons pe_bl (pa_cons pe_non (pa_cons pe_str (pa_cons (pe_lst (pa_cons pe_int pa_nil)) (pa_cons (pe_tup (pa_cons pe_int pa_nil)) (pa_cons (pe_op op_powX pe_int pe_int) (pa_cons pe_int pa_nil))))))))))))))))
      apply pss_cons
      · exact (ps_set (i := 2) sc_law_bad_net.nd rfl (.inl rfl) (pe_ix (k_ix_list (K := K) rfl) (pv 2) (pe_call (ok_law_draw T) (hr.mono (by decide)) (by rfl) T.m_law_draw T.F_law_draw.kp T.b_law_draw .nil pass0 (pa_cons (pv 0) (pa_cons pe_int pa_nil))) (fun _ _ => rfl)))
      apply pss_cons
      · exact (ps_set (i := 3) sc_law_bad_net.nd rfl (.inl rfl) (pe_call (ok_law_draw T) (hr.mono (by decide)) (by rfl) T.m_law_draw T.F_law_draw.kp T.b_law_draw .nil pass0 (pa_cons (pv 0) (pa_cons (pe_op op_add (pe_callB (k_len (K := K) rfl) (by rfl) T.n_len PySem.boot_len (pa_cons (pe_ix (k_ix_list (K := K) rfl) (pv 1) (pv 7) (fun _ _ => rfl)) pa_nil)) pe_int) pa_nil))))
      apply pss_cons
      · exact (ps_set (i := 4) sc_law_bad_net.nd rfl (.inl rfl) (pe_lst (pa_cons (pe_op op_cat (pe_op op_cat (pe_slice (k_sl_list (K := K) rfl) (pe_ix (k_ix_list (K := K) rfl) (pv 1) (pv 7) (fun _ _ => rfl)) po_none (po_some (pv 3))) (pe_lst (pa_cons (pv 2) pa_nil))) (pe_slice (k_sl_list (K := K) rfl) (pe_ix (k_ix_list (K := K) rfl) (pv 1) (pv 7) (fun _ _ => rfl)) (po_some (pv 3)) po_none)) (pa_cons (pe_op op_cat (pe_op op_cat (pe_slice (k_sl_list (K := K) rfl) (pe_ix (k_ix_list (K := K) rfl) (pv 1) (pv 7) (fun _ _ => rfl)) po_none (po_some (pv 3))) (pe_lst (pa_cons (pv 2) pa_nil))) (pe_slice (k_sl_list (K := K) rfl) (pe_ix (k_ix_list (K := K) rfl) (pv 1) (pv 7) (fun _ _ => rfl)) (po_some (pe_op op_add (pv 3) pe_int)) po_none)) (pa_cons (k_rev (K := K) rfl (pe_ix (k_ix_list (K := K) rfl) (pv 1) (pv 7) (fun _ _ => rfl))) pa_nil)))))
      apply pss_cons
      · exact (ps_set (i := 4) sc_law_bad_net.nd rfl (.inl rfl) (pe_op op_cat (pv 4) (pe_lst (pa_cons (pe_callTy (k_tupOf (K := K) rfl) (by rfl) T.n_tuple (by decide +kernel) (pa_cons (pe_ix (k_ix_list (K := K) rfl) (pv 1) (pv 7) (fun _ _ => rfl)) pa_nil)) (pa_cons pe_non (pa_cons pe_int (pa_cons pe_str (pa_cons pe_dnewK (pa_cons (pe_op op_rep (pe_ix (k_ix_list (K := K) rfl) (pv 1) (pv 7) (fun _ _ => rfl)) pe_int) (pa_cons (pe_lst (pa_cons (pe_ix (k_ix_list (K := K) rfl) (pv 1) (pv 7) (fun _ _ => rfl)) pa_nil)) (pa_cons (pe_op op_rep (pe_op op_cat (pe_ix (k_ix_list (K := K) rfl) (pv 1) (pv 7) (fun _ _ => rfl)) (pe_lst (pa_cons pe_int pa_nil))) pe_int) pa_nil)))))))))))
      apply pss_cons
      · exact (ps_set (i := 5) sc_law_bad_net.nd rfl (.inl rfl) (pe_ix (k_ix_list (K := K) rfl) (pv 4) (pe_ix (k_ix_list (K := K) rfl) (pe_lst (pa_cons pe_int (pa_cons pe_int (pa_cons (pe_call (ok_law_draw T) (hr.mono (by decide)) (by rfl) T.m_law_draw T.F_law_draw.kp T.b_law_draw .nil pass0 (pa_cons (pv 0) (pa_cons pe_int pa_nil))) pa_nil)))) (pe_call (ok_law_draw T) (hr.mono (by decide)) (by rfl) T.m_law_draw T.F_law_draw.kp T.b_law_draw .nil pass0 (pa_cons (pv 0) (pa_cons pe_int pa_nil))) (fun _ _ => rfl)) (fun _ _ => rfl)))
      apply pss_cons
      · exact (ps_set (i := 6) sc_law_bad_net.nd rfl (.inl rfl) (pe_lst (pa_cons (pe_op op_cat (pe_op op_cat (pe_slice (k_sl_list (K := K) rfl) (pv 1) po_none (po_some (pv 7))) (pe_lst (pa_cons (pv 5) pa_nil))) (pe_slice (k_sl_list (K := K) rfl) (pv 1) (po_some (pe_op op_add (pv 7) pe_int)) po_none)) (pa_cons (pe_op op_cat (pv 1) (pe_lst (pa_cons (pv 5) pa_nil))) (pa_cons (pe_lst pa_nil) (pa_cons (pe_callTy (k_tupOf (K := K) rfl) (by rfl) T.n_tuple (by decide +kernel) (pa_cons (pv 1) pa_nil)) (pa_cons pe_non (pa_cons pe_int (pa_cons pe_str (pa_cons pe_dnewK (pa_cons pe_bl pa_nil)))))))))))
      apply pss_cons
      · exact (ps_set (i := 6) sc_law_bad_net.nd rfl (.inl rfl) (pe_op op_cat (pv 6) (pe_lst (pa_cons (pe_op op_cat (pv 1) (pe_op op_rep (pe_lst (pa_cons (pe_lst pa_nil) pa_nil)) (pe_op op_sub pe_int (pv 8)))) (pa_cons (pe_op op_cat (pv 1) (pe_op op_rep (pe_lst (pa_cons (pe_lst (pa_cons pe_int pa_nil)) pa_nil)) pe_int)) (pa_cons (pe_lst (pa_cons (pv 1) pa_nil)) pa_nil))))))
      apply pss_one
      exact (ps_ret (pe_ix (k_ix_list (K := K) rfl) (pv 6) (pe_ix (k_ix_list (K := K) rfl) (pe_lst (pa_cons pe_int (pa_cons pe_int (pa_cons pe_int (pa_cons (pe_call (ok_law_draw T) (hr.mono (by decide)) (by rfl) T.m_law_draw T.F_law_draw.kp T.b_law_draw .nil pass0 (pa_cons (pv 0) (pa_cons pe_int pa_nil))) pa_nil))))) (pe_call (ok_law_draw T) (hr.mono (by decide)) (by rfl) T.m_law_draw T.F_law_draw.kp T.b_law_draw .nil pass0 (pa_cons (pv 0) (pa_cons pe_int pa_nil))) (fun _ _ => rfl)) (fun _ _ => rfl)))
    have n1 := ok.n1
    have n2 := ok.n2
    have small := site_small ok
    have nsb : s ≠ b := fun e => by subst e; have := hG.1; rw [hb0] at this; cases this
    have row255 : ∀ i, ∀ m ∈ nz (row G i), m.natAbs < 256 := fun i m hm => by
      obtain ⟨y, hy, rfl⟩ := List.mem_map.mp hm
      have := (small i).2 y hy
      show ((y : Nat) : Int).natAbs < 256
      omega
    have rowl : ∀ i, (nz (row G i)).length ≤ 12 := fun i => by rw [nz_len]; exact (small i).1
    refine seq_cut (fun σ' H' => ∃ j : Nat, σ' = [some (.ref b), some (.ref s), none, none, none, none, none, some (.int j), some (.int (G.length : Nat))] ∧ j < G.length ∧ Fx b H H' ∧ BagAt H' b (c + 1)) (fun N hN => ?_) (fun σ1 H1 hC => ?_)
    · obtain ⟨xs, hs, hl, _⟩ := hG.at.lst
      walk_at "sx"
      refine lenL (.inl (.inl hs)) ?_
      rw [hl]
      refine ⟨b, _, c, rfl, by omega, big_of (by omega), hB, by omega, fun r H1 r0 r1 f1 b1 => ?_⟩
      refine lenL (.inl (.inl (f1 _ _ nsb hs))) ?_
      rw [hl]
      refine ⟨_, _, ⟨rfl, rfl⟩, ?_⟩
      exact hN _ _ ⟨r.toNat, by rw [Int.toNat_of_nonneg r0], by omega, f1, b1⟩
    obtain ⟨j, rfl, hj, f1, b1⟩ := hC
    have hG1 := hG.nw (Nw.fx hb0 f1)
    refine seq_asg (fun v H2 => ∃ (o : Addr) (xs : List V), v = .ref o ∧ o ≠ b ∧ Ex H1 H2 ∧ H2 o = some (.lst xs) ∧ xs.length = 14 ∧ ∀ x ∈ xs, Sw K (hidB b H2) 1 131 x) (fun R hR => ?_) (fun v H2 hC => ?_)
    · walk_at "sx"
      refine ⟨sz_ok (by omega), fun y1 ny1 => ⟨sz_ok (by omega), fun y2 ny2 => ⟨⟨by decide, by decide, by decide⟩, sz_ok (by omega), fun y4 ny4 => ?_⟩⟩⟩
      have e1 := Ex.new ny1 (o := .lst [V.int 0])
      have e2 := Ex.new ny2 (o := .tup [V.int 0])
      have b2 := b1.ex e1
      have b3 := b2.ex e2
      have e4 := Ex.new ny4 (o := .lst [V.int (G.length : Nat), V.int ((G.length : Nat) + 1), V.int (-1), V.int (-2), V.int (0 - (G.length : Nat)), V.int (j : Nat), V.bl true, V.bl false, V.non, V.str (Str.ofString "0"), V.ref y1, V.ref y2, V.int (10 ^ Int.toNat 30), V.int 0])
      refine hR _ _ ⟨y4, _, rfl, b3.apart ny4, (e1.trans e2).trans e4, upd_same, rfl, fun x hx => ?_⟩
      simp only [List.mem_cons, List.mem_nil_iff, or_false] at hx
      rcases hx with rfl | rfl | rfl | rfl | rfl | rfl | rfl | rfl | rfl | rfl | rfl | rfl | rfl | rfl
      · exact .int (k := 8) (by omega) (by omega) (by omega) (by omega)
      · exact .int (k := 8) (by omega) (by omega) (by omega) (by omega)
      · exact .int (k := 8) (by decide) (by omega) (by omega) (by omega)
      · exact .int (k := 8) (by decide) (by omega) (by omega) (by omega)
      · exact .int (k := 8) (by omega) (by omega) (by omega) (by omega)
      · exact .int (k := 8) (by omega) (by omega) (by omega) (by omega)
      · exact .bl _
      · exact .bl _
      · exact .non
      · exact .str (by decide +kernel) (by decide +kernel)
      · exact Sw.row (ns := [0]) (.inl (.inl (hid_at (b1.apart ny1) (e4 _ _ (e2 _ _ upd_same))))) (fun z hz => by rw [List.mem_singleton.mp hz]; decide) (by simp) (by omega) (by simp)
      · refine Sw.tup (n := 0) (W := 8) (xs := [V.int 0]) (.inl (.inl (hid_at (b2.apart ny2) (e4 _ _ upd_same)))) (fun z hz => ?_) (by omega) (by simp)
        rw [List.mem_singleton.mp hz]; exact .int (k := 8) (by decide) (by omega) (by omega) (by omega)
      · exact .int (k := 128) (by decide +kernel) (by omega) (by omega) (by omega)
      · exact .int (k := 8) (by decide) (by omega) (by omega) (by omega)
    obtain ⟨o, xs, rfl, nob, e2, ho, hxs, hsv⟩ := hC
    have f2 := f1.trans (Fx.of e2)
    have b2 := b1.ex e2
    refine seq_asg (fun v H3 => Sw K (hidB b H3) 1 131 v ∧ Fx b H H3 ∧ BagAt H3 b (c + 2)) (fun R hR => ?_) (fun lk H3 hC => ?_)
    · walk_at "sx"
      refine ⟨b, _, _, rfl, by omega, big_of (by omega), b2, by omega, fun r H3 r0 r1 f3 b3 => ?_⟩
      have hr : xs[r.toNat]? = some xs[r.toNat] := List.getElem?_eq_getElem (by omega)
      refine ixL (.inl (.inl (f3 _ _ nob ho))) (atI_n (j := r.toNat) (by omega) hr) ?_
      exact hR _ _ ⟨(hsv _ (List.mem_of_getElem? hr)).ex (hid_fx f3), f2.trans f3, b3⟩
    obtain ⟨hlk, f3, b3⟩ := hC
    clear hsv ho e2 f2 b2 hG1 b1 f1
    have hG3 := hG.nw (Nw.fx hb0 f3)
    obtain ⟨p3, xs3, hs3, hl3, hat3, hp3⟩ := hG3.at.get hj
    refine seq_asg (fun v H4 => ∃ t : Nat, v = .int t ∧ Fx b H3 H4 ∧ BagAt H4 b (c + 3)) (fun R hR => ?_) (fun v H4 hC => ?_)
    · walk_at "sx"
      refine ixL (.inl (.inl hs3)) (atI_n (j := j) rfl hat3) ?_
      refine lenL (.inl (.inl hp3)) ?_
      walk_at "sx"
      refine ⟨b, _, _, rfl, by omega, big_of (by have := rowl j; rw [List.length_map]; omega), b3, by omega, fun r H4 r0 r1 f4 b4 => ?_⟩
      exact hR _ _ ⟨r.toNat, by rw [Int.toNat_of_nonneg r0], f4, b4⟩
    obtain ⟨t, rfl, f4, b4⟩ := hC
    have F4 := f3.trans f4
    have hlk4 := hlk.ex (hid_fx f4)
    have hG4 := hG.nw (Nw.fx hb0 F4)
    clear hlk hs3 hl3 hat3 hp3 hG3 p3 xs3
    obtain ⟨p, xs4, hs4, hl4, hat4, hp4⟩ := hG4.at.get hj
    have npb : p ≠ b := by
      obtain ⟨_, ps, g1, g2, g4, g5, g3⟩ := id hG4
      intro e
      rw [hs4] at g1
      cases g1
      rw [List.getElem?_map] at hat4
      cases q : ps[j]? with
      | none => rw [q] at hat4; cases hat4
      | some p2 =>
        rw [q] at hat4
        cases hat4
        have := (g3 j p q).1
        rw [e, hb0] at this
        cases this
    have hbrow : ∀ {H'' : Hp}, Ex H4 H'' → H'' p = some (.lst ((nz (row G j)).map V.int)) := fun e => e _ _ hp4
    have rl := rowl j
    have r255 := row255 j
    have hgrid : ∀ {H'' : Hp}, Fx b H4 H'' → GridAt (hidB b H'') s G := fun f => hid_grid (hG4.nw (Nw.fx hb0 f)) hb0
    simp only [List.set_cons_zero, List.set_cons_succ]
    refine seq_asg (fun u H5 => ∃ (o : Addr) (ys : List V), u = .ref o ∧ o ≠ b ∧ Ex H4 H5 ∧ H5 o = some (.lst ys) ∧ ys.length = 3 ∧ ∀ x ∈ ys, Sw K (hidB b H5) 2 3600 x) (fun R hR => ?_) (fun u H5 hC => ?_)
    · walk_at "sx"
      refine ixL (.inl (.inl hs4)) (atI_n (j := j) rfl hat4) ?_
      refine slE (.inl (.inl hp4)) fun z1 H5 m1 nz1 e5 q1 l1 i1 => ?_
      refine ⟨sz_ok (by omega), fun z2 nz2 => ?_⟩
      have e6 := Ex.new nz2 (o := .lst [lk])
      refine catE (e6 _ _ q1) upd_same (by rw [List.length_map]; simp; omega) fun z3 H7 nz3 e7 q3 => ?_
      have E7 := (e5.trans e6).trans e7
      refine ixL (.inl (.inl (E7 _ _ hs4))) (atI_n (j := j) rfl hat4) ?_
      refine slE (.inl (.inl (hbrow E7))) fun z4 H8 m2 nz4 e8 q4 l2 i2 => ?_
      refine catE (e8 _ _ q3) q4 (by rw [List.length_map, List.length_append, List.length_map]; simp; omega) fun z5 H9 nz5 e9 q5 => ?_
      have E9 := (E7.trans e8).trans e9
      refine ixL (.inl (.inl (E9 _ _ hs4))) (atI_n (j := j) rfl hat4) ?_
      refine slE (.inl (.inl (hbrow E9))) fun z6 H10 m3 nz6 e10 q6 l3 i3 => ?_
      refine ⟨sz_ok (by omega), fun z7 nz7 => ?_⟩
      have e11 := Ex.new nz7 (o := .lst [lk])
      refine catE (e11 _ _ q6) upd_same (by rw [List.length_map]; simp; omega) fun z8 H12 nz8 e12 q8 => ?_
      have E12 := ((E9.trans e10).trans e11).trans e12
      refine ixL (.inl (.inl (E12 _ _ hs4))) (atI_n (j := j) rfl hat4) ?_
      refine slE (.inl (.inl (hbrow E12))) fun z9 H13 m4 nz9 e13 q9 l4 i4 => ?_
      refine catE (e13 _ _ q8) q9 (by rw [List.length_map, List.length_append, List.length_map]; simp; omega) fun za H14 nza e14 qa => ?_
      have E14 := (E12.trans e13).trans e14
      refine ixL (.inl (.inl (E14 _ _ hs4))) (atI_n (j := j) rfl hat4) ?_
      refine ⟨p, rfl, _, .inl (.inl (hbrow E14)), fun ze nze => ⟨sz_ok (by omega), fun zf nzf => ?_⟩⟩
      have e18 := Ex.new nze (o := .lst ((nz (row G j)).map V.int).reverse)
      have e19 := Ex.new nzf (o := .lst [V.ref z5, V.ref za, V.ref ze])
      have B14 := b4.ex E14
      have G14 := e18.trans e19
      have G9 := (((e10.trans e11).trans e12).trans e13).trans (e14.trans G14)
      have n5 : z5 ≠ b := (b4.ex (E7.trans e8)).apart nz5
      have na : za ≠ b := (b4.ex (E12.trans e13)).apart nza
      have ne : ze ≠ b := B14.apart nze
      have nf : zf ≠ b := (B14.ex e18).apart nzf
      generalize hH : upd (upd H14 ze (.lst ((nz (row G j)).map V.int).reverse)) zf (.lst [V.ref z5, V.ref za, V.ref ze]) = H19 at e19 G14 G9 ⊢
      have qf : H19 zf = some (.lst [V.ref z5, V.ref za, V.ref ze]) := by rw [← hH]; exact upd_same
      have qe : H19 ze = some (.lst ((nz (row G j)).reverse.map V.int)) := by rw [List.map_reverse]; exact e19 _ _ upd_same
      have E19 := E14.trans G14
      have sub : ∀ {ms : List Int}, (∀ m ∈ ms, m ∈ nz (row G j)) → ∀ m ∈ ms, m.natAbs < 256 := fun h m hm => r255 m (h m hm)
      have mix : ∀ {q : Addr} {ma mb : List Int}, q ≠ b → H19 q = some (.lst (ma.map V.int ++ [lk] ++ mb.map V.int)) → ma.length ≤ 12 → mb.length ≤ 12 → (∀ m ∈ ma, m ∈ nz (row G j)) → (∀ m ∈ mb, m ∈ nz (row G j)) → Sw K (hidB b H19) 2 3600 (.ref q) := fun {q ma mb} nq hq la lb ia ib => by
        refine Sw.lst (n := 1) (W := 131) (.inl (.inl (hid_at nq hq))) (fun x hx => ?_) (by rw [List.length_append, List.length_append, List.length_map, List.length_map]; simp; omega) (by omega) (by rw [List.length_append, List.length_append, List.length_map, List.length_map]; simp; omega)
        rcases List.mem_append.mp hx with hx | hx
        · rcases List.mem_append.mp hx with hx | hx
          · exact sw_ints (k := 8) (sub ia) (by omega) (by omega) (by omega) x hx
          · rw [List.mem_singleton.mp hx]; exact hlk4.ex (hid_of E19)
        · exact sw_ints (k := 8) (sub ib) (by omega) (by omega) (by omega) x hx
      refine hR _ _ ⟨zf, _, rfl, nf, E19, qf, rfl, fun x hx => ?_⟩
      simp only [List.mem_cons, List.mem_nil_iff, or_false] at hx
      rcases hx with rfl | rfl | rfl
      · exact mix n5 (G9 _ _ q5) (by omega) (by omega) i1 i2
      · exact mix na (G14 _ _ qa) (by omega) (by omega) i3 i4
      · exact Sw.row (ns := (nz (row G j)).reverse) (.inl (.inl (hid_at ne qe))) (fun m hm => r255 m (List.mem_reverse.mp hm)) (by rw [List.length_reverse]; omega) (by omega) (by rw [List.length_reverse]; omega)
    obtain ⟨o5, ys, rfl, no5, e5, ho5, hy5, hsv5⟩ := hC
    have b5 := b4.ex e5
    have hs5 := e5 _ _ hs4
    have hp5 := e5 _ _ hp4
    have F5 := F4.trans (Fx.of e5)
    have hG5 := hG.nw (Nw.fx hb0 F5)
    clear hs4 hp4 hG4 hbrow hgrid hlk4 F4 b3 f3 f4 e5 b4
    simp only [List.set_cons_zero, List.set_cons_succ]
    refine seq_asg (fun u H6 => ∃ (o : Addr) (ys : List V), u = .ref o ∧ o ≠ b ∧ Ex H5 H6 ∧ H6 o = some (.lst ys) ∧ ys.length = 11 ∧ ∀ x ∈ ys, Sw K (hidB b H6) 2 3600 x) (fun R hR => ?_) (fun u H6 hC => ?_)
    · walk_at "sx"
      refine ixL (.inl (.inl hs5)) (atI_n (j := j) rfl hat4) ?_
      refine ⟨p, _, rfl, .inl ⟨.inl (.inl hp5), fun z1 nz1 => fun z2 nz2 => ?_⟩⟩
      have e6 := Ex.new nz1 (o := .tup ((nz (row G j)).map V.int))
      have e7 := Ex.new nz2 (o := .dK [])
      have E7 := e6.trans e7
      have n1 := b5.apart nz1
      have n2 := (b5.ex e6).apart nz2
      refine ixL (.inl (.inl (E7 _ _ hs5))) (atI_n (j := j) rfl hat4) ?_
      refine repE (k := 2) (E7 _ _ hp5) (by omega) (by rw [List.length_map]; omega) fun z3 H8 nz3 e8 q3 => ?_
      have n3 := (b5.ex E7).apart nz3
      have E8 := E7.trans e8
      refine ixL (.inl (.inl (E8 _ _ hs5))) (atI_n (j := j) rfl hat4) ?_
      refine ⟨sz_ok (by omega), fun z4 nz4 => ?_⟩
      have n4 := (b5.ex E8).apart nz4
      have e9 := Ex.new nz4 (o := .lst [V.ref p])
      have E9 := E8.trans e9
      refine ixL (.inl (.inl (E9 _ _ hs5))) (atI_n (j := j) rfl hat4) ?_
      refine ⟨sz_ok (by omega), fun z5 nz5 => ?_⟩
      have e10 := Ex.new nz5 (o := .lst [V.int 0])
      refine catE (e10 _ _ (E9 _ _ hp5)) upd_same (by rw [List.length_map]; simp; omega) fun z6 H11 nz6 e11 q6 => ?_
      have E11 := (E9.trans e10).trans e11
      refine repE (k := 30) q6 (by omega) (by rw [List.length_append, List.length_map]; simp; omega) fun z7 H12 nz7 e12 q7 => ?_
      have n7 := (b5.ex E11).apart nz7
      have E12 := E11.trans e12
      refine ⟨sz_ok (by omega), fun z8 nz8 => ?_⟩
      have e13 := Ex.new nz8 (o := .lst [V.ref z1, V.non, V.int 0, V.str (Str.ofString ""), V.ref z2, V.ref z3, V.ref z4, V.ref z7])
      have E13 := E12.trans e13
      refine catE (E13 _ _ ho5) upd_same (by simp; omega) fun z9 H14 nz9 e14 q9 => ?_
      have n9 := (b5.ex E13).apart nz9
      have E14 := E13.trans e14
      have G12 := e13.trans e14
      have G9 := ((e10.trans e11).trans e12).trans G12
      have flat : ∀ (k : Nat) (l : List Int), (List.replicate k (l.map V.int)).flatten = ((List.replicate k l).flatten).map V.int := fun k l => by
        induction k with
        | zero => rfl
        | succ k ih => rw [List.replicate_succ, List.flatten_cons, ih, List.replicate_succ, List.flatten_cons, List.map_append]
      have flen : ∀ (k : Nat) (l : List Int), ((List.replicate k l).flatten).length = k * l.length := fun k l => by simp
      have fmem : ∀ (k : Nat) (l : List Int) (m : Int), m ∈ (List.replicate k l).flatten → m ∈ l := fun k l m hm => by
        obtain ⟨l2, h1, h2⟩ := List.mem_flatten.mp hm
        rw [List.mem_replicate] at h1
        rw [← h1.2]; exact h2
      refine hR _ _ ⟨z9, _, rfl, n9, E14, q9, by simp [hy5], fun x hx => ?_⟩
      rcases List.mem_append.mp hx with hx | hx
      · exact (hsv5 x hx).ex (hid_of E14)
      simp only [List.mem_cons, List.mem_nil_iff, or_false] at hx
      rcases hx with rfl | rfl | rfl | rfl | rfl | rfl | rfl | rfl
      · exact Sw.tup (n := 0) (W := 8) (.inl (.inl (hid_at n1 ((e7.trans (e8.trans (e9.trans G9))) _ _ upd_same)))) (sw_ints (k := 8) r255 (by omega) (by omega) (by omega)) (by omega) (by rw [List.length_map]; omega)
      · exact .non
      · exact .int (k := 8) (by decide) (by omega) (by omega) (by omega)
      · exact .str (by decide +kernel) (by decide +kernel)
      · exact .dic (hid_at n2 ((e8.trans (e9.trans G9)) _ _ upd_same)) (by omega)
      · rw [flat] at q3
        exact Sw.row (.inl (.inl (hid_at n3 ((e9.trans G9) _ _ q3)))) (fun m hm => r255 m (fmem _ _ m hm)) (by rw [flen]; omega) (by omega) (by rw [flen]; omega)
      · refine Sw.lst (n := 1) (W := 108) (xs := [V.ref p]) (.inl (.inl (hid_at n4 (G9 _ _ upd_same)))) (fun x hx => ?_) (by simp) (by omega) (by simp)
        rw [List.mem_singleton.mp hx]
        exact Sw.row (.inl (.inl (hid_at npb (E14 _ _ hp5)))) r255 (by omega) (by omega) (by omega)
      · have q7' : H12 z7 = some (.lst (((List.replicate 30 (nz (row G j) ++ [0])).flatten).map V.int)) := by rw [q7, ← flat, List.map_append]; rfl
        refine Sw.row (.inl (.inl (hid_at n7 (G12 _ _ q7')))) (fun m hm => ?_) (by rw [flen, List.length_append]; simp; omega) (by omega) (by rw [flen, List.length_append]; simp; omega)
        rcases List.mem_append.mp (fmem _ _ m hm) with h | h
        · exact r255 m h
        · rw [List.mem_singleton.mp h]; decide
    obtain ⟨o6, ys6, rfl, no6, e6, ho6, hy6, hsv6⟩ := hC
    clear hsv5 ho5 hy5 hs5 hp5
    have b6 := b5.ex e6
    have F6 := F5.trans (Fx.of e6)
    simp only [List.set_cons_zero, List.set_cons_succ]
    refine seq_asg (fun u H7 => Sw K (hidB b H7) 2 3600 u ∧ Fx b H H7 ∧ BagAt H7 b (c + 5)) (fun R hR => ?_) (fun od H7 hC => ?_)
    · walk_at "sx"
      refine ⟨b, _, _, rfl, by omega, big_of (by omega), b6, by omega, fun r1 H7 r10 r11 f7 b7 => ⟨sz_ok (by omega), fun z nz1 => ?_⟩⟩
      have ez := Ex.new nz1 (o := .lst [V.int 0, V.int 1, V.int r1])
      refine ⟨b, _, _, rfl, by omega, big_of (by omega), b7.ex ez, by omega, fun r2 H8 r20 r21 f8 b8 => ?_⟩
      have nzb := b7.apart nz1
      obtain ⟨y, hy, ey⟩ := pickI (ns := [0, 1, r1]) r20 r21
      refine ixL (.inl (.inl (f8 _ _ nzb upd_same))) ey ?_
      have py : 0 ≤ y ∧ y < 11 := by
        simp only [List.mem_cons, List.mem_nil_iff, or_false] at hy
        rcases hy with rfl | rfl | rfl <;> omega
      have F8 := (f7.trans (Fx.of ez)).trans f8
      have hr : ys6[y.toNat]? = some ys6[y.toNat] := List.getElem?_eq_getElem (by omega)
      refine ixL (.inl (.inl (F8 _ _ no6 ho6))) (atI_n (j := y.toNat) (by omega) hr) ?_
      exact hR _ _ ⟨(hsv6 _ (List.mem_of_getElem? hr)).ex (hid_fx F8), F6.trans F8, b8⟩
    obtain ⟨hod, F7, b7⟩ := hC
    have hG7 := hG.nw (Nw.fx hb0 F7)
    have hGh := hid_grid hG7 hb0
    obtain ⟨gx, hs7', hgl, hgs⟩ := grid_sw (K := K) hGh (m := 12) small (by omega)
    have hs7 : H7 s = some (.lst gx) := hid_ex _ _ hs7'
    clear hs7' hG5 hsv6 ho6 e6 F5 F6 b5
    simp only [List.set_cons_zero, List.set_cons_succ]
    refine seq_asg (fun u H8 => ∃ (o : Addr) (ys : List V), u = .ref o ∧ o ≠ b ∧ Ex H7 H8 ∧ H8 o = some (.lst ys) ∧ ys.length = 9 ∧ ∀ x ∈ ys, Sr K (hidB b H8) 5 300000 x) (fun R hR => ?_) (fun u H8 hC => ?_)
    · walk_at "sx"
      refine slXE (.inl (.inl hs7)) fun z1 H8 y1 nz1 e8 q1 c1 l1 i1 => ?_
      refine ⟨sz_ok (by omega), fun z2 nz2 => ?_⟩
      have e9 := Ex.new nz2 (o := .lst [od])
      refine catE (e9 _ _ q1) upd_same (by simp; omega) fun z3 H9 nz3 e10 q3 => ?_
      have E9 := (e8.trans e9).trans e10
      refine slXE (.inl (.inl (E9 _ _ hs7))) fun z4 H10 y2 nz4 e11 q4 c2 l2 i2 => ?_
      refine catE (e11 _ _ q3) q4 (by simp; omega) fun z5 H11 nz5 e12 q5 => ?_
      have E11 := (E9.trans e11).trans e12
      have n5 := (b7.ex (E9.trans e11)).apart nz5
      refine ⟨sz_ok (by omega), fun z6 nz6 => ?_⟩
      have e13 := Ex.new nz6 (o := .lst [od])
      refine catE (e13 _ _ (E11 _ _ hs7)) upd_same (by simp; omega) fun z7 H12 nz7 e14 q7 => ?_
      have E12 := (E11.trans e13).trans e14
      have n7 := (b7.ex (E11.trans e13)).apart nz7
      refine ⟨sz_ok (by omega), fun z8 nz8 => ?_⟩
      have n8 := (b7.ex E12).apart nz8
      have e15 := Ex.new nz8 (o := .lst [])
      have E13 := E12.trans e15
      refine ⟨s, _, rfl, .inl ⟨.inl (.inl (E13 _ _ hs7)), fun z9 nz9 => fun za nza => ⟨sz_ok (by omega), fun zb nzb => ?_⟩⟩⟩
      have n9 := (b7.ex E13).apart nz9
      have e16 := Ex.new nz9 (o := .tup gx)
      have E14 := E13.trans e16
      have na := (b7.ex E14).apart nza
      have e17 := Ex.new nza (o := .dK [])
      have E15 := E14.trans e17
      have nb := (b7.ex E15).apart nzb
      have e18 := Ex.new nzb (o := .lst [V.ref z5, V.ref z7, V.ref z8, V.ref z9, V.non, V.int 0, V.str (Str.ofString ""), V.ref za, V.bl true])
      have E16 := E15.trans e18
      have g18 := e17.trans e18
      have g16 := e16.trans g18
      have g15 := e15.trans g16
      have g14 := (e13.trans e14).trans g15
      generalize hH : upd (upd (upd (upd H12 z8 (.lst [])) z9 (.tup gx)) za (.dK [])) zb (.lst [V.ref z5, V.ref z7, V.ref z8, V.ref z9, V.non, V.int 0, V.str (Str.ofString ""), V.ref za, V.bl true]) = HF at E16 e18 g18 g16 g15 g14 ⊢
      have qF : HF zb = some (.lst [V.ref z5, V.ref z7, V.ref z8, V.ref z9, V.non, V.int 0, V.str (Str.ofString ""), V.ref za, V.bl true]) := by rw [← hH]; exact upd_same
      have rows : ∀ x ∈ gx, Sw K (hidB b HF) 2 3600 x := fun x hx => ((hgs x hx).ex (hid_of E16)).mono (by omega) (by omega)
      have hodF : Sw K (hidB b HF) 2 3600 od := hod.ex (hid_of E16)
      refine hR _ _ ⟨zb, _, rfl, nb, E16, qF, rfl, fun x hx => ?_⟩
      simp only [List.mem_cons, List.mem_nil_iff, or_false] at hx
      rcases hx with rfl | rfl | rfl | rfl | rfl | rfl | rfl | rfl | rfl
      · refine Sr.lst (n := 2) (W := 3600) (.inl (.inl (hid_at n5 (g14 _ _ q5)))) (fun x hx => ?_) (by omega) (by rw [List.length_append, List.length_append]; simp; omega)
        rcases List.mem_append.mp hx with hx | hx
        · rcases List.mem_append.mp hx with hx | hx
          · exact rows x (i1 x hx)
          · rw [List.mem_singleton.mp hx]; exact hodF
        · exact rows x (i2 x hx)
      · refine Sr.lst (n := 2) (W := 3600) (.inl (.inl (hid_at n7 (g15 _ _ q7)))) (fun x hx => ?_) (by omega) (by rw [List.length_append]; simp; omega)
        rcases List.mem_append.mp hx with hx | hx
        · exact rows x hx
        · rw [List.mem_singleton.mp hx]; exact hodF
      · exact Sr.lst (n := 2) (W := 3600) (xs := []) (.inl (.inl (hid_at n8 (g16 _ _ upd_same)))) (fun x hx => by cases hx) (by omega) (by simp)
      · exact Sr.tup (n := 2) (W := 3600) (.inl (.inl (hid_at n9 (g18 _ _ upd_same)))) rows (by omega) (by omega)
      · exact .non
      · exact .int (k := 8) (by decide) (by omega) (by omega) (by omega)
      · exact .str (by decide +kernel) (by decide +kernel)
      · exact .dic (hid_at na (e18 _ _ upd_same)) (by omega)
      · exact .bl _
    obtain ⟨o8, ys8, rfl, no8, e8, ho8, hy8, hsv8⟩ := hC
    have b8 := b7.ex e8
    have hs8 := e8 _ _ hs7
    simp only [List.set_cons_zero, List.set_cons_succ]
    refine seq_asg (fun u H9 => ∃ (o : Addr) (ys : List V), u = .ref o ∧ o ≠ b ∧ Ex H8 H9 ∧ H9 o = some (.lst ys) ∧ ys.length = 12 ∧ ∀ x ∈ ys, Sr K (hidB b H9) 5 300000 x) (fun R hR => ?_) (fun u H9 hC => ?_)
    · walk_at "sx"
      refine ⟨sz_ok (by omega), fun z1 nz1 => ⟨sz_ok (by omega), fun z2 nz2 => ?_⟩⟩
      have n1 := b8.apart nz1
      have e9 := Ex.new nz1 (o := .lst [])
      have e10 := Ex.new nz2 (o := .lst [V.ref z1])
      have E10 := e9.trans e10
      rw [show (13 : Int) - ((G.length : Nat) : Int) = ((13 - G.length : Nat) : Int) by omega]
      refine repE (k := 13 - G.length) upd_same (by omega) (by simp; omega) fun z3 H11 nz3 e11 q3 => ?_
      have E11 := E10.trans e11
      refine catE (E11 _ _ hs8) q3 (by rw [rep_one, List.length_replicate]; omega) fun z4 H12 nz4 e12 q4 => ?_
      have n4 := (b8.ex E11).apart nz4
      have E12 := E11.trans e12
      refine ⟨sz_ok (by omega), fun z5 nz5 => ⟨sz_ok (by omega), fun z6 nz6 => ?_⟩⟩
      have n5 := (b8.ex E12).apart nz5
      have e13 := Ex.new nz5 (o := .lst [V.int 0])
      have e14 := Ex.new nz6 (o := .lst [V.ref z5])
      have E14 := (E12.trans e13).trans e14
      refine repE (k := 388) upd_same (by omega) (by simp) fun z7 H15 nz7 e15 q7 => ?_
      have E15 := E14.trans e15
      refine catE (E15 _ _ hs8) q7 (by rw [rep_one, List.length_replicate]; omega) fun z8 H16 nz8 e16 q8 => ?_
      have n8 := (b8.ex E15).apart nz8
      have E16 := E15.trans e16
      refine ⟨sz_ok (by omega), fun z9 nz9 => ⟨sz_ok (by omega), fun za nza => ?_⟩⟩
      have n9 := (b8.ex E16).apart nz9
      have e17 := Ex.new nz9 (o := .lst [V.ref s])
      have e18 := Ex.new nza (o := .lst [V.ref z4, V.ref z8, V.ref z9])
      have E18 := (E16.trans e17).trans e18
      refine catE (E18 _ _ ho8) upd_same (by simp; omega) fun zb H19 nzb e19 qb => ?_
      have nb := (b8.ex E18).apart nzb
      have E19 := E18.trans e19
      have g17 := e18.trans e19
      have g16 := e17.trans g17
      have g13 := (e14.trans (e15.trans e16)).trans g16
      have g12 := e13.trans g13
      have g9 := (e10.trans (e11.trans e12)).trans g12
      have rows : ∀ x ∈ gx, Sw K (hidB b H19) 1 108 x := fun x hx => (hgs x hx).ex (hid_of (e8.trans E19))
      refine hR _ _ ⟨zb, _, rfl, nb, E19, qb, by simp [hy8], fun x hx => ?_⟩
      rcases List.mem_append.mp hx with hx | hx
      · exact (hsv8 x hx).ex (hid_of E19)
      simp only [List.mem_cons, List.mem_nil_iff, or_false] at hx
      rcases hx with rfl | rfl | rfl
      · rw [rep_one] at q4
        refine Sr.lst (n := 1) (W := 108) (.inl (.inl (hid_at n4 (g12 _ _ q4)))) (fun x hx => ?_) (by omega) (by rw [List.length_append, List.length_replicate]; omega)
        rcases List.mem_append.mp hx with hx | hx
        · exact rows x hx
        · rw [(List.mem_replicate.mp hx).2]
          exact Sw.row (ns := []) (.inl (.inl (hid_at n1 (g9 _ _ upd_same)))) (fun m hm => by cases hm) (by simp) (by omega) (by simp)
      · rw [rep_one] at q8
        refine Sr.lst (n := 1) (W := 108) (.inl (.inl (hid_at n8 (g16 _ _ q8)))) (fun x hx => ?_) (by omega) (by rw [List.length_append, List.length_replicate]; omega)
        rcases List.mem_append.mp hx with hx | hx
        · exact rows x hx
        · rw [(List.mem_replicate.mp hx).2]
          exact Sw.row (ns := [0]) (.inl (.inl (hid_at n5 (g13 _ _ upd_same)))) (fun m hm => by rw [List.mem_singleton.mp hm]; decide) (by simp) (by omega) (by simp)
      · refine Sr.lst (n := 2) (W := 1308) (xs := [V.ref s]) (.inl (.inl (hid_at n9 (g17 _ _ upd_same)))) (fun x hx => ?_) (by omega) (by simp)
        rw [List.mem_singleton.mp hx]
        exact Sw.lst (n := 1) (W := 108) (.inl (.inl (hid_at nsb ((e8.trans E19) _ _ hs7)))) rows (by omega) (by omega) (by omega)
    obtain ⟨o9, ys9, rfl, no9, e9, ho9, hy9, hsv9⟩ := hC
    have b9 := b8.ex e9
    walk_at "sx"
    refine ⟨b, _, _, rfl, by omega, big_of (by omega), b9, by omega, fun r1 HA r10 r11 fA bA => ⟨sz_ok (by omega), fun z nz1 => ?_⟩⟩
    have ez := Ex.new nz1 (o := .lst [V.int 0, V.int 0, V.int 0, V.int r1])
    refine ⟨b, _, _, rfl, by omega, big_of (by omega), bA.ex ez, by omega, fun r2 HB r20 r21 fB bB => ?_⟩
    have nzb := bA.apart nz1
    obtain ⟨y, hy, ey⟩ := pickI (ns := [0, 0, 0, r1]) r20 r21
    refine ixL (.inl (.inl (fB _ _ nzb upd_same))) ey ?_
    have py : 0 ≤ y ∧ y < 12 := by
      simp only [List.mem_cons, List.mem_nil_iff, or_false] at hy
      rcases hy with rfl | rfl | rfl | rfl <;> omega
    have FB := (fA.trans (Fx.of ez)).trans fB
    have hr : ys9[y.toNat]? = some ys9[y.toNat] := List.getElem?_eq_getElem (by omega)
    refine ixL (.inl (.inl (FB _ _ no9 ho9))) (atI_n (j := y.toNat) (by omega) hr) ?_
    exact k _ _ (((F7.trans (Fx.of e8)).trans (Fx.of e9)).trans FB) (bB.mono (by omega)) (((hsv9 _ (List.mem_of_getElem? hr)).ex (hid_fx FB)).ex hid_ex)
end
end LW

set_option Elab.async false
set_option linter.all false
set_option maxRecDepth 100000
set_option maxHeartbeats 4000000
namespace LW
open PySem PySem.Spec PyProof.Rows L2 BC Evl TR
local macro_rules | `(tactic| walk_at "sx") => `(tactic| try simp only [x_seq, x_next, x_brk, x_cnt, x_nev, x_ret, x_retN, x_drop, x_ifS, x_asg, x_gn, x_gsub, x_par, x_par3, x_aug, x_for, x_lc, x_rng1, x_rng2, x_rng3, x_ilist, x_itup, x_ienum, x_izip, x_izipA, x_istr, x_var, x_c, x_op, x_un, x_test, x_b, x_chain, x_and, x_or, x_not, x_andV, x_orV, x_notV, x_ife, x_nil, x_cons, x_lst, x_tup, x_cb, x_call, x_callK, x_bm, x_bm0, x_tru, x_sl, x_nopart, x_part, x_revL, x_I0, x_I, x_U, x_ip, x_ipC, x_eqI, x_neI, x_eqB, x_neB, x_eqS, x_neS, x_isB, x_isNB, x_lrg, x_gall, x_lenSet, x_augS, x_sortSet, x_sortSetB, x_lenSetA, x_rg1, x_rg2,
  L2.start, List.map_cons, List.map_nil, List.length_cons, List.length_nil, Nat.reduceAdd, Nat.reduceSub, Nat.sub_self, Nat.zero_add, List.replicate, List.replicate_succ, List.replicate_zero, List.append_nil, List.cons_append, List.nil_append, List.set_cons_zero, List.set_cons_succ, List.getElem?_cons_zero, List.getElem?_cons_succ, Option.some.injEq, V.int.injEq, V.bl.injEq, V.ref.injEq, V.str.injEq, List.cons.injEq, and_true, true_and, exists_eq_left', exists_eq_left, exists_and_left, exists_eq, if_true, if_false, ite_true, ite_false, Bool.true_eq_false, Bool.false_eq_true, reduceIte, reduceCtorEq, Bool.not_true, Bool.not_false, decide_true, decide_false, decide_eq_true_eq, Bool.and_true, Bool.true_and, Bool.and_self, Bool.and_false, Bool.false_and, Bool.or_self, Bool.or_false, Bool.false_or, Bool.or_true, Bool.true_or, eq_self])
section
variable {P : Program} {w : World} {K : PySem.W.Frag} {mg : Str → Option Value} {base : Heap}
def spChecked (K : PySem.W.Frag) : Sp := fun vs H Q _ => ∃ (v : V), vs = [v] ∧ Sr K H 60 300000 v ∧ ∀ H', Ex H H' → Q (.bl true) H'
theorem ok_law_checked (T : Txt K mg) : FnG P w K mg base CX0 4 T.f_law_checked T.fd_law_checked ["_law_value"] (spChecked K) := by
  refine fun_okN T.F_law_checked sc_law_checked (fun vs H Q E h => ?_) (fun cdv A outer s H vs Q E hG hr h => ?_)
  · obtain ⟨v, rfl, _⟩ := h
    rfl
  · obtain ⟨v, rfl, ⟨d, hd, hg, hrw⟩, k⟩ := h
    apply Exists.intro
    apply And.intro
    · apply pss_cons
      · exact (ps_par (i := 1) (j := 2) (by rfl) sc_law_checked.nd rfl rfl (by decide) rfl rfl (pa_cons (pe_callB (k_reprA (K := K) rfl hG hr.units) (by rfl) T.n_repr (by decide +kernel) (pa_cons (pv 0) pa_nil)) (pa_cons (pe_call (ok_is_site T) (hr.mono (by decide)) (by rfl) T.m_is_site T.F_is_site.kp T.b_is_site .nil pass0 (pa_cons (pv 0) pa_nil)) pa_nil)) (by rfl))
      apply pss_one
      exact (ps_ret (pe_and (pe_callB (k_isi (K := K) rfl) (by rfl) T.n_isinstance (by decide +kernel) (pa_cons (pv 2) (pa_cons (pe_bltn (v := .ty "bool") (by rfl) T.n_bool (by decide +kernel) rfl) pa_nil))) (pe_and (pe_cmpR op_eq (pv 2) (pe_call (ok_law_is_net T) (hr.mono (by decide)) (by rfl) T.m_law_is_net T.F_law_is_net.kp T.b_law_is_net .nil pass0 (pa_cons (pv 0) pa_nil)) (by rfl)) (pe_one (pe_cmpR op_eq (pe_callB (k_reprA (K := K) rfl hG hr.units) (by rfl) T.n_repr (by decide +kernel) (pa_cons (pv 0) pa_nil)) (pv 1) (by rfl))))))
    walk_at "sx"
    refine reprA hd hg (by omega) (by omega) ?_
    refine ⟨v, d, rfl, hd, hrw, fun H1 e1 => ?_⟩
    refine ⟨_, _, ⟨rfl, rfl⟩, ?_⟩
    refine isi_x (b := true) (.base (.bl _)) (by decide +kernel) ?_
    walk_at "sx"
    refine ⟨v, d, rfl, De.ex e1 _ _ hd, fun H2 e2 => ?_⟩
    walk_at "sx"
    refine reprA (De.ex (e1.trans e2) _ _ hd) hg (by omega) (by omega) ?_
    walk_at "sx"
    exact k _ (e1.trans e2)
/-- the drawn site as a value -/
theorem grid_sr {s : Addr} {G : Grid} {H : Hp} (h : GridAt H s G) (hl : G.length ≤ 14) (hr : ∀ i, (row G i).length ≤ 30 ∧ ∀ x ∈ row G i, x < 256) : Sr K H 60 300000 (.ref s) := by
  obtain ⟨xs, h1, h2, h3⟩ := grid_sw (K := K) h (m := 30) hr (by omega)
  exact Sr.lst (n := 1) (W := 270) (.inl (.inl h1)) h3 (by omega) (by omega)
def fullG : Grid := (List.range 12).map fun p => (List.range 12).filter fun u => !decide (u = p)
def rowD (r : List Nat) : PyData := .list ((nz r).map PyData.int)
def nestD : Nat → PyData
  | 0 => .list [.int 0]
  | n + 1 => .list [nestD n]
def someD : List PyData := [.list (fullG.map rowD), .list (fullG.map rowD ++ [.list []]), .list (List.replicate 12 (.list [])), .list (List.replicate 13 (.list [])), .list [.list [.int 1], .list [.bool true]], .list [.list [], .list [.int 0]], .list [.list [.int 0]], nestD 37, .list [.list [.int 1], .list [.int 0], .list [.int 2]]]
theorem someD_site : someD.map isSiteD = [true, false, true, false, false, true, false, false, false] := by decide +kernel
def lenB : PyData → Bool
  | .list es => decide (es.length ≤ 4000)
  | _ => true
def rowsB : PyData → Bool
  | .list ds => ds.all lenB
  | _ => true
theorem someD_rows : someD.all rowsB = true := by decide +kernel
theorem rowsB_ok {d : PyData} (h : rowsB d = true) : RowsL d := fun ds e f m es e2 => by
  subst e
  have := List.all_eq_true.mp h f m
  subst e2
  exact of_decide_eq_true this
theorem de_gridAll {s : Addr} {G : Grid} {H : Hp} (h : GridAt H s G) : ∃ xs, H s = some (.lst xs) ∧ xs.length = G.length ∧ DeAll K H xs (G.map rowD) := by
  obtain ⟨ps, h1, h2, h3⟩ := h
  refine ⟨_, h1, by rw [List.length_map]; exact h2, ?_⟩
  clear h1
  have key : ∀ (ps : List Addr) (F : Grid), ps.length = F.length → (∀ (i : Nat) (p : Addr), ps[i]? = some p → H p = some (.lst ((nz (row F i)).map V.int))) → DeAll K H (ps.map V.ref) (F.map rowD) := fun ps => by
    induction ps with
    | nil =>
      intro F hl _
      cases F with
      | nil => exact .nil
      | cons _ _ => simp at hl
    | cons p ps ih =>
      intro F hl hp
      cases F with
      | nil => simp at hl
      | cons r F =>
        refine .cons (.lst (.inl (.inl (hp 0 p rfl))) (de_ints _)) (ih F (by simpa using hl) fun i q hq => ?_)
        have := hp (i + 1) q (by simpa using hq)
        exact this
  exact key ps G h2 h3
theorem de_rep {v : V} {d : PyData} {H : Hp} (h : De K H v d) (n : Nat) : DeAll K H (List.replicate n v) (List.replicate n d) := by
  induction n with
  | zero => exact .nil
  | succ n ih => rw [List.replicate_succ, List.replicate_succ]; exact .cons h ih
theorem erase_nz (R : List Nat) (k : Nat) : (nz R).eraseIdx k = nz (R.eraseIdx k) := by
  induction R generalizing k with
  | nil => rfl
  | cons x R ih =>
    cases k with
    | zero => rfl
    | succ k =>
      show (x : Int) :: (nz R).eraseIdx k = (x : Int) :: nz (R.eraseIdx k)
      rw [ih]
theorem row_set {G : Grid} {j : Nat} {r : List Nat} {P : List Nat → Prop} (hr : ∀ i, P (row G i)) (h : P r) (h0 : P []) : ∀ i, P (row (G.set j r) i) := fun i => by
  by_cases hi : i < G.length
  · by_cases c : i = j
    · subst c
      have : row (G.set i r) i = r := by unfold row; rw [List.getD_eq_getElem?_getD, List.getElem?_set_self hi]; rfl
      rw [this]; exact h
    · have : row (G.set j r) i = row G i := by unfold row; rw [List.getD_eq_getElem?_getD, List.getElem?_set_ne (Ne.symm c), List.getD_eq_getElem?_getD]
      rw [this]; exact hr i
  · have : row (G.set j r) i = [] := by unfold row; rw [List.getD_eq_getElem?_getD, List.getElem?_eq_none (by rw [List.length_set]; omega)]; rfl
    rw [this]; exact h0
def PvW (H1 : Hp) (D : Addr) (i : Nat) (H' : Hp) : Prop := Ex H1 H' ∧ GridN H1 H' D ((List.range i).map fun p => (List.range 12).filter fun u => !decide (u = p))
def JNs (H1 : Hp) (s0 s1 s2 s4 : Option V) (s7 s8 : Option V) (i : Nat) (σ' : L2.St) (H' : Hp) : Prop := ∃ l3 v, σ' = [s0, s1, s2, l3, s4, some v, none, s7, s8, none, none] ∧ Ex H1 H' ∧ De K H' v (nestD i)
def spHolds (K : PySem.W.Frag) : Sp := fun vs H Q _ => ∃ (b : Addr) (mo c : Nat), vs = [.ref b, .int mo] ∧ 1 ≤ mo ∧ mo ≤ 12 ∧ BagAt H b c ∧ c ≤ 1000 ∧ ∀ H', Fx b H H' → Q (.bl true) H'
def JH1 (H : Hp) (b s : Addr) (mo c : Nat) (G : Grid) (i : Nat) (σ' : L2.St) (H' : Hp) : Prop := ∃ l3, σ' = [some (.ref b), some (.int mo), some (.ref s), l3, none, none, none, none, none, none, none] ∧ Fx b H H' ∧ BagAt H' b (c + 400 + 7 * i) ∧ GridN H H' s G
def JH2 (H : Hp) (b s : Addr) (mo c n : Nat) (i : Nat) (σ' : L2.St) (H' : Hp) : Prop := ∃ l3 l7 l8 G, σ' = [some (.ref b), some (.int mo), some (.ref s), l3, none, none, none, l7, l8, none, none] ∧ Fx b H H' ∧ BagAt H' b (c + 600 + 2 * i) ∧ GridN H H' s G ∧ G.length = n ∧ ∀ j, (row G j).length ≤ 12 + i ∧ ∀ x ∈ row G j, x < 256
theorem ok_law_holds (T : Txt K mg) : FnG P w K mg base CX0 5 T.f_law_holds T.fd_law_holds ["_law_source_here", "_law_most"] (spHolds K) := by
  refine fun_okN T.F_law_holds sc_law_holds (fun vs H Q E h => ?_) (fun cdv A outer s H vs Q E hG hr h => ?_)
  · obtain ⟨b, mo, c, rfl, _⟩ := h
    rfl
  · obtain ⟨b, mo, c, rfl, m1, m2, hB, hc, k⟩ := h
    apply Exists.intro
    apply And.intro
    · apply pss_cons
      · exact (ps_set (i := 2) sc_law_holds.nd rfl (.inl rfl) (pe_call (ok_law_net T) (hr.mono (by decide)) (by rfl) T.m_law_net T.F_law_net.kp T.b_law_net .nil pass0 (pa_cons (pv 0) (pa_cons (pv 1) pa_nil))))
      apply pss_cons
      · apply ps_for PassesOwn.never rfl
        · exact (pi_range1 (by rfl) T.n_range (pa_cons pe_int pa_nil))
        · exact (pg_name (i := 3) sc_law_holds.nd rfl (.inl rfl))
        · apply pss_one
          apply ps_if
          · exact (PW.pt (pw_or (pt_not (pt_val (pe_callG (ok_law_checked T) hG (hr.mono (by decide)) (by rfl) T.m_law_checked T.F_law_checked.kp T.b_law_checked .nil pass0 (pa_cons (pv 2) pa_nil)))) (pw_or1 (pt_not (pt_val (pe_callG (ok_law_checked T) hG (hr.mono (by decide)) (by rfl) T.m_law_checked T.F_law_checked.kp T.b_law_checked .nil pass0 (pa_cons (pe_call (ok_law_bad_net T) (hr.mono (by decide)) (by rfl) T.m_law_bad_net T.F_law_bad_net.kp T.b_law_bad_net .nil pass0 (pa_cons (pv 0) (pa_cons (pv 2) pa_nil))) pa_nil)))))))
          · apply pss_one
            exact (ps_ret pe_bl)
          · exact pss_nil
      apply pss_cons
      · apply ps_for PassesOwn.never rfl
        · exact (pi_range1 (by rfl) T.n_range (pa_cons pe_int pa_nil))
        · exact (pg_name (i := 3) sc_law_holds.nd rfl (.inl rfl))
        · apply pss_cons
          · exact (ps_set (i := 7) sc_law_holds.nd rfl (.inl rfl) (pe_ix (k_ix_list (K := K) rfl) (pv 2) (pe_call (ok_law_draw T) (hr.mono (by decide)) (by rfl) T.m_law_draw T.F_law_draw.kp T.b_law_draw .nil pass0 (pa_cons (pv 0) (pa_cons (pe_callB (k_len (K := K) rfl) (by rfl) T.n_len PySem.boot_len (pa_cons (pv 2) pa_nil)) pa_nil))) (fun _ _ => rfl)))
          apply pss_cons
          · exact (ps_set (i := 8) sc_law_holds.nd rfl (.inl rfl) (pe_call (ok_law_draw T) (hr.mono (by decide)) (by rfl) T.m_law_draw T.F_law_draw.kp T.b_law_draw .nil pass0 (pa_cons (pv 0) (pa_cons (pe_callB (k_len (K := K) rfl) (by rfl) T.n_len PySem.boot_len (pa_cons (pv 2) pa_nil)) pa_nil))))
          apply pss_cons
          · apply ps_if
            · exact (pt_cmpR (k_in (K := K) rfl) (pv 8) (pv 7) (by rfl))
            · apply pss_one
              exact (ps_expr (k_bm (K := K) rfl (pe_bm PySem.F.plainAttrs_list PySem.F.slot_list_remove PySem.F.type_list_remove mt_remove (pv 7) (pa_cons (pv 8) pa_nil))))
            · apply pss_one
              exact (ps_expr (k_bm (K := K) rfl (pe_bm PySem.F.plainAttrs_list PySem.F.slot_list_append PySem.F.type_list_append mt_append (pv 7) (pa_cons (pv 8) pa_nil))))
          apply pss_one
          apply ps_if
          · exact (pt_not (pt_val (pe_callG (ok_law_checked T) hG (hr.mono (by decide)) (by rfl) T.m_law_checked T.F_law_checked.kp T.b_law_checked .nil pass0 (pa_cons (pv 2) pa_nil))))
          · apply pss_one
            exact (ps_ret pe_bl)
          · exact pss_nil
      apply pss_cons
      · exact (ps_setLc (i := 4) (own := [("_law_spot", 9)]) rfl sc_law_holds.nd rfl rfl (sw_true rfl rfl rfl (by decide +kernel)) (pi_range1 (by rfl) T.n_range (pa_cons pe_int pa_nil)) (blkOk_by (own := [("_law_spot", 9)]) (N := ["_law_source_here", "_law_most", "_law_net_here", "_law_step", "_law_full", "_law_nested", "_law_some", "_law_row", "_law_other", "_law_spot", "_law_value"]) (sc := defScope s_law_holds) (by decide +kernel)) (fun _ _ _ _ _ => by exact (pg_name (i := 9) sc_law_holds.nd rfl (by first | exact .inl rfl | exact .inr rfl))) (fun _ _ _ _ _ => by exact pts_nil) (fun _ _ _ _ _ => by exact (pe_lc (own := [("_law_other", 8)]) rfl sc_law_holds.nd (pi_range1 (by rfl) T.n_range (pa_cons pe_int pa_nil)) (blkOk_by (own := [("_law_other", 8)]) (N := ["_law_source_here", "_law_most", "_law_net_here", "_law_step", "_law_full", "_law_nested", "_law_some", "_law_row", "_law_other", "_law_spot", "_law_value"]) (by kernel_rfl)) (fun _ _ _ _ _ => by exact (pg_name (i := 8) sc_law_holds.nd rfl (.inl rfl))) (fun _ _ _ _ _ => by exact (pts_one (pt_cmpR op_ne (pv 8) (pv 9) (by rfl)))) (fun _ _ _ _ _ => by exact (pv 8)))))
      apply pss_cons
      · exact (ps_set (i := 5) sc_law_holds.nd rfl (.inl rfl) (pe_lst (pa_cons pe_int pa_nil)))
      apply pss_cons
      · apply ps_for PassesOwn.never rfl
        · exact (pi_range1 (by rfl) T.n_range (pa_cons pe_int pa_nil))
        · exact (pg_name (i := 3) sc_law_holds.nd rfl (.inl rfl))
        · apply pss_one
          exact (ps_set (i := 5) sc_law_holds.nd rfl (.inl rfl) (pe_lst (pa_cons (pv 5) pa_nil)))
      apply pss_cons
      · exact (ps_set (i := 6) sc_law_holds.nd rfl (.inl rfl) (pe_lst (pa_cons (pv 4) (pa_cons (pe_op op_cat (pv 4) (pe_lst (pa_cons (pe_lst pa_nil) pa_nil))) (pa_cons (pe_op op_rep (pe_lst (pa_cons (pe_lst pa_nil) pa_nil)) pe_int) (pa_cons (pe_op op_rep (pe_lst (pa_cons (pe_lst pa_nil) pa_nil)) pe_int) (pa_cons (pe_lst (pa_cons (pe_lst (pa_cons pe_int pa_nil)) (pa_cons (pe_lst (pa_cons pe_bl pa_nil)) pa_nil))) (pa_cons (pe_lst (pa_cons (pe_lst pa_nil) (pa_cons (pe_lst (pa_cons pe_int pa_nil)) pa_nil))) (pa_cons (pe_lst (pa_cons (pe_lst (pa_cons pe_int pa_nil)) pa_nil)) (pa_cons (pv 5) (pa_cons (pe_lst (pa_cons (pe_lst (pa_cons pe_int pa_nil)) (pa_cons (pe_lst (pa_cons pe_int pa_nil)) (pa_cons (pe_lst (pa_cons pe_int pa_nil)) pa_nil)))) pa_nil)))))))))))
      apply pss_one
      exact (ps_ret (pe_cmpR (k_eqD (K := K) rfl hr.units) (pe_lc (own := [("_law_value", 10)]) rfl sc_law_holds.nd (k_pi_list (K := K) rfl (pv 6)) (blkOk_by (own := [("_law_value", 10)]) (N := ["_law_source_here", "_law_most", "_law_net_here", "_law_step", "_law_full", "_law_nested", "_law_some", "_law_row", "_law_other", "_law_spot", "_law_value"]) (sc := defScope s_law_holds) (by decide +kernel)) (fun _ _ _ _ _ => by exact (pg_name (i := 10) sc_law_holds.nd rfl (.inl rfl))) (fun _ _ _ _ _ => by exact pts_nil) (fun _ _ _ _ _ => by exact (pe_call (ok_is_site T) (hr.mono (by decide)) (by rfl) T.m_is_site T.F_is_site.kp T.b_is_site .nil pass0 (pa_cons (pv 10) pa_nil)))) (pe_lst (pa_cons pe_bl (pa_cons pe_bl (pa_cons pe_bl (pa_cons pe_bl (pa_cons pe_bl (pa_cons pe_bl (pa_cons pe_bl (pa_cons pe_bl (pa_cons pe_bl pa_nil)))))))))) (by rfl)))
    obtain ⟨ob, hob⟩ := hB.some
    walk_at "sx"
    refine ⟨b, mo, c, rfl, m1, m2, hB, by omega, fun s G H1 f1 b1 g1 ok hmo => ?_⟩
    have n1 := ok.n1
    have n2 := ok.n2
    have small := site_small ok
    refine ⟨by omega, by omega, ?_⟩
    refine lg_rng (JH1 H b s mo c G) ⟨none, rfl, f1, b1, g1⟩ (fun i σ' H' hi hP => ?_) (fun σ' H' hP => ?_)
    · obtain ⟨l3, rfl, f2, b2, g2⟩ := hP
      have hi' : i < 10 := hi
      walk_at "sx"
      refine ⟨_, rfl, grid_sr g2.at (by omega) (fun i => ⟨by have := (small i).1; omega, (small i).2⟩), fun H3 e3 => ?_⟩
      walk_at "sx"
      refine ⟨b, s, G, _, H, ob, rfl, g2.ex e3, hob, ok, b2.ex e3, by omega, fun v H4 f4 b4 hv => ?_⟩
      refine ⟨_, rfl, hv.mono (by omega) (by omega), fun H5 e5 => ?_⟩
      walk_at "sx"
      exact ⟨_, rfl, ((f2.trans (Fx.of e3)).trans f4).trans (Fx.of e5), (b4.ex e5).mono (by omega), ((g2.ex e3).nw (Nw.fx hob f4)).ex e5⟩
    · obtain ⟨l3, rfl, f2, b2, g2⟩ := hP
      walk_at "sx"
      refine ⟨by omega, by omega, ?_⟩
      refine lg_rng (JH2 H b s mo c G.length) ⟨_, _, _, G, rfl, f2, b2.mono (by omega), g2, rfl, fun j => ⟨(small j).1, (small j).2⟩⟩ (fun i σ' H' hi hP => ?_) (fun σ' H' hP => ?_)
      · obtain ⟨l3, l7, l8, G', rfl, f3, b3, g3, hl, hr⟩ := hP
        have hi' : i < 6 := hi
        walk_at "sx"
        obtain ⟨xs, hs, hl2, _⟩ := g3.at.lst
        refine lenL (.inl (.inl hs)) ?_
        rw [hl2]
        refine ⟨b, _, _, rfl, by omega, big_of (by omega), b3, by omega, fun r H4 r0 r1 f4 b4 => ?_⟩
        have g4 := g3.nw (Nw.fx hob f4)
        have hj : r.toNat < G'.length := by omega
        obtain ⟨p, xs4, hs4, hl4, hat, hp, npH, hset⟩ := g4.chg hj
        refine ixL (.inl (.inl hs4)) (atI_n (j := r.toNat) (by omega) hat) ?_
        refine lenL (.inl (.inl hs4)) ?_
        rw [hl4]
        refine ⟨b, _, _, rfl, by omega, big_of (by omega), b4, by omega, fun ot H5 o0 o1 f5 b5 => ?_⟩
        have npb : p ≠ b := fun e => by rw [e, hob] at npH; cases npH
        have hp5 := f5 _ _ npb hp
        have g5 := g4.nw (Nw.fx hob f5)
        obtain ⟨o, rfl⟩ : ∃ o : Nat, ot = (o : Int) := ⟨ot.toNat, by omega⟩
        have fin : ∀ (R2 : List Nat) (s8 : V), R2.length ≤ 12 + (i + 1) → (∀ x ∈ R2, x < 256) → spChecked K [V.ref s] (upd H5 p (.lst ((nz R2).map V.int))) (fun x_5 H' => ∃ k, x_5 = V.bl k ∧ if (!k) = true then Q (V.bl false) H' else
            JH2 H b s mo c (List.length G) (i + 1) [some (V.ref b), some (V.int ↑mo), some (V.ref s), some (V.int (0 + ↑i)), none, none, none, some (V.ref p), some s8, none, none] H') E0 := fun R2 s8 h1 h2 => by
          obtain ⟨p', xs5, hs5, hl5, hat5, hp5', _, hset5⟩ := g5.chg hj
          have epp : p' = p := by
            have := f5 _ _ (fun e => by have := g4.1; rw [e, hob] at this; cases this) hs4
            rw [hs5] at this
            cases this
            rw [hat] at hat5
            cases hat5
            rfl
          subst epp
          have g6 := hset5 R2
          have hr6 := row_set (j := r.toNat) (P := fun R => R.length ≤ 12 + (i + 1) ∧ ∀ x ∈ R, x < 256) (fun k => ⟨by have := (hr k).1; omega, (hr k).2⟩) ⟨h1, h2⟩ ⟨by simp, fun x hx => by cases hx⟩
          refine ⟨_, rfl, grid_sr g6.at (by rw [List.length_set]; omega) (fun k => ⟨by have := (hr6 k).1; omega, (hr6 k).2⟩), fun H6 e6 => ⟨true, rfl, ?_⟩⟩
          rw [if_neg (by decide)]
          refine ⟨_, _, _, G'.set r.toNat R2, rfl, (((f3.trans f4).trans f5).mut npH).trans (Fx.of e6), ((b5.off npb).ex e6).mono (by omega), g6.ex e6, by rw [List.length_set]; exact hl, hr6⟩
        refine inL (.inl (.inl hp5)) ?_
        refine ⟨_, rfl, ?_⟩
        have hrj := hr r.toNat
        by_cases cm : (o : Int) ∈ nz (row G' r.toNat)
        · rw [decide_eq_true cm, if_pos rfl]
          refine ⟨tyL hp5, ?_⟩
          refine ⟨p, nz (row G' r.toNat), o, (nz (row G' r.toNat)).idxOf (o : Int), rfl, rfl, hp5, ?_, fun m hm => ?_, ?_⟩
          · rw [List.getElem?_eq_getElem (List.idxOf_lt_length_of_mem cm), List.getElem_idxOf]
          · intro e
            obtain ⟨hlt, h3⟩ := List.getElem?_eq_some_iff.mp e
            have := List.not_of_lt_findIdx (p := fun y => y == (o : Int)) hm
            rw [h3] at this
            simp at this
          · rw [erase_nz]
            exact fin _ _ (by have := List.length_eraseIdx_le (row G' r.toNat) ((nz (row G' r.toNat)).idxOf (o : Int)); omega) (fun x hx => hrj.2 x (List.mem_of_mem_eraseIdx hx))
        · rw [decide_eq_false cm, if_neg (by decide)]
          refine ⟨tyL hp5, ?_⟩
          refine appL hp5 (BC.sz_lt (by rw [List.length_map, nz_len]; omega)) ?_
          rw [show (nz (row G' r.toNat)).map V.int ++ [V.int (o : Int)] = (nz (row G' r.toNat ++ [o])).map V.int by unfold nz; rw [List.map_append, List.map_append]; rfl]
          refine fin _ _ (by rw [List.length_append, List.length_singleton]; omega) (fun x hx => ?_)
          rcases List.mem_append.mp hx with hx | hx
          · exact hrj.2 x hx
          · rw [List.mem_singleton.mp hx]; omega
      · obtain ⟨l3, l7, l8, G', rfl, f3, b3, g3, hl, hr⟩ := hP
        clear hr hl g3 b3 small ok n1 n2 b1 g1 f1 f2 b2 g2
        dsimp only
        refine seq_asg (fun v H2 => ∃ F, v = .ref F ∧ Ex H' H2 ∧ GridAt H2 F fullG) (fun R hR => ?_) (fun v H2 hC => ?_)
        · walk_at "sx"
          refine ⟨by decide, by decide, fun D nD => ?_⟩
          rw [show Int.toNat 12 = 12 from rfl]
          refine lc_rngE (lo := 0) (n := 12) (PvW H' D) ⟨Ex.new nD, GridN.nil nD⟩ (fun v HA hv hP => ?_) (fun HA hP => ?_)
          · obtain ⟨eA, gA⟩ := hP
            rw [show (0 : Int) + v = (v : Int) by omega]
            refine ⟨rfl, ?_⟩
            simp only [wipe, List.set_cons_zero, List.set_cons_succ]
            walk_at "sx"
            refine ⟨by decide, by decide, fun E nE => ?_⟩
            rw [show Int.toNat 12 = 12 from rfl]
            refine lc_rng (lo := 0) (n := 12) (fun u => !decide (u = v)) (fun u => V.int ((u : Nat) : Int)) nE (by omega) (fun u => rfl) (fun u hu => ?_) (fun u hu _ => by rw [show (0 : Int) + u = (u : Int) by omega]; exact ev_var rfl) (fun HB eB hE => ?_)
            · rw [show (0 : Int) + u = (u : Int) by omega]
              intro H3 e3 R2 hR2
              walk_at "sx"
              refine ⟨_, rfl, _, rfl, ?_⟩
              refine x_neI.mpr ⟨_, rfl, ?_⟩
              have : decide ((u : Int) = (v : Int)) = decide (u = v) := by
                by_cases c : u = v
                · rw [decide_eq_true c, decide_eq_true (by omega)]
                · rw [decide_eq_false c, decide_eq_false (by omega)]
              rw [this]
              exact hR2 _ (Ex.refl _)
            · rw [kept_rng] at hE
              obtain ⟨ys, h1, h2, g10⟩ := gA.push (fresh_back eA nE) nE (Nw.of eB) hE
              refine ⟨ys, h1, BC.sz_lt (by rw [h2, List.length_map, List.length_range]; omega), (eA.trans eB).mut nD, ?_⟩
              rw [List.range_succ (n := v), List.map_append]
              exact g10
          · obtain ⟨eA, gA⟩ := hP
            have gA : GridN H' HA D fullG := gA
            exact hR _ _ ⟨D, rfl, eA, gA.at⟩
        obtain ⟨F, rfl, e2, gF⟩ := hC
        walk_at "sx"
        refine ⟨sz_ok (by omega), fun p np => ⟨by decide, by decide, ?_⟩⟩
        have ep := Ex.new np (o := .lst [V.int 0])
        have hp0 : De K (upd H2 p (.lst [V.int 0])) (.ref p) (nestD 0) := .lst (.inl (.inl upd_same)) (.cons (.int 0) .nil)
        have gF2 := gF.ex ep
        generalize hH3 : upd H2 p (.lst [V.int 0]) = H3 at ep hp0 gF2 ⊢
        refine lg_rng (JNs H3 (some (.ref b)) (some (.int mo)) (some (.ref s)) (some (.ref F)) l7 l8) ⟨_, _, rfl, Ex.refl _, hp0⟩ (fun i σ' H4 hi hP => ?_) (fun σ' H4 hP => ?_)
        · obtain ⟨l3, v, rfl, e4, hv⟩ := hP
          walk_at "sx"
          refine ⟨sz_ok (by omega), fun q nq => ?_⟩
          have eq := Ex.new nq (o := .lst [v])
          exact ⟨_, _, rfl, e4.trans eq, .lst (.inl (.inl upd_same)) (.cons (De.ex eq _ _ hv) .nil)⟩
        · obtain ⟨l3, v, rfl, e4, hv⟩ := hP
          have gF4 := gF2.ex e4
          have hv : De K H4 v (nestD 37) := hv
          dsimp only
          refine seq_asg (fun u H5 => ∃ o xs, u = .ref o ∧ Ex H4 H5 ∧ H5 o = some (.lst xs) ∧ DeAll K H5 xs someD) (fun R hR => ?_) (fun u H5 hC => ?_)
          · walk_at "sx"
            obtain ⟨gx, hF, hgl, hga⟩ := de_gridAll (K := K) gF4
            refine ⟨sz_ok (by omega), fun a0 na0 => ⟨sz_ok (by omega), fun a1 na1 => ?_⟩⟩
            have x0 := Ex.new na0 (o := .lst [])
            have x1 := Ex.new na1 (o := .lst [V.ref a0])
            refine catE ((x0.trans x1) _ _ hF) upd_same (by rw [hgl, show fullG.length = 12 from rfl]; simp) fun a2 H6 na2 x2 q2 => ?_
            have X2 := (x0.trans x1).trans x2
            refine ⟨sz_ok (by omega), fun b0 nb0 => ⟨sz_ok (by omega), fun b1 nb1 => ?_⟩⟩
            have x3 := Ex.new nb0 (o := .lst [])
            have x4 := Ex.new nb1 (o := .lst [V.ref b0])
            refine repE (k := 12) upd_same (by omega) (by simp) fun b2 H7 nb2 x5 q5 => ?_
            refine ⟨sz_ok (by omega), fun c0 nc0 => ⟨sz_ok (by omega), fun c1 nc1 => ?_⟩⟩
            have x6 := Ex.new nc0 (o := .lst [])
            have x7 := Ex.new nc1 (o := .lst [V.ref c0])
            refine repE (k := 13) upd_same (by omega) (by simp) fun c2 H8 nc2 x8 q8 => ?_
            have X8 := (((x3.trans x4).trans x5).trans (x6.trans x7)).trans x8
            refine ⟨sz_ok (by omega), fun d0 nd0 => ⟨sz_ok (by omega), fun d1 nd1 => ⟨sz_ok (by omega), fun d2 nd2 => ?_⟩⟩⟩
            have y0 := Ex.new nd0 (o := .lst [V.int 1])
            have y1 := Ex.new nd1 (o := .lst [V.bl true])
            have y2 := Ex.new nd2 (o := .lst [V.ref d0, V.ref d1])
            have D4 : De K (upd (upd (upd H8 d0 (.lst [V.int 1])) d1 (.lst [V.bl true])) d2 (.lst [V.ref d0, V.ref d1])) (.ref d2) (.list [.list [.int 1], .list [.bool true]]) :=
              .lst (.inl (.inl upd_same)) (.cons (.lst (.inl (.inl (y2 _ _ (y1 _ _ upd_same)))) (.cons (.int 1) .nil)) (.cons (.lst (.inl (.inl (y2 _ _ upd_same))) (.cons (.bl true) .nil)) .nil))
            have Y2 := (y0.trans y1).trans y2
            generalize upd (upd (upd H8 d0 (.lst [V.int 1])) d1 (.lst [V.bl true])) d2 (.lst [V.ref d0, V.ref d1]) = H9 at D4 Y2 ⊢
            refine ⟨sz_ok (by omega), fun e0 ne0 => ⟨sz_ok (by omega), fun e1 ne1 => ⟨sz_ok (by omega), fun e2' ne2 => ?_⟩⟩⟩
            have z0 := Ex.new ne0 (o := .lst [])
            have z1 := Ex.new ne1 (o := .lst [V.int 0])
            have z2 := Ex.new ne2 (o := .lst [V.ref e0, V.ref e1])
            have D5 : De K (upd (upd (upd H9 e0 (.lst [])) e1 (.lst [V.int 0])) e2' (.lst [V.ref e0, V.ref e1])) (.ref e2') (.list [.list [], .list [.int 0]]) :=
              .lst (.inl (.inl upd_same)) (.cons (.lst (.inl (.inl (z2 _ _ (z1 _ _ upd_same)))) .nil) (.cons (.lst (.inl (.inl (z2 _ _ upd_same))) (.cons (.int 0) .nil)) .nil))
            have Z2 := (z0.trans z1).trans z2
            generalize upd (upd (upd H9 e0 (.lst [])) e1 (.lst [V.int 0])) e2' (.lst [V.ref e0, V.ref e1]) = H10 at D5 Z2 ⊢
            refine ⟨sz_ok (by omega), fun f0 nf0 => ⟨sz_ok (by omega), fun f1 nf1 => ?_⟩⟩
            have w0 := Ex.new nf0 (o := .lst [V.int 0])
            have w1 := Ex.new nf1 (o := .lst [V.ref f0])
            have D6 : De K (upd (upd H10 f0 (.lst [V.int 0])) f1 (.lst [V.ref f0])) (.ref f1) (.list [.list [.int 0]]) :=
              .lst (.inl (.inl upd_same)) (.cons (.lst (.inl (.inl (w1 _ _ upd_same))) (.cons (.int 0) .nil)) .nil)
            have W1 := w0.trans w1
            generalize upd (upd H10 f0 (.lst [V.int 0])) f1 (.lst [V.ref f0]) = H11 at D6 W1 ⊢
            refine ⟨sz_ok (by omega), fun g0 ng0 => ⟨sz_ok (by omega), fun g1 ng1 => ⟨sz_ok (by omega), fun g2 ng2 => ⟨sz_ok (by omega), fun g3 ng3 => ?_⟩⟩⟩⟩
            have u0 := Ex.new ng0 (o := .lst [V.int 1])
            have u1 := Ex.new ng1 (o := .lst [V.int 0])
            have u2 := Ex.new ng2 (o := .lst [V.int 2])
            have u3 := Ex.new ng3 (o := .lst [V.ref g0, V.ref g1, V.ref g2])
            have D8 : De K (upd (upd (upd (upd H11 g0 (.lst [V.int 1])) g1 (.lst [V.int 0])) g2 (.lst [V.int 2])) g3 (.lst [V.ref g0, V.ref g1, V.ref g2])) (.ref g3) (.list [.list [.int 1], .list [.int 0], .list [.int 2]]) :=
              .lst (.inl (.inl upd_same)) (.cons (.lst (.inl (.inl (u3 _ _ (u2 _ _ (u1 _ _ upd_same))))) (.cons (.int 1) .nil)) (.cons (.lst (.inl (.inl (u3 _ _ (u2 _ _ upd_same)))) (.cons (.int 0) .nil)) (.cons (.lst (.inl (.inl (u3 _ _ upd_same))) (.cons (.int 2) .nil)) .nil)))
            have U3 := ((u0.trans u1).trans u2).trans u3
            generalize upd (upd (upd (upd H11 g0 (.lst [V.int 1])) g1 (.lst [V.int 0])) g2 (.lst [V.int 2])) g3 (.lst [V.ref g0, V.ref g1, V.ref g2]) = H12 at D8 U3 ⊢
            refine ⟨sz_ok (by omega), fun o no => ?_⟩
            have eo := Ex.new no (o := .lst [V.ref F, V.ref a2, V.ref b2, V.ref c2, V.ref d2, V.ref e2', V.ref f1, v, V.ref g3])
            have G11 := U3.trans eo
            have G10 := W1.trans G11
            have G9 := Z2.trans G10
            have G8 := Y2.trans G9
            have G7 := (x6.trans x7).trans (x8.trans G8)
            have G6 := ((x3.trans x4).trans x5).trans G7
            have G4 := X2.trans G6
            rw [rep_one] at q5 q8
            refine hR _ _ ⟨o, _, rfl, G4, upd_same, .cons ?_ (.cons ?_ (.cons ?_ (.cons ?_ (.cons ?_ (.cons ?_ (.cons ?_ (.cons ?_ (.cons ?_ .nil))))))))⟩
            · exact De.ex G4 _ _ (.lst (.inl (.inl hF)) hga)
            · exact De.ex G6 _ _ (.lst (.inl (.inl q2)) ((DeAll.ex X2 _ _ hga).app (.cons (.lst (.inl (.inl (x2 _ _ (x1 _ _ upd_same)))) .nil) .nil)))
            · exact De.ex G7 _ _ (.lst (.inl (.inl q5)) (de_rep (.lst (.inl (.inl (x5 _ _ (x4 _ _ upd_same)))) .nil) 12))
            · exact De.ex G8 _ _ (.lst (.inl (.inl q8)) (de_rep (.lst (.inl (.inl (x8 _ _ (x7 _ _ upd_same)))) .nil) 13))
            · exact De.ex G9 _ _ D4
            · exact De.ex G10 _ _ D5
            · exact De.ex G11 _ _ D6
            · exact De.ex G4 _ _ hv
            · exact De.ex eo _ _ D8
          obtain ⟨o, xs, rfl, e5, ho, hall⟩ := hC
          have lx := hall.len
          have l9 : someD.length = 9 := rfl
          walk_at "sx"
          refine ⟨⟨_, .inl (.inl ho)⟩, fun D nD => ?_⟩
          refine lc_list (xs := xs) (fun _ => true) (fun j => V.bl (isSiteD (someD.getD j .none))) (.inl (.inl ho)) nD (by omega) (fun u => rfl) (fun j x _ => tyes) (fun j x hj _ => ?_) (fun H6 e6 hD => ?_)
          · obtain ⟨d, hdj, hde⟩ := hall.at hj
            intro H7 e7 R hR
            walk_at "sx"
            refine ⟨_, rfl, _, d, rfl, De.ex e7 _ _ hde, rowsB_ok (List.all_eq_true.mp someD_rows d (List.mem_of_getElem? hdj)), fun H8 e8 => ?_⟩
            rw [show d = someD.getD j .none by rw [List.getD_eq_getElem?_getD, hdj]; rfl]
            exact hR _ e8
          · rw [kept_ds lx, someD_site] at hD
            refine ⟨sz_ok (by omega), fun z nz1 => ?_⟩
            have ez := Ex.new nz1 (o := .lst [V.bl true, V.bl false, V.bl true, V.bl false, V.bl false, V.bl true, V.bl false, V.bl false, V.bl false])
            have db : ∀ (bs : List Bool) (Hx : Hp), DpAll K Hx (bs.map V.bl) (bs.map PyData.bool) := fun bs Hx => by
              induction bs with
              | nil => exact .nil
              | cons b bs ih => exact .cons (.bl b) ih
            refine ⟨_, _, .lst (.inl (.inl (ez _ _ hD))) (db _ _), .lst (.inl (.inl upd_same)) (db [true, false, true, false, false, true, false, false, false] _), by decide +kernel, by decide +kernel, ?_⟩
            rw [show PyData.eqv _ _ = true from by decide +kernel]
            exact k _ (f3.trans (Fx.of ((((e2.trans ep).trans e4).trans e5).trans (e6.trans ez))))
end
end LW

set_option Elab.async false
set_option linter.all false
set_option maxRecDepth 100000
set_option maxHeartbeats 4000000
namespace LW
open PySem PySem.Spec PyProof.Rows L2 BC Evl TR
local macro_rules | `(tactic| walk_at "sx") => `(tactic| try simp only [x_seq, x_next, x_brk, x_cnt, x_nev, x_ret, x_retN, x_drop, x_ifS, x_asg, x_gn, x_gsub, x_par, x_par3, x_aug, x_for, x_lc, x_rng1, x_rng2, x_rng3, x_ilist, x_itup, x_ienum, x_izip, x_izipA, x_istr, x_var, x_c, x_op, x_un, x_test, x_b, x_chain, x_and, x_or, x_not, x_andV, x_orV, x_notV, x_ife, x_nil, x_cons, x_lst, x_tup, x_cb, x_call, x_callK, x_bm, x_bm0, x_tru, x_sl, x_nopart, x_part, x_revL, x_I0, x_I, x_U, x_ip, x_ipC, x_eqI, x_neI, x_eqB, x_neB, x_eqS, x_neS, x_isB, x_isNB, x_lrg, x_gall, x_lenSet, x_augS, x_sortSet, x_sortSetB, x_lenSetA, x_rg1, x_rg2,
  L2.start, List.map_cons, List.map_nil, List.length_cons, List.length_nil, Nat.reduceAdd, Nat.reduceSub, Nat.sub_self, Nat.zero_add, List.replicate, List.replicate_succ, List.replicate_zero, List.append_nil, List.cons_append, List.nil_append, List.set_cons_zero, List.set_cons_succ, List.getElem?_cons_zero, List.getElem?_cons_succ, Option.some.injEq, V.int.injEq, V.bl.injEq, V.ref.injEq, V.str.injEq, List.cons.injEq, and_true, true_and, exists_eq_left', exists_eq_left, exists_and_left, exists_eq, if_true, if_false, ite_true, ite_false, Bool.true_eq_false, Bool.false_eq_true, reduceIte, reduceCtorEq, Bool.not_true, Bool.not_false, decide_true, decide_false, decide_eq_true_eq, Bool.and_true, Bool.true_and, Bool.and_self, Bool.and_false, Bool.false_and, Bool.or_self, Bool.or_false, Bool.false_or, Bool.or_true, Bool.true_or, eq_self])
section
variable {P : Program} {w : World} {K : PySem.W.Frag} {mg : Str → Option Value} {base : Heap}
def spLaw (K : PySem.W.Frag) : Sp := fun vs H Q _ => ∃ (a : Addr) (ns : List Int), vs = [.ref a] ∧ SqL K H a (ns.map V.int) ∧ ns.length ≤ 63 ∧ ∀ H', Q (.bl true) H'
def JO (H1 : Hp) (a : Addr) (i : Nat) (σ' : L2.St) (H' : Hp) : Prop := ∃ l1 l2, σ' = [some (.ref a), l1, l2] ∧ Ex H1 H'
theorem ok_law (T : Txt K mg) : FnG P w K mg base CX0 6 T.f_law T.fd_law ["_law_script"] (spLaw K) := by
  refine fun_okN T.F_law sc_law (fun vs H Q E h => ?_) (fun cdv A outer s H vs Q E hG hr h => ?_)
  · obtain ⟨a, ns, rfl, _⟩ := h
    rfl
  · obtain ⟨a, ns, rfl, hA, hn, k⟩ := h
    apply Exists.intro
    apply And.intro
    · apply pss_cons
      · apply ps_for PassesOwn.never rfl
        · exact (k_pi_enum (K := K) rfl (by rfl) T.n_enumerate (pa_cons (pe_slice (k_sl_list (K := K) rfl) (pe_op (k_catS (K := K) rfl) (pv 0) (pe_lst (pa_cons pe_int pa_nil))) po_none (po_some (pe_callB (call_max2 rfl) (by rfl) T.n_max (by decide +kernel) (pa_cons pe_int (pa_cons (pe_callB (call_min2 rfl) (by rfl) T.n_min (by decide +kernel) (pa_cons (pe_callB (k_len (K := K) rfl) (by rfl) T.n_len PySem.boot_len (pa_cons (pv 0) pa_nil)) (pa_cons pe_int pa_nil))) pa_nil))))) pa_nil))
        · exact (k_tup (K := K) (n := 2) rfl rfl (pgs_cons (pg_name (i := 1) sc_law.nd rfl (.inl rfl)) (pgs_cons (pg_name (i := 2) sc_law.nd rfl (.inl rfl)) pgs_nil)))
        · apply pss_one
          apply ps_if
          · exact (pt_not (pt_val (pe_callG (ok_law_holds T) hG (hr.mono (by decide)) (by rfl) T.m_law_holds T.F_law_holds.kp T.b_law_holds .nil pass0 (pa_cons (pe_call (ok_law_source T) (hr.mono (by decide)) (by rfl) T.m_law_source T.F_law_source.kp T.b_law_source .nil pass0 (pa_cons (pv 2) (pa_cons (pv 1) pa_nil))) (pa_cons (pe_ifExp (pt_cmpR (k_eqD (K := K) rfl hr.units) (pv 0) (pe_lst pa_nil) (by rfl)) pe_int pe_int) pa_nil)))))
          · apply pss_one
            exact (ps_ret pe_bl)
          · exact pss_nil
      apply pss_one
      exact (ps_ret pe_bl)
    walk_at "sx"
    refine ⟨sz_ok (by omega), fun z nz => ?_⟩
    have ez := Ex.new nz (o := .lst [V.int 0])
    refine catS (ex_l ez hA) (.inl (.inl upd_same)) (sz_ok (by rw [List.length_map, List.length_singleton]; omega)) fun c nc => ?_
    have ec := Ex.new nc (o := .lst (ns.map V.int ++ [V.int 0]))
    have hA2 := ex_l (ez.trans ec) hA
    refine lenL hA2 ?_
    rw [List.length_map]
    refine ⟨_, _, ⟨rfl, rfl⟩, _, _, ⟨rfl, rfl⟩, ?_⟩
    refine slL (.inl (.inl upd_same)) fun L nL => ?_
    have hmem : ∀ x ∈ cutV (ns.map V.int ++ [V.int 0]) none (some (if (if (24 : Int) < ((ns.length : Nat) : Int) then (24 : Int) else ((ns.length : Nat) : Int)) > 1 then (if (24 : Int) < ((ns.length : Nat) : Int) then (24 : Int) else ((ns.length : Nat) : Int)) else 1)), ∃ n, x = V.int n := fun x hx => by
      rcases List.mem_append.mp (cutV_mem hx) with h | h
      · obtain ⟨n, _, e⟩ := List.mem_map.mp h
        exact ⟨n, e.symm⟩
      · exact ⟨0, List.mem_singleton.mp h⟩
    have hlen := cutV_len (ns.map V.int ++ [V.int 0]) none (some (if (if (24 : Int) < ((ns.length : Nat) : Int) then (24 : Int) else ((ns.length : Nat) : Int)) > 1 then (if (24 : Int) < ((ns.length : Nat) : Int) then (24 : Int) else ((ns.length : Nat) : Int)) else 1))
    rw [List.length_append, List.length_map, List.length_singleton] at hlen
    generalize (cutV (ns.map V.int ++ [V.int 0]) none (some (if (if (24 : Int) < ((ns.length : Nat) : Int) then (24 : Int) else ((ns.length : Nat) : Int)) > 1 then (if (24 : Int) < ((ns.length : Nat) : Int) then (24 : Int) else ((ns.length : Nat) : Int)) else 1))) = xs at hmem hlen ⊢
    have eL := Ex.new nL (o := .lst xs)
    have hL : (upd (upd (upd H z (.lst [V.int 0])) c (.lst (ns.map V.int ++ [V.int 0]))) L (.lst xs)) L = some (.lst xs) := upd_same
    have hA3 := ex_l eL hA2
    generalize (upd (upd (upd H z (.lst [V.int 0])) c (.lst (ns.map V.int ++ [V.int 0]))) L (.lst xs)) = H1 at hL hA3 ⊢
    refine ⟨L, rfl, xs, .inl (.inl hL), ?_⟩
    refine lg_enum (xs := xs) (JO H1 a) ⟨none, none, rfl, Ex.refl H1⟩ (fun i σ' H' hi hP => by obtain ⟨_, _, _, e⟩ := hP; exact .inl (.inl (e _ _ hL)))
      (fun i x σ' H' T hx hP nT => ?_) (fun σ' H' hP => ?_)
    · obtain ⟨l1, l2, rfl, e⟩ := hP
      obtain ⟨n, rfl⟩ := hmem x (List.mem_of_getElem? hx)
      have hi := (List.getElem?_eq_some_iff.mp hx).1
      refine g_two upd_same ?_
      have eT := Ex.new nT (o := .tup [V.int i, V.int n])
      simp only [List.set_cons_zero, List.set_cons_succ]
      walk_at "sx"
      refine ⟨n, i, rfl, by omega, fun b H2 nb e2 hb => ?_⟩
      have nbH : H' b = none := fresh_back eT nb
      have e12 := (e.trans eT).trans e2
      refine ⟨sz_ok (by omega), fun z nz => ?_⟩
      have ez := Ex.new nz (o := .lst [])
      refine eqInts (ms := []) (ex_l (e12.trans ez) hA3) (.inl (.inl upd_same)) ?_
      have fin : ∀ mo : Nat, 1 ≤ mo → mo ≤ 12 → spHolds K [.ref b, .int mo] (upd H2 z (.lst [])) (fun x H3 => ∃ k, x = V.bl k ∧ (if (!k) = true then Q (.bl false) H3 else JO H1 a (i + 1) [some (.ref a), some (.int i), some (.int n)] H3)) E0 := fun mo h1 h2 => by
        refine ⟨b, mo, 0, rfl, h1, h2, hb.ex ez, by omega, fun H3 f3 => ⟨true, rfl, ?_⟩⟩
        rw [if_neg (by decide)]
        exact ⟨_, _, rfl, e.trans (((Fx.of (eT.trans e2)).trans ((Fx.of ez).trans f3)).ex nbH)⟩
      refine ⟨_, rfl, ?_⟩
      cases decide (ns = [])
      · rw [if_neg (by decide)]
        exact fin 12 (by omega) (by omega)
      · rw [if_pos rfl]
        exact fin 4 (by omega) (by omega)
    · obtain ⟨l1, l2, rfl, e⟩ := hP
      walk_at "sx"
      exact k _
end
end LW

set_option Elab.async false
set_option linter.all false
set_option maxRecDepth 100000
set_option maxHeartbeats 4000000
namespace LW
open PySem PySem.Spec PyProof.Rows L2 BC Evl TR
theorem all_mk {l : PySem.W.OpenLaw} {w : World} {K : PySem.W.Frag} {h : Heap} {mg : Str → Option Value} {fa : Addr} (X : K.In h) (G : h.Ns mainGlobals mg) (hfa : mg "law" = some (.ref fa))
    {f0 : Addr} {od0 an0 : Option Addr} {sl0 : Array (Option Value)} {oc0 kV0 dc0 pm0 cd0 ct0 : Value}
    {f1 : Addr} {od1 an1 : Option Addr} {sl1 : Array (Option Value)} {oc1 kV1 dc1 pm1 cd1 ct1 : Value}
    {f2 : Addr} {od2 an2 : Option Addr} {sl2 : Array (Option Value)} {oc2 kV2 dc2 pm2 cd2 ct2 : Value}
    {f3 : Addr} {od3 an3 : Option Addr} {sl3 : Array (Option Value)} {oc3 kV3 dc3 pm3 cd3 ct3 : Value}
    {f4 : Addr} {od4 an4 : Option Addr} {sl4 : Array (Option Value)} {oc4 kV4 dc4 pm4 cd4 ct4 : Value}
    {f5 : Addr} {od5 an5 : Option Addr} {sl5 : Array (Option Value)} {oc5 kV5 dc5 pm5 cd5 ct5 : Value}
    {f6 : Addr} {od6 an6 : Option Addr} {sl6 : Array (Option Value)} {oc6 kV6 dc6 pm6 cd6 ct6 : Value}
    {f7 : Addr} {od7 an7 : Option Addr} {sl7 : Array (Option Value)} {oc7 kV7 dc7 pm7 cd7 ct7 : Value}
    {f8 : Addr} {od8 an8 : Option Addr} {sl8 : Array (Option Value)} {oc8 kV8 dc8 pm8 cd8 ct8 : Value}
    {f9 : Addr} {od9 an9 : Option Addr} {sl9 : Array (Option Value)} {oc9 kV9 dc9 pm9 cd9 ct9 : Value}
    {f10 : Addr} {od10 an10 : Option Addr} {sl10 : Array (Option Value)} {oc10 kV10 dc10 pm10 cd10 ct10 : Value}
    {tt_MOST_PAGES : Tok}
    (a0 : PySem.W.nsIn K mainGlobals "is_integer" = some (some (.ref f0))) (l0 : K.lookup f0 = some ⟨oc0, od0, .func (PySem.W.fnOf "is_integer" "is_integer" (defArgs s_is_integer) (defBody s_is_integer) (defScope s_is_integer) .none kV0 dc0 pm0 an0 cd0 ct0), sl0⟩) (c0 : PySem.W.codeIn K cd0 "is_integer" = true) (k0 : PySem.W.keepIn K (.ref f0) = true)
    (a1 : PySem.W.nsIn K mainGlobals "is_row" = some (some (.ref f1))) (l1 : K.lookup f1 = some ⟨oc1, od1, .func (PySem.W.fnOf "is_row" "is_row" (defArgs s_is_row) (defBody s_is_row) (defScope s_is_row) .none kV1 dc1 pm1 an1 cd1 ct1), sl1⟩) (c1 : PySem.W.codeIn K cd1 "is_row" = true) (k1 : PySem.W.keepIn K (.ref f1) = true)
    (a2 : PySem.W.nsIn K mainGlobals "is_site" = some (some (.ref f2))) (l2 : K.lookup f2 = some ⟨oc2, od2, .func (PySem.W.fnOf "is_site" "is_site" (defArgs s_is_site) (defBody s_is_site) (defScope s_is_site) .none kV2 dc2 pm2 an2 cd2 ct2), sl2⟩) (c2 : PySem.W.codeIn K cd2 "is_site" = true) (k2 : PySem.W.keepIn K (.ref f2) = true)
    (a3 : PySem.W.nsIn K mainGlobals "_law_source" = some (some (.ref f3))) (l3 : K.lookup f3 = some ⟨oc3, od3, .func (PySem.W.fnOf "_law_source" "_law_source" (defArgs s_law_source) (defBody s_law_source) (defScope s_law_source) .none kV3 dc3 pm3 an3 cd3 ct3), sl3⟩) (c3 : PySem.W.codeIn K cd3 "_law_source" = true) (k3 : PySem.W.keepIn K (.ref f3) = true)
    (a4 : PySem.W.nsIn K mainGlobals "_law_draw" = some (some (.ref f4))) (l4 : K.lookup f4 = some ⟨oc4, od4, .func (PySem.W.fnOf "_law_draw" "_law_draw" (defArgs s_law_draw) (defBody s_law_draw) (defScope s_law_draw) .none kV4 dc4 pm4 an4 cd4 ct4), sl4⟩) (c4 : PySem.W.codeIn K cd4 "_law_draw" = true) (k4 : PySem.W.keepIn K (.ref f4) = true)
    (a5 : PySem.W.nsIn K mainGlobals "_law_net" = some (some (.ref f5))) (l5 : K.lookup f5 = some ⟨oc5, od5, .func (PySem.W.fnOf "_law_net" "_law_net" (defArgs s_law_net) (defBody s_law_net) (defScope s_law_net) .none kV5 dc5 pm5 an5 cd5 ct5), sl5⟩) (c5 : PySem.W.codeIn K cd5 "_law_net" = true) (k5 : PySem.W.keepIn K (.ref f5) = true)
    (a6 : PySem.W.nsIn K mainGlobals "_law_is_net" = some (some (.ref f6))) (l6 : K.lookup f6 = some ⟨oc6, od6, .func (PySem.W.fnOf "_law_is_net" "_law_is_net" (defArgs s_law_is_net) (defBody s_law_is_net) (defScope s_law_is_net) .none kV6 dc6 pm6 an6 cd6 ct6), sl6⟩) (c6 : PySem.W.codeIn K cd6 "_law_is_net" = true) (k6 : PySem.W.keepIn K (.ref f6) = true)
    (a7 : PySem.W.nsIn K mainGlobals "_law_bad_net" = some (some (.ref f7))) (l7 : K.lookup f7 = some ⟨oc7, od7, .func (PySem.W.fnOf "_law_bad_net" "_law_bad_net" (defArgs s_law_bad_net) (defBody s_law_bad_net) (defScope s_law_bad_net) .none kV7 dc7 pm7 an7 cd7 ct7), sl7⟩) (c7 : PySem.W.codeIn K cd7 "_law_bad_net" = true) (k7 : PySem.W.keepIn K (.ref f7) = true)
    (a8 : PySem.W.nsIn K mainGlobals "_law_checked" = some (some (.ref f8))) (l8 : K.lookup f8 = some ⟨oc8, od8, .func (PySem.W.fnOf "_law_checked" "_law_checked" (defArgs s_law_checked) (defBody s_law_checked) (defScope s_law_checked) .none kV8 dc8 pm8 an8 cd8 ct8), sl8⟩) (c8 : PySem.W.codeIn K cd8 "_law_checked" = true) (k8 : PySem.W.keepIn K (.ref f8) = true)
    (a9 : PySem.W.nsIn K mainGlobals "_law_holds" = some (some (.ref f9))) (l9 : K.lookup f9 = some ⟨oc9, od9, .func (PySem.W.fnOf "_law_holds" "_law_holds" (defArgs s_law_holds) (defBody s_law_holds) (defScope s_law_holds) .none kV9 dc9 pm9 an9 cd9 ct9), sl9⟩) (c9 : PySem.W.codeIn K cd9 "_law_holds" = true) (k9 : PySem.W.keepIn K (.ref f9) = true)
    (a10 : PySem.W.nsIn K mainGlobals "law" = some (some (.ref f10))) (l10 : K.lookup f10 = some ⟨oc10, od10, .func (PySem.W.fnOf "law" "law" (defArgs s_law) (defBody s_law) (defScope s_law) .none kV10 dc10 pm10 an10 cd10 ct10), sl10⟩) (c10 : PySem.W.codeIn K cd10 "law" = true) (k10 : PySem.W.keepIn K (.ref f10) = true)
    (q_MOST_PAGES : PySem.W.nsIn K mainGlobals "MOST_PAGES" = some (some (.int 12 tt_MOST_PAGES)))
    (z_abs : PySem.W.nsIn K mainGlobals "abs" = some none)
    (z_all : PySem.W.nsIn K mainGlobals "all" = some none)
    (z_bool : PySem.W.nsIn K mainGlobals "bool" = some none)
    (z_enumerate : PySem.W.nsIn K mainGlobals "enumerate" = some none)
    (z_int : PySem.W.nsIn K mainGlobals "int" = some none)
    (z_isinstance : PySem.W.nsIn K mainGlobals "isinstance" = some none)
    (z_len : PySem.W.nsIn K mainGlobals "len" = some none)
    (z_list : PySem.W.nsIn K mainGlobals "list" = some none)
    (z_max : PySem.W.nsIn K mainGlobals "max" = some none)
    (z_min : PySem.W.nsIn K mainGlobals "min" = some none)
    (z_range : PySem.W.nsIn K mainGlobals "range" = some none)
    (z_repr : PySem.W.nsIn K mainGlobals "repr" = some none)
    (z_set : PySem.W.nsIn K mainGlobals "set" = some none)
    (z_sorted : PySem.W.nsIn K mainGlobals "sorted" = some none)
    (z_tuple : PySem.W.nsIn K mainGlobals "tuple" = some none) :
    ∃ fd : FuncData, (∀ (s : Shared) (v : Value), BindsTo s fd ⟨[v], []⟩ [("_law_script", v)]) ∧ ∀ base : Heap, K.In base → base.Ns mainGlobals mg → FnG l.prog w K mg base CX0 6 fa fd ["_law_script"] (spLaw K) := by
  have e := hfa.symm.trans (PySem.W.mg_of X G a10)
  cases e
  let T : Txt K mg := ⟨f0, _, fun_mk (st := s_is_integer) l0 c0 k0, PySem.W.mg_of X G a0, (fun_mk (st := s_is_integer) l0 c0 k0).binds fun _ _ _ _ _ _ us hl => match us, hl with | [_, _, _], _ => rfl,
    f1, _, fun_mk (st := s_is_row) l1 c1 k1, PySem.W.mg_of X G a1, (fun_mk (st := s_is_row) l1 c1 k1).binds fun _ _ _ _ _ _ us hl => match us, hl with | [_, _, _], _ => rfl,
    f2, _, fun_mk (st := s_is_site) l2 c2 k2, PySem.W.mg_of X G a2, (fun_mk (st := s_is_site) l2 c2 k2).binds fun _ _ _ _ _ _ us hl => match us, hl with | [_], _ => rfl,
    f3, _, fun_mk (st := s_law_source) l3 c3 k3, PySem.W.mg_of X G a3, (fun_mk (st := s_law_source) l3 c3 k3).binds fun _ _ _ _ _ _ us hl => match us, hl with | [_, _], _ => rfl,
    f4, _, fun_mk (st := s_law_draw) l4 c4 k4, PySem.W.mg_of X G a4, (fun_mk (st := s_law_draw) l4 c4 k4).binds fun _ _ _ _ _ _ us hl => match us, hl with | [_, _], _ => rfl,
    f5, _, fun_mk (st := s_law_net) l5 c5 k5, PySem.W.mg_of X G a5, (fun_mk (st := s_law_net) l5 c5 k5).binds fun _ _ _ _ _ _ us hl => match us, hl with | [_, _], _ => rfl,
    f6, _, fun_mk (st := s_law_is_net) l6 c6 k6, PySem.W.mg_of X G a6, (fun_mk (st := s_law_is_net) l6 c6 k6).binds fun _ _ _ _ _ _ us hl => match us, hl with | [_], _ => rfl,
    f7, _, fun_mk (st := s_law_bad_net) l7 c7 k7, PySem.W.mg_of X G a7, (fun_mk (st := s_law_bad_net) l7 c7 k7).binds fun _ _ _ _ _ _ us hl => match us, hl with | [_, _], _ => rfl,
    f8, _, fun_mk (st := s_law_checked) l8 c8 k8, PySem.W.mg_of X G a8, (fun_mk (st := s_law_checked) l8 c8 k8).binds fun _ _ _ _ _ _ us hl => match us, hl with | [_], _ => rfl,
    f9, _, fun_mk (st := s_law_holds) l9 c9 k9, PySem.W.mg_of X G a9, (fun_mk (st := s_law_holds) l9 c9 k9).binds fun _ _ _ _ _ _ us hl => match us, hl with | [_, _], _ => rfl,
    fa, _, fun_mk (st := s_law) l10 c10 k10, PySem.W.mg_of X G a10, (fun_mk (st := s_law) l10 c10 k10).binds fun _ _ _ _ _ _ us hl => match us, hl with | [_], _ => rfl,
    tt_MOST_PAGES, PySem.W.mg_of X G q_MOST_PAGES,
    PySem.W.mg_none_of X G z_abs,
    PySem.W.mg_none_of X G z_all,
    PySem.W.mg_none_of X G z_bool,
    PySem.W.mg_none_of X G z_enumerate,
    PySem.W.mg_none_of X G z_int,
    PySem.W.mg_none_of X G z_isinstance,
    PySem.W.mg_none_of X G z_len,
    PySem.W.mg_none_of X G z_list,
    PySem.W.mg_none_of X G z_max,
    PySem.W.mg_none_of X G z_min,
    PySem.W.mg_none_of X G z_range,
    PySem.W.mg_none_of X G z_repr,
    PySem.W.mg_none_of X G z_set,
    PySem.W.mg_none_of X G z_sorted,
    PySem.W.mg_none_of X G z_tuple⟩
  exact ⟨T.fd_law, fun s v => .of_eq rfl, fun base _ _ => ok_law T⟩

end LW
open PySem PySem.W PyProof.Rows
set_option maxHeartbeats 0 in
theorem PySem.Challenge.cw_breadcrumbs_k01_sites_recognized_holds : PySem.Challenge.rw_breadcrumbs_k01_sites_recognized.Holds := by
  w_on; o_law; k_head; (case hw => w_witness2)
  k_fill
  refine BC.walk_G (l := PySem.Challenge.rw_breadcrumbs_k01_sites_recognized) (n := 63) (k := 6) (x := "_law_script") (sp := fun w => LW.spLaw _) rfl (by decide) rfl ⟨rfl, by decide, by decide⟩ (fun w h Y => PySem.W.kIn_of Y) ?F (fun w H a ns hl hS => ⟨a, ns, rfl, hS, hl, fun _ => rfl⟩)
  case F =>
    intro w mg fa h KX G hmg
    refine' LW.all_mk KX G hmg ?a0 ?l0 ?c0 ?k0 ?a1 ?l1 ?c1 ?k1 ?a2 ?l2 ?c2 ?k2 ?a3 ?l3 ?c3 ?k3 ?a4 ?l4 ?c4 ?k4 ?a5 ?l5 ?c5 ?k5 ?a6 ?l6 ?c6 ?k6 ?a7 ?l7 ?c7 ?k7 ?a8 ?l8 ?c8 ?k8 ?a9 ?l9 ?c9 ?k9 ?a10 ?l10 ?c10 ?k10 ?q_MOST_PAGES ?z_abs ?z_all ?z_bool ?z_enumerate ?z_int ?z_isinstance ?z_len ?z_list ?z_max ?z_min ?z_range ?z_repr ?z_set ?z_sorted ?z_tuple
    (case a0 => k_is); (case l0 => k_is); (case c0 => k_is); (case k0 => k_is); (case a1 => k_is); (case l1 => k_is); (case c1 => k_is); (case k1 => k_is); (case a2 => k_is); (case l2 => k_is); (case c2 => k_is); (case k2 => k_is); (case a3 => k_is); (case l3 => k_is); (case c3 => k_is); (case k3 => k_is); (case a4 => k_is); (case l4 => k_is); (case c4 => k_is); (case k4 => k_is); (case a5 => k_is); (case l5 => k_is); (case c5 => k_is); (case k5 => k_is); (case a6 => k_is); (case l6 => k_is); (case c6 => k_is); (case k6 => k_is); (case a7 => k_is); (case l7 => k_is); (case c7 => k_is); (case k7 => k_is); (case a8 => k_is); (case l8 => k_is); (case c8 => k_is); (case k8 => k_is); (case a9 => k_is); (case l9 => k_is); (case c9 => k_is); (case k9 => k_is); (case a10 => k_is); (case l10 => k_is); (case c10 => k_is); (case k10 => k_is); (case q_MOST_PAGES => k_is); (case z_abs => k_is); (case z_all => k_is); (case z_bool => k_is); (case z_enumerate => k_is); (case z_int => k_is); (case z_isinstance => k_is); (case z_len => k_is); (case z_list => k_is); (case z_max => k_is); (case z_min => k_is); (case z_range => k_is); (case z_repr => k_is); (case z_set => k_is); (case z_sorted => k_is); (case z_tuple => k_is)

