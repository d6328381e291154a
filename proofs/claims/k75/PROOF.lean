import PyProof.Rows.All
import Wide.All
import OpenK.AllK
import Wide.FinOn
import HandS.ForMost
import HandS.IsInst
import HandS.Style
import HandS.Wide
import HandS.Evl
import HandS.Zip
import HandS.SortKw
import HandS.Conv
import HandS.TupLe
import HandS.RaiseMore
import HandS.Defaults
import HandS.SetFor
import HandS.Strs
import HandS.GenList
import HandS.DictTup
import HandS.Iter
import KE.KDictCopyH
import KE.KDictWalk
import KE.KDictDisplayH
import KE.SortData
import HandS.Property
import HandS.DictComp
import HandS.ListItems
import HandS.SortRule
import HandS.ExcIs
import HandS.ExcValue
import HandS.TryOnly
import HandS.HotCalls
import HandS.WordsExc
import HandS.ExcOwn
import HandS.CallSlots
import KE.KDictOf
import KE.KCallOwn
import KE.KSortTupAny
import HandS.Deep
import PySem.Challenge.RW_breadcrumbs_k75_stays_and_cuts
set_option Elab.async false
set_option linter.all false
set_option maxRecDepth 100000
set_option maxHeartbeats 4000000
namespace BC
open PySem PySem.Spec PyProof.Rows L2
section
variable {X : Cx}
/-- a power of a number of any size that matters here -/
def CPowX (i j : Int) : Prop := 0 ≤ j ∧ j ≤ 1000 ∧ i.natAbs.log2 < 100000
theorem op_powX : OpR X (binaryOp .Pow) (rI CPowX fun i j => .int (i ^ j.toNat)) := opI fun i j _ _ _ _ _ hc q => by
  obtain ⟨h0, h1, h2⟩ := hc
  refine pow_int h0 ?_ q
  have hb : Builtin.Int.intBits i ≤ 100000 := by
    unfold Builtin.Int.intBits
    split <;> omega
  have h3 : (Builtin.Int.intBits i : Int) * j ≤ 100000 * j := Int.mul_le_mul_of_nonneg_right (by omega) h0
  omega
/-- a product: one factor small, or both of bounded size -/
def CMulX (i j : Int) : Prop := CMul i j ∨ CMulW i j
theorem op_mulX : OpR X (binaryOp .Mult) (rI CMulX fun i j => .int (i * j)) := opI fun _ _ _ _ _ _ _ hc q => by
  rcases hc with hc | hc
  · exact mul_int q hc.ok
  · exact mul_int q hc.ok
theorem op_fdivX : OpR X (binaryOp .FloorDiv) (rI CDivW fun i j => .int (i / j)) := op_fdivW
theorem op_modX : OpR X (binaryOp .Mod) (rI (fun _ j => 0 < j) fun i j => .int (i % j)) := opI fun i j _ _ _ _ _ hc q => by
  refine mod_int' (show j ≠ 0 by omega) ?_
  rw [Int.fmod_eq_emod_of_nonneg i (by omega)]
  exact q
def ipC (C : Int → Int → Prop) (f : Int → Int → Int) : TIp := fun x y H Q => ∃ i j, x = .int i ∧ y = .int j ∧ C i j ∧ Q (.int (f i j)) H
theorem ip_mulX : PIp X .Mult (ipC CMulX fun i j => i * j) := by
  intro pins s σ H x y v u Q I r1 r2 h
  obtain ⟨i, j, rfl, rfl, hc, q⟩ := h
  obtain ⟨t, rfl⟩ := r1
  obtain ⟨t', rfl⟩ := r2
  have ok : IntMulOk i j := by
    rcases hc with hc | hc
    · exact hc.ok
    · exact hc.ok
  exact imul_int ⟨.int (i * j), H, I.tok _, ⟨_, rfl⟩, q⟩ ok
end
end BC

/-! ### readings opened one construct at a time: full applications alone, so that what stands in a loop is left closed -/
namespace BC
open PySem PySem.Spec PyProof.Rows L2
section
variable {K : PySem.W.Frag} {σ : L2.St} {H : Hp} {Q : VK} {QT : Bool → Hp → Prop} {QA : List V → Hp → Prop} {D : Ends} {ta tb tc : TE} {t u : TT} {a : TA} {r r' : R2} {i j : Nat} {v x y : V} {s1 s2 : TS} {g : TG} {QG : L2.St → Hp → Prop}
def LoopG (J : It) (g : TG) (tb : TS) : TS := fun D σ H => ∃ W : Nat → Nat → L2.St → Hp → Prop, (∃ m, W 0 m σ H) ∧ ∀ i m σ H, W i m σ H →
  (J.stop i H ∧ D.nx σ H) ∨ (J.go i H ∧ ∃ N : L2.St → Hp → Prop, (∀ σ' H', N σ' H' → ∃ m', m' < m ∧ W (i + 1) m' σ' H') ∧ ∀ x H', J.yld i H x H' → g x σ H' fun σ2 H2 => tb { D with nx := N, ct := N, bk := D.nx } σ2 H2)
def LcG (J : It) (g : TG) (tt : TT) (te : TE) (vs : List Nat) (σ : L2.St) (Dl : Addr) (H1 : Hp) (Q : VK) : Prop := ∃ W : Nat → Nat → Hp → Prop, (∃ m, W 0 m (upd H1 Dl (.lst []))) ∧ ∀ i m H, W i m H →
  (J.stop i H ∧ Q (.ref Dl) H) ∨ (J.go i H ∧ ∃ Nx : Hp → Prop, (∀ H', Nx H' → ∃ m', m' < m ∧ W (i + 1) m' H') ∧ ∀ x H', J.yld i H x H' → g x (wipe σ vs) H' fun σ2 H2 => wipe σ2 vs = wipe σ vs ∧ tt σ2 H2 fun b H3 =>
    if b = true then te σ2 H3 fun y H4 => ∃ acc, H4 Dl = some (.lst acc) ∧ acc.length < sizeLine ∧ Nx (upd H4 Dl (.lst (acc ++ [y]))) else Nx H3)
theorem x_seq : tSeq s1 s2 D σ H = s1 { D with nx := s2 D } σ H := rfl
theorem x_next : tNext D σ H = D.nx σ H := rfl
theorem x_brk : tBreak D σ H = D.bk σ H := rfl
theorem x_cnt : tCont D σ H = D.ct σ H := rfl
theorem x_nev : tNever D σ H = False := rfl
theorem x_ret : tRet ta D σ H = ta σ H D.rt := rfl
theorem x_retN : tRetN D σ H = D.rt .non H := rfl
theorem x_drop : tDrop ta D σ H = ta σ H (fun _ H1 => D.nx σ H1) := rfl
theorem x_ifS : tIfS t s1 s2 D σ H = t σ H (fun b H1 => if b = true then s1 D σ H1 else s2 D σ H1) := rfl
theorem x_asg : tAsg ta g D σ H = ta σ H (fun x H1 => g x σ H1 D.nx) := rfl
theorem x_gn : gName i v σ H QG = QG (σ.set i (some v)) H := rfl
theorem x_gsub {o ix : TE} {st : TSet} : gSub o ix st v σ H QG = o σ H (fun o H1 => ix σ H1 fun i H2 => st o i v H2 fun H3 => QG σ H3) := rfl
theorem x_par : tPar i j a D σ H = a σ H (fun vs H1 => ∃ v w, vs = [v, w] ∧ D.nx ((σ.set i (some v)).set j (some w)) H1) := rfl
theorem x_par3 {l : Nat} : tPar3 i j l a D σ H = a σ H (fun vs H1 => ∃ u v w, vs = [u, v, w] ∧ D.nx (((σ.set i (some u)).set j (some v)).set l (some w)) H1) := rfl
theorem x_aug {ti : TIp} : tAug i ta ti D σ H = ∃ x, σ[i]? = some (some x) ∧ ta σ H fun y H1 => ti x y H1 fun z H2 => D.nx (σ.set i (some z)) H2 := rfl
theorem x_for {wi : TI} : tFor wi g s1 D σ H = wi σ H (fun J H1 => LoopG J g s1 D σ H1) := rfl
theorem x_lc {wi : TI} {vs : List Nat} : tLc wi g t ta vs σ H Q = wi σ H (fun J H1 => ∀ Dl, H1 Dl = none → LcG J g t ta vs σ Dl H1 Q) := rfl
theorem x_rng1 {R : It → Hp → Prop} : iRng1 a σ H R = a σ H (fun vs H1 => ∃ j : Int, vs = [.int j] ∧ -(2 ^ 62) ≤ j ∧ j < 2 ^ 62 ∧ R (Itr 0 j.toNat) H1) := rfl
theorem x_rng2 {R : It → Hp → Prop} : iRng2 a σ H R = a σ H (fun vs H1 => ∃ i j : Int, vs = [.int i, .int j] ∧ (-(2 ^ 62) ≤ i ∧ i < 2 ^ 62 ∧ -(2 ^ 62) ≤ j ∧ j < 2 ^ 62) ∧ R (Itr i (j - i).toNat) H1) := rfl
theorem x_rng3 {R : It → Hp → Prop} : iRng3 a σ H R = a σ H (fun vs H1 => ∃ (i j c : Int) (n : Nat), vs = [.int i, .int j, .int c] ∧ RgC i j c n ∧ R (Itc i c n) H1) := rfl
theorem x_ilist {R : It → Hp → Prop} : iList K ta σ H R = ta σ H (fun x H1 => ∃ a, x = .ref a ∧ (∃ xs, SqL K H1 a xs) ∧ R (Itl K a) H1) := rfl
theorem x_itup {R : It → Hp → Prop} : iTup K ta σ H R = ta σ H (fun x H1 => ∃ a, x = .ref a ∧ (∃ xs, SqT K H1 a xs) ∧ R (Itt K a) H1) := rfl
theorem x_ienum {R : It → Hp → Prop} : iEnum K a σ H R = a σ H (fun vs H1 => ∃ a xs, vs = [.ref a] ∧ SqL K H1 a xs ∧ R (Ite K a) H1) := rfl
theorem x_izip {R : It → Hp → Prop} : iZip K a σ H R = a σ H (fun vs H1 => ∃ a b xs ys, vs = [.ref a, .ref b] ∧ SqL K H1 a xs ∧ SqL K H1 b ys ∧ R (Itz K a b) H1) := rfl
theorem x_istr {R : It → Hp → Prop} : iStr ta σ H R = ta σ H (fun v H1 => ∃ x, v = .str x ∧ R (Its x) H1) := rfl
theorem x_var : tVar i σ H Q = ∃ v, σ[i]? = some (some v) ∧ Q v H := rfl
theorem x_c : tC v σ H Q = Q v H := rfl
theorem x_op : tOp r ta tb σ H Q = ta σ H (fun x H1 => tb σ H1 fun y H2 => r x y H2 Q) := rfl
theorem x_un {ru : V → Hp → VK → Prop} : tUn ru ta σ H Q = ta σ H (fun x H1 => ru x H1 Q) := rfl
theorem x_test : tTest ta σ H QT = ta σ H (fun x H' => ∃ k, x = .bl k ∧ QT k H') := rfl
theorem x_b : tB ta σ H QT = ta σ H (fun x H' => ∃ k, x = .bl k ∧ QT k H') := rfl
theorem x_chain : tChain r r' ta tb tc σ H Q = ta σ H (fun x H1 => tb σ H1 fun y H2 => r x y H2 fun z H3 => ∃ k, z = .bl k ∧ (if k = true then tc σ H3 fun w' H4 => r' y w' H4 Q else Q (.bl false) H3)) := rfl
theorem x_and : tAnd t u σ H QT = t σ H (fun c H1 => if c = true then u σ H1 QT else QT false H1) := rfl
theorem x_or : tOr t u σ H QT = t σ H (fun c H1 => if c = true then QT true H1 else u σ H1 QT) := rfl
theorem x_not : tNot t σ H QT = t σ H (fun c H1 => QT (!c) H1) := rfl
theorem x_andV : tAndV ta tb σ H Q = ta σ H (fun x H1 => ∃ c, x = .bl c ∧ if c = true then tb σ H1 Q else Q (.bl false) H1) := rfl
theorem x_orV : tOrV ta tb σ H Q = ta σ H (fun x H1 => ∃ c, x = .bl c ∧ if c = true then Q (.bl true) H1 else tb σ H1 Q) := rfl
theorem x_notV : tNotV ta σ H Q = ta σ H (fun x H1 => ∃ c, x = .bl c ∧ Q (.bl (!c)) H1) := rfl
theorem x_ife : tIf t ta tb σ H Q = t σ H (fun c H1 => if c = true then ta σ H1 Q else tb σ H1 Q) := rfl
theorem x_nil : tNil σ H QA = QA [] H := rfl
theorem x_cons {rest : TA} : tCons ta rest σ H QA = ta σ H (fun x H1 => rest σ H1 fun xs H2 => QA (x :: xs) H2) := rfl
theorem x_lst : tLst a σ H Q = a σ H (fun xs H1 => xs.length ≤ sizeLine ∧ ∀ p, H1 p = none → Q (.ref p) (upd H1 p (.lst xs))) := rfl
theorem x_tup : tTup a σ H Q = a σ H (fun xs H1 => xs.length ≤ sizeLine ∧ ∀ p, H1 p = none → Q (.ref p) (upd H1 p (.tup xs))) := rfl
theorem x_cb {rc : List V → Hp → VK → Prop} : tCB rc a σ H Q = a σ H (fun vs H1 => rc vs H1 Q) := rfl
theorem x_call {sp : Sp} {dvs : List V} {E : XK} : tCall sp dvs E a σ H Q = a σ H (fun vs H1 => sp (vs ++ dvs) H1 Q E) := rfl
theorem x_callK {sp : Sp} {gV : List V → List V → List V} {E : XK} {b : TA} : tCallK sp gV E a b σ H Q = a σ H (fun vs H1 => b σ H1 fun zs H2 => sp (gV vs zs) H2 Q E) := rfl
theorem x_bm {T : String} {rm : V → List V → Hp → VK → Prop} : tBM K T rm ta a σ H Q = ta σ H (fun x H1 => tyV K T x H1 ∧ a σ H1 fun xs H2 => rm x xs H2 Q) := rfl
theorem x_bm0 {T : String} {rm : V → List V → Hp → VK → Prop} : tBM0 K T rm ta σ H Q = ta σ H (fun x H1 => tyV K T x H1 ∧ rm x [] H1 Q) := rfl
theorem x_sl {rs : V → Option Int → Option Int → Hp → VK → Prop} {tl th : TO} : tSl rs ta tl th σ H Q = ta σ H (fun x H1 => tl σ H1 fun l H2 => th σ H2 fun u H3 => rs x l u H3 Q) := rfl
theorem x_nopart {QO : Option Int → Hp → Prop} : tNoPart σ H QO = QO none H := rfl
theorem x_part {QO : Option Int → Hp → Prop} : tPart ta σ H QO = ta σ H (fun x H1 => ∃ i, x = .int i ∧ QO (some i) H1) := rfl
theorem x_revL : tRevL K ta σ H Q = ta σ H (fun x H1 => ∃ a xs, x = .ref a ∧ SqL K H1 a xs ∧ ∀ p, H1 p = none → Q (.ref p) (upd H1 p (.lst xs.reverse))) := rfl
theorem x_I0 {f : Int → Int → V} {m n : Int} : rI0 f (.int m) (.int n) H Q ↔ Q (f m n) H := ⟨fun ⟨i, j, e1, e2, q⟩ => by cases e1; cases e2; exact q, fun q => ⟨m, n, rfl, rfl, q⟩⟩
theorem x_I {C : Int → Int → Prop} {f : Int → Int → V} {m n : Int} : rI C f (.int m) (.int n) H Q ↔ C m n ∧ Q (f m n) H := ⟨fun ⟨i, j, e1, e2, q⟩ => by cases e1; cases e2; exact q, fun q => ⟨m, n, rfl, rfl, q⟩⟩
theorem x_U {f : Int → V} {m : Int} : rU f (.int m) H Q ↔ Q (f m) H := ⟨fun ⟨i, e1, q⟩ => by cases e1; exact q, fun q => ⟨m, rfl, q⟩⟩
theorem x_ip {f : Int → Int → Int} {m n : Int} : ipI f (.int m) (.int n) H Q ↔ Q (.int (f m n)) H := ⟨fun ⟨i, j, e1, e2, q⟩ => by cases e1; cases e2; exact q, fun q => ⟨m, n, rfl, rfl, q⟩⟩
theorem x_ipC {C : Int → Int → Prop} {f : Int → Int → Int} {m n : Int} : ipC C f (.int m) (.int n) H Q ↔ C m n ∧ Q (.int (f m n)) H := ⟨fun ⟨i, j, e1, e2, q⟩ => by cases e1; cases e2; exact q, fun q => ⟨m, n, rfl, rfl, q⟩⟩
theorem x_eqI {m n : Int} : rEq (.int m) (.int n) H Q ↔ Q (.bl (decide (m = n))) H := by
  unfold rEq
  rw [show scal (V.int m) (V.int n) = true from rfl]
  by_cases e : m = n
  · subst e; simp
  · simp [e]
theorem x_neI {m n : Int} : rNe (.int m) (.int n) H Q ↔ Q (.bl (!decide (m = n))) H := by
  unfold rNe
  rw [show scal (V.int m) (V.int n) = true from rfl]
  by_cases e : m = n
  · subst e; simp
  · simp [e]
end
/-! ### the rules that speak of the written part, by its own name -/
section
variable {X : Cx} {K : PySem.W.Frag}
theorem k_pi_list {tg l : Expr} {tl : TE} (hK : X.K = K) (hl : PE X l tl) : PI X tg l (iList K tl) := by subst hK; exact pi_list hl
theorem k_pi_tup {tg l : Expr} {tl : TE} (hK : X.K = K) (hl : PE X l tl) : PI X tg l (iTup K tl) := by subst hK; exact pi_tup hl
theorem k_pi_enum {e : Expr} {ta : TA} {p pos tpos : Pos} {elts : List Expr} {kk : Nat} (hK : X.K = K) (hg : Gl X "enumerate") (hm : X.mg "enumerate" = none) (ha : PA X [e] ta) (hs : starEach [e] X.env = [(false, eval e X.env)] := by rfl) : PI X (.Tuple elts kk tpos) (.Call (.Name "enumerate" p) [e] [] pos) (iEnum K ta) := by subst hK; exact pi_enum hg hm ha hs
theorem k_pi_zip {e e2 : Expr} {ta : TA} {p pos tpos : Pos} {elts : List Expr} {kk : Nat} (hK : X.K = K) (hg : Gl X "zip") (hm : X.mg "zip" = none) (ha : PA X [e, e2] ta)
    (hs : starEach [e, e2] X.env = (false, eval e X.env) :: starEach [e2] X.env := by rfl) (hpl : (backTo pos (starEach [e2] X.env)).any (·.1) = false := by rfl) : PI X (.Tuple elts kk tpos) (.Call (.Name "zip" p) [e, e2] [] pos) (iZip K ta) := by subst hK; exact pi_zip hg hm ha hs hpl
theorem k_ix_list (hK : X.K = K) : IxR X (rIxL K) := by subst hK; exact ix_list
theorem k_ix_tup (hK : X.K = K) : IxR X (rIxT K) := by subst hK; exact ix_tup
theorem k_sl_list (hK : X.K = K) : SlR X (rSlL K) := by subst hK; exact sl_list
theorem k_in (hK : X.K = K) : OpR X (compareOp .In) (rIn K false) := by subst hK; exact op_in_seq
theorem k_notIn (hK : X.K = K) : OpR X (compareOp .NotIn) (rIn K true) := by subst hK; exact op_notIn_seq
theorem k_eqD (hK : X.K = K) (hu : X.A.units + 64 < cLine) : OpR X (compareOp .Eq) (rEqD K) := by subst hK; exact op_eqD hu
theorem k_neD (hK : X.K = K) (hu : X.A.units + 64 < cLine) : OpR X (compareOp .NotEq) (rNeD K) := by subst hK; exact op_neD hu
def rLen (K : PySem.W.Frag) : List V → Hp → VK → Prop := fun xs H Q => ∃ p ys, xs = [.ref p] ∧ (SqL K H p ys ∨ SqT K H p ys) ∧ Q (.int ys.length) H
def rListOf (K : PySem.W.Frag) : List V → Hp → VK → Prop := fun xs H Q => ∃ p ys, xs = [.ref p] ∧ (SqL K H p ys ∨ SqT K H p ys) ∧ ∀ l, H l = none → Q (.ref l) (upd H l (.lst ys))
def rTupOf (K : PySem.W.Frag) : List V → Hp → VK → Prop := fun xs H Q => ∃ p ys, xs = [.ref p] ∧ ((SqL K H p ys ∧ ∀ l, H l = none → Q (.ref l) (upd H l (.tup ys))) ∨ (SqT K H p ys ∧ Q (.ref p) H))
theorem k_len (hK : X.K = K) : CallR X (.builtin "len") (rLen K) := by subst hK; exact call_len_seq
theorem k_listOf (hK : X.K = K) : CallR X (.type "list") (rListOf K) := by subst hK; exact call_list_of
theorem k_tupOf (hK : X.K = K) : CallR X (.type "tuple") (rTupOf K) := by subst hK; exact call_tuple_of
theorem k_isi (hK : X.K = K) : CallR X (.builtin "isinstance") (rIsi K) := by subst hK; exact call_isi
theorem k_sum (hK : X.K = K) (hc : X.calm = true) : CallR X (.builtin "sum") (rSum K) := by subst hK; exact cr_sum hc
theorem k_all (hK : X.K = K) (hc : X.calm = true) : CallR X (.builtin "all") (rAll K) := by subst hK; exact cr_all hc
theorem k_any (hK : X.K = K) (hc : X.calm = true) : CallR X (.builtin "any") (rAny K) := by subst hK; exact cr_any hc
theorem k_sorted (hK : X.K = K) : CallR X (.builtin "sorted") (rSorted K) := by subst hK; exact cr_sorted
def tTruK (K : PySem.W.Frag) (ta : TE) : TT := fun σ H Q => ta σ H fun x H' => ∃ k, TruV K x H' k ∧ Q k H'
theorem k_truth {a : Expr} {ta : TE} (hK : X.K = K) (ha : PE X a ta) (he : ∀ whole, isTrue a X.env whole = (do let v ← whole; standAt a.pos; holding [v] (truthy v))) : PT X a (tTruK K ta) := by subst hK; exact pt_truth ha he
theorem k_tup {es : List Expr} {k n : Nat} {pos : Pos} {t : TGs} (hK : X.K = K) (hc : X.calm = true) (h : PGs X es t)
    (hn : (assignEach es X.env).length = n := by rfl) (hst : (assignEach es X.env).findIdx? (·.1) = none := by rfl) : PG X (.Tuple es k pos) (gTup K n t) := by subst hK; exact pg_tup hc h hn hst
theorem k_bm0 {T : String} {to : TE} {r : V → List V → Hp → VK → Prop} {e : Expr} (hK : X.K = K) (h : PE X e (tBM0 X.K T r to)) : PE X e (tBM0 K T r to) := by subst hK; exact h
theorem k_bm {T : String} {to : TE} {ta : TA} {r : V → List V → Hp → VK → Prop} {e : Expr} (hK : X.K = K) (h : PE X e (tBM X.K T r to ta)) : PE X e (tBM K T r to ta) := by subst hK; exact h
theorem k_rev {e : Expr} {te : TE} {k : Nat} {p1 p2 p3 pos : Pos} (hK : X.K = K) (he : PE X e te) : PE X (.Subscript e (.Slice none none (some (.UnaryOp .USub (.Constant (.int 1) k p1) p2)) p3) pos) (tRevL K te) := by subst hK; exact pe_revL he
theorem k_index (hK : X.K = K) : MtR X "list.index" (rIndex K) := by subst hK; exact mt_index
end
section
variable {K : PySem.W.Frag} {σ : L2.St} {H : Hp} {ta : TE} {QT : Bool → Hp → Prop}
theorem x_tru : tTruK K ta σ H QT = ta σ H (fun x H' => ∃ k, TruV K x H' k ∧ QT k H') := rfl
end
/-! ### loops -/
section
variable {K : PySem.W.Frag} {σ : L2.St} {H : Hp} {D : Ends} {g : TG} {tb : TS}
theorem lg_rng {lo : Int} {n : Nat} (Pv : Nat → L2.St → Hp → Prop) (h0 : Pv 0 σ H)
    (hs : ∀ i σ H, i < n → Pv i σ H → g (.int (lo + i)) σ H fun σ2 H2 => tb { D with nx := Pv (i + 1), ct := Pv (i + 1), bk := D.nx } σ2 H2) (hd : ∀ σ H, Pv n σ H → D.nx σ H) : LoopG (Itr lo n) g tb D σ H := for_range Pv h0 hs hd
theorem lg_rngC {lo c : Int} {n : Nat} (Pv : Nat → L2.St → Hp → Prop) (h0 : Pv 0 σ H)
    (hs : ∀ i σ H, i < n → Pv i σ H → g (.int (lo + (i : Nat) * c)) σ H fun σ2 H2 => tb { D with nx := Pv (i + 1), ct := Pv (i + 1), bk := D.nx } σ2 H2) (hd : ∀ σ H, Pv n σ H → D.nx σ H) : LoopG (Itc lo c n) g tb D σ H := for_rangeC Pv h0 hs hd
theorem lg_list {a : Addr} {xs : List V} (Pv : Nat → L2.St → Hp → Prop) (h0 : Pv 0 σ H) (hl : ∀ i σ H, i ≤ xs.length → Pv i σ H → SqL K H a xs)
    (hs : ∀ i x σ H, xs[i]? = some x → Pv i σ H → g x σ H fun σ2 H2 => tb { D with nx := Pv (i + 1), ct := Pv (i + 1), bk := D.nx } σ2 H2) (hd : ∀ σ H, Pv xs.length σ H → D.nx σ H) : LoopG (Itl K a) g tb D σ H := for_list Pv h0 hl hs hd
/-- enumerate over a list that stands still: each pair is a new tuple -/
theorem lg_enum {a : Addr} {xs : List V} (Pv : Nat → L2.St → Hp → Prop) (h0 : Pv 0 σ H) (hl : ∀ i σ H, i ≤ xs.length → Pv i σ H → SqL K H a xs)
    (hs : ∀ i x σ H T, xs[i]? = some x → Pv i σ H → H T = none → g (.ref T) σ (upd H T (.tup [.int (i : Nat), x])) fun σ2 H2 => tb { D with nx := Pv (i + 1), ct := Pv (i + 1), bk := D.nx } σ2 H2) (hd : ∀ σ H, Pv xs.length σ H → D.nx σ H) : LoopG (Ite K a) g tb D σ H := by
  refine ⟨fun i m σ H => m = xs.length - i ∧ i ≤ xs.length ∧ Pv i σ H, ⟨xs.length, by simp, Nat.zero_le _, h0⟩, ?_⟩
  rintro i m σ H ⟨rfl, hi, p⟩
  have q := hl i σ H hi p
  by_cases hlt : i < xs.length
  · refine .inr ⟨⟨xs, xs[i], q, by simp [hlt]⟩, Pv (i + 1), fun σ' H' p' => ⟨xs.length - (i + 1), by omega, rfl, hlt, p'⟩, fun x H' y => ?_⟩
    obtain ⟨T, x', rfl, hT, rfl, f⟩ := y
    exact hs i x' σ H T (f xs q) p hT
  · have e : i = xs.length := by omega
    subst e
    exact .inl ⟨⟨xs, q, Nat.le_refl _⟩, hd σ H p⟩
/-- a pair unpacked -/
theorem g_two {i j : Nat} {T : Addr} {x y : V} {QG : L2.St → Hp → Prop} (h : H T = some (.tup [x, y])) (q : QG ((σ.set i (some x)).set j (some y)) H) : gTup K 2 (gCons (gName i) (gCons (gName j) gNil)) (.ref T) σ H QG :=
  ⟨T, [x, y], rfl, .inl (.inl h), rfl, x, [y], rfl, y, [], rfl, rfl, q⟩
end
/-! ### comprehensions over lists whose elements are given by a function of the turn -/
section
variable {K : PySem.W.Frag} {σ : L2.St} {H1 : Hp} {g : TG} {tt : TT} {te : TE} {vs : List Nat} {Dl : Addr} {Q : VK}
theorem lc_g (n : Nat) {J : It} (Pv : Nat → Hp → Prop) (h0 : Pv 0 (upd H1 Dl (.lst []))) (hst : ∀ H, Pv n H → J.stop n H) (hgo : ∀ i H, i < n → Pv i H → J.go i H)
    (hs : ∀ i H x H', i < n → Pv i H → J.yld i H x H' → g x (wipe σ vs) H' fun σ2 H2 => wipe σ2 vs = wipe σ vs ∧ tt σ2 H2 fun b H3 =>
      if b = true then te σ2 H3 fun y H4 => ∃ acc, H4 Dl = some (.lst acc) ∧ acc.length < sizeLine ∧ Pv (i + 1) (upd H4 Dl (.lst (acc ++ [y]))) else Pv (i + 1) H3) (hd : ∀ H, Pv n H → Q (.ref Dl) H) : LcG J g tt te vs σ Dl H1 Q := by
  refine ⟨fun i m H => m = n - i ∧ i ≤ n ∧ Pv i H, ⟨n, by simp, Nat.zero_le _, h0⟩, ?_⟩
  rintro i m H ⟨rfl, hi, p⟩
  by_cases hlt : i < n
  · exact .inr ⟨hgo i H hlt p, Pv (i + 1), fun H' p' => ⟨n - (i + 1), by omega, rfl, hlt, p'⟩, fun x H' y => hs i H x H' hlt p y⟩
  · have e : i = n := by omega
    subst e
    exact .inl ⟨hst H p, hd H p⟩
end
/-! ### comprehensions that change nothing -/
section
variable {K : PySem.W.Frag} {σ : L2.St} {H1 : Hp} {g : TG} {tt : TT} {te : TE} {vs : List Nat} {Dl : Addr} {Q : VK}
def kept (n : Nat) (keep : Nat → Bool) (f : Nat → V) : List V := ((List.range n).filter keep).map f
theorem kept_yes {n : Nat} {k : Nat → Bool} {f : Nat → V} (h : k n = true) : kept (n + 1) k f = kept n k f ++ [f n] := by
  unfold kept
  rw [List.range_succ, List.filter_append, List.map_append]
  simp [h]
theorem kept_no {n : Nat} {k : Nat → Bool} {f : Nat → V} (h : k n = false) : kept (n + 1) k f = kept n k f := by
  unfold kept
  rw [List.range_succ, List.filter_append, List.map_append]
  simp [h]
theorem kept_len (n : Nat) (k : Nat → Bool) (f : Nat → V) : (kept n k f).length ≤ n := by
  unfold kept
  rw [List.length_map]
  exact Nat.le_trans (List.length_filter_le _ _) (by rw [List.length_range]; exact Nat.le_refl _)
theorem kept_all (n : Nat) (f : Nat → V) : kept n (fun _ => true) f = (List.range n).map f := by
  unfold kept
  rw [List.filter_eq_self.mpr (by simp)]
theorem lc_pure {J : It} (n : Nat) (item : Nat → L2.St) (keep : Nat → Bool) (f : Nat → V) (hD : H1 Dl = none) (hn : n ≤ 100000)
    (hst : ∀ H', Evl.Ex H1 H' → J.stop n H') (hgo : ∀ i H', i < n → Evl.Ex H1 H' → J.go i H')
    (hy : ∀ i H' x H'' (QG : L2.St → Hp → Prop), i < n → Evl.Ex H1 H' → J.yld i H' x H'' → (Evl.Ex H' H'' → QG (item i) H'') → g x (wipe σ vs) H'' QG)
    (hw : ∀ i, i < n → wipe (item i) vs = wipe σ vs) (ht : ∀ i, i < n → Evl.EvT tt (item i) H1 (keep i)) (he : ∀ i, i < n → keep i = true → Evl.Ev te (item i) H1 (f i))
    (hd : ∀ H', Evl.Ex H1 H' → H' Dl = some (.lst (kept n keep f)) → Q (.ref Dl) H') : LcG J g tt te vs σ Dl H1 Q := by
  refine lc_g n (fun i H' => Evl.Ex H1 H' ∧ H' Dl = some (.lst (kept i keep f))) ⟨Evl.Ex.new hD, upd_same⟩ (fun H' h => hst H' h.1) (fun i H' hi h => hgo i H' hi h.1) (fun i H' x H'' hi h y => ?_) (fun H' h => hd H' h.1 h.2)
  obtain ⟨e, hl⟩ := h
  refine hy i H' x H'' _ hi e y fun e2 => ⟨hw i hi, ht i hi H'' (e.trans e2) _ fun H3 e3 => ?_⟩
  have hl3 := e3 _ _ (e2 _ _ hl)
  cases hk : keep i with
  | false =>
    show (if false = true then _ else _)
    rw [if_neg Bool.false_ne_true, kept_no hk]
    exact ⟨(e.trans e2).trans e3, hl3⟩
  | true =>
    show (if true = true then _ else _)
    rw [if_pos rfl]
    refine he i hi hk H3 ((e.trans e2).trans e3) _ fun H4 e4 => ⟨_, e4 _ _ hl3, Nat.lt_of_lt_of_le (Nat.lt_of_le_of_lt (kept_len i keep f) hi) (Nat.le_trans hn (by decide)), ?_⟩
    rw [kept_yes hk]
    exact ⟨(((e.trans e2).trans e3).trans e4).mut hD, upd_same⟩
theorem tyes {σ : L2.St} {H : Hp} : Evl.EvT tYes σ H true := fun H1 _ _ q => q H1 (Evl.Ex.refl H1)
theorem lc_enum {a : Addr} {xs : List V} {j k : Nat} (keep : Nat → Bool) (f : Nat → V) (hx : SqL K H1 a xs) (hD : H1 Dl = none) (hn : xs.length ≤ 100000)
    (hw : ∀ u v : V, wipe (((wipe σ vs).set j (some u)).set k (some v)) vs = wipe σ vs)
    (ht : ∀ i x, xs[i]? = some x → Evl.EvT tt (((wipe σ vs).set j (some (.int (i : Nat)))).set k (some x)) H1 (keep i))
    (he : ∀ i x, xs[i]? = some x → keep i = true → Evl.Ev te (((wipe σ vs).set j (some (.int (i : Nat)))).set k (some x)) H1 (f i))
    (hd : ∀ H', Evl.Ex H1 H' → H' Dl = some (.lst (kept xs.length keep f)) → Q (.ref Dl) H') : LcG (Ite K a) (gTup K 2 (gCons (gName j) (gCons (gName k) gNil))) tt te vs σ Dl H1 Q := by
  refine lc_pure xs.length (fun i => ((wipe σ vs).set j (some (.int (i : Nat)))).set k (some (xs.getD i .non))) keep f hD hn (fun H' e => ⟨xs, Evl.ex_l e hx, Nat.le_refl _⟩) (fun i H' hi e => ⟨xs, xs[i], Evl.ex_l e hx, List.getElem?_eq_getElem hi⟩)
    (fun i H' x H'' QG hi e y q => ?_) (fun i hi => hw _ _) (fun i hi => ht i _ (by rw [List.getD_eq_getElem?_getD, List.getElem?_eq_getElem hi]; rfl)) (fun i hi => he i _ (by rw [List.getD_eq_getElem?_getD, List.getElem?_eq_getElem hi]; rfl)) hd
  obtain ⟨T, v, rfl, hT, rfl, hf⟩ := y
  have hv := hf xs (Evl.ex_l e hx)
  have e1 : xs.getD i .non = v := by rw [List.getD_eq_getElem?_getD, hv]; rfl
  refine g_two upd_same ?_
  have q2 := q (Evl.Ex.new hT)
  rw [e1] at q2
  exact q2
theorem lc_list {a : Addr} {xs : List V} {j : Nat} (keep : Nat → Bool) (f : Nat → V) (hx : SqL K H1 a xs) (hD : H1 Dl = none) (hn : xs.length ≤ 100000)
    (hw : ∀ u : V, wipe ((wipe σ vs).set j (some u)) vs = wipe σ vs)
    (ht : ∀ i x, xs[i]? = some x → Evl.EvT tt ((wipe σ vs).set j (some x)) H1 (keep i))
    (he : ∀ i x, xs[i]? = some x → keep i = true → Evl.Ev te ((wipe σ vs).set j (some x)) H1 (f i))
    (hd : ∀ H', Evl.Ex H1 H' → H' Dl = some (.lst (kept xs.length keep f)) → Q (.ref Dl) H') : LcG (Itl K a) (gName j) tt te vs σ Dl H1 Q := by
  refine lc_pure xs.length (fun i => (wipe σ vs).set j (some (xs.getD i .non))) keep f hD hn (fun H' e => ⟨xs, Evl.ex_l e hx, Nat.le_refl _⟩) (fun i H' hi e => ⟨xs, xs[i], Evl.ex_l e hx, List.getElem?_eq_getElem hi⟩)
    (fun i H' x H'' QG hi e y q => ?_) (fun i hi => hw _) (fun i hi => ht i _ (by rw [List.getD_eq_getElem?_getD, List.getElem?_eq_getElem hi]; rfl)) (fun i hi => he i _ (by rw [List.getD_eq_getElem?_getD, List.getElem?_eq_getElem hi]; rfl)) hd
  obtain ⟨rfl, hf⟩ := y
  have hv := hf xs (Evl.ex_l e hx)
  have e1 : xs.getD i .non = x := by rw [List.getD_eq_getElem?_getD, hv]; rfl
  show QG _ _
  rw [← e1]
  exact q (Evl.Ex.refl _)
theorem lc_rng {lo : Int} {n j : Nat} (keep : Nat → Bool) (f : Nat → V) (hD : H1 Dl = none) (hn : n ≤ 100000)
    (hw : ∀ u : V, wipe ((wipe σ vs).set j (some u)) vs = wipe σ vs)
    (ht : ∀ i, i < n → Evl.EvT tt ((wipe σ vs).set j (some (.int (lo + i)))) H1 (keep i))
    (he : ∀ i, i < n → keep i = true → Evl.Ev te ((wipe σ vs).set j (some (.int (lo + i)))) H1 (f i))
    (hd : ∀ H', Evl.Ex H1 H' → H' Dl = some (.lst (kept n keep f)) → Q (.ref Dl) H') : LcG (Itr lo n) (gName j) tt te vs σ Dl H1 Q := by
  refine lc_pure n (fun i => (wipe σ vs).set j (some (.int (lo + i)))) keep f hD hn (fun H' e => Nat.le_refl _) (fun i H' hi e => hi)
    (fun i H' x H'' QG hi e y q => ?_) (fun i hi => hw _) ht he hd
  obtain ⟨rfl, rfl⟩ := y
  exact q (Evl.Ex.refl _)
end
/-! ### operations on values -/
section
variable {K : PySem.W.Frag} {H : Hp} {Q : VK}
theorem isi_int {i : Int} {T : String} {b : Bool} (h : kitB "int" T = some b) (q : Q (.bl b) H) : rIsi K [.int i, .ty T] H Q :=
  ⟨.int i, .ty T, .type "int", .type T, b, rfl, .ty T, .base (.int i), kit_ty h, q⟩
theorem ixL {p : Addr} {xs : List V} {i : Int} {v : V} (h : SqL K H p xs) (hi : atI xs i = some v) (q : Q v H) : rIxL K (.ref p) (.int i) H Q := ⟨p, xs, i, v, rfl, rfl, h, hi, q⟩
theorem setL {p : Addr} {xs : List V} {i : Int} {j : Nat} {v : V} {R : Hp → Prop} (h : H p = some (.lst xs)) (hj : ixN xs.length i = some j) (q : R (upd H p (.lst (xs.set j v)))) : rSetL (.ref p) (.int i) v H R := ⟨p, xs, i, j, rfl, rfl, h, hj, q⟩
theorem repL {p : Addr} {xs : List V} {k : Int} (h : H p = some (.lst xs)) (h1 : -(2 ^ 63) ≤ k) (h2 : k < 2 ^ 63) (hz : xs.length * k.toNat ≤ sizeLine) (q : ∀ l, H l = none → Q (.ref l) (upd H l (.lst (List.replicate k.toNat xs).flatten))) : rRep (.ref p) (.int k) H Q := ⟨p, k, xs, rfl, rfl, h, h1, h2, hz, q⟩
theorem catL {p b : Addr} {xs ys : List V} (h : H p = some (.lst xs)) (hb : H b = some (.lst ys)) (hz : xs.length + ys.length ≤ sizeLine) (q : ∀ l, H l = none → Q (.ref l) (upd H l (.lst (xs ++ ys)))) : rCat (.ref p) (.ref b) H Q := ⟨p, b, xs, ys, rfl, rfl, h, hb, hz, q⟩
theorem sumL {p : Addr} {ns : List Int} (h : SqL K H p (ns.map V.int)) (q : Q (.int ns.sum) H) : rSum K [.ref p] H Q := ⟨p, ns, rfl, h, q⟩
theorem appL {p : Addr} {xs : List V} {y : V} (h : H p = some (.lst xs)) (hz : xs.length < sizeLine) (q : Q .non (upd H p (.lst (xs ++ [y])))) : rAppend (.ref p) [y] H Q := ⟨p, xs, y, rfl, rfl, h, hz, q⟩
theorem tyL {p : Addr} {xs : List V} (h : H p = some (.lst xs)) : tyV K "list" (.ref p) H := Or.inl ⟨rfl, _, Or.inl (Or.inl h)⟩
theorem atI_n {xs : List V} {i : Int} {j : Nat} {v : V} (e : i = (j : Int)) (h : xs[j]? = some v) : atI xs i = some v := by
  subst e
  have hj := (List.getElem?_eq_some_iff.mp h).1
  unfold atI ixN
  rw [if_pos (by omega), if_pos (by omega)]
  exact h
theorem ixN_n {n : Nat} {i : Int} {j : Nat} (e : i = (j : Int)) (h : j < n) : ixN n i = some j := by
  subst e
  unfold ixN
  rw [if_pos (by omega), if_pos (by omega)]
  rfl
theorem sz_ok {n : Nat} (h : n ≤ 100000) : n ≤ sizeLine := Nat.le_trans h (by decide)
theorem sz_lt {n : Nat} (h : n < 100000) : n < sizeLine := Nat.lt_of_lt_of_le h (by decide)
end
end BC

set_option Elab.async false
set_option linter.all false
set_option maxRecDepth 100000
set_option maxHeartbeats 4000000
namespace BC
open PySem PySem.Spec PyProof.Rows L2 Evl RZ
/-! ### all but the object at b stands -/
def Fx (b : Addr) (H H' : Hp) : Prop := ∀ a o, a ≠ b → H a = some o → H' a = some o
theorem Fx.refl (b : Addr) (H : Hp) : Fx b H H := fun _ _ _ h => h
theorem Fx.trans {b : Addr} {H H1 H2 : Hp} (x : Fx b H H1) (y : Fx b H1 H2) : Fx b H H2 := fun a o n h => y a o n (x a o n h)
theorem Fx.of {b : Addr} {H H' : Hp} (e : Ex H H') : Fx b H H' := fun a o _ h => e a o h
theorem Fx.put {b : Addr} {H : Hp} {o : HO} : Fx b H (upd H b o) := fun a u n h => by rw [upd_ne n]; exact h
theorem Fx.ex {b : Addr} {H H' : Hp} (x : Fx b H H') (h : H b = none) : Ex H H' := fun a o e => x a o (ne_of_none e h) e
theorem Fx.l {K : PySem.W.Frag} {b a : Addr} {H H' : Hp} {xs : List V} (x : Fx b H H') (n : a ≠ b) (h : SqL K H a xs) : SqL K H' a xs := by
  rcases h with h | h
  · rcases h with h | ⟨o, h⟩
    · exact .inl (.inl (x a _ n h))
    · exact .inl (.inr ⟨o, x a _ n h⟩)
  · exact .inr h
/-! ### lists -/
theorem cutV_mem {xs : List V} {lo hi : Option Int} {x : V} (h : x ∈ cutV xs lo hi) : x ∈ xs := by
  unfold cutV at h
  exact List.mem_of_mem_drop (List.mem_of_mem_take h)
theorem cutV_len (xs : List V) (lo hi : Option Int) : (cutV xs lo hi).length ≤ xs.length := by
  unfold cutV
  rw [List.length_take, List.length_drop]
  omega
theorem two_at0 {x y r : Int} {n : Nat} (h0 : 0 ≤ r) (h1 : r < 2) (hx0 : 0 ≤ x) (hx1 : x ≤ n) (hy0 : 0 ≤ y) (hy1 : y ≤ n) : ∃ m : Nat, m ≤ n ∧ atI [V.int x, V.int y] r = some (.int m) := by
  by_cases e : r = 0
  · exact ⟨x.toNat, by omega, by rw [Int.toNat_of_nonneg hx0]; exact atI_n (j := 0) e rfl⟩
  · exact ⟨y.toNat, by omega, by rw [Int.toNat_of_nonneg hy0]; exact atI_n (j := 1) (by omega) rfl⟩
theorem two_at {x y r : Int} {n : Nat} (h0 : 0 ≤ r) (h1 : r < 2) (hx0 : 1 ≤ x) (hx1 : x ≤ n) (hy0 : 1 ≤ y) (hy1 : y ≤ n) : ∃ m : Nat, 1 ≤ m ∧ m ≤ n ∧ atI [V.int x, V.int y] r = some (.int m) := by
  by_cases e : r = 0
  · exact ⟨x.toNat, by omega, by omega, by rw [Int.toNat_of_nonneg (by omega)]; exact atI_n (j := 0) e rfl⟩
  · exact ⟨y.toNat, by omega, by omega, by rw [Int.toNat_of_nonneg (by omega)]; exact atI_n (j := 1) (by omega) rfl⟩
/-- a written list read at a drawn place -/
theorem pick {xs : List V} {r : Int} (h0 : 0 ≤ r) (h1 : r < xs.length) : ∃ v, v ∈ xs ∧ atI xs r = some v := by
  have hj : r.toNat < xs.length := by omega
  exact ⟨xs[r.toNat], List.getElem_mem hj, atI_n (j := r.toNat) (by omega) (List.getElem?_eq_getElem hj)⟩
theorem rep_one (n : Nat) (v : V) : (List.replicate n [v]).flatten = List.replicate n v := by
  induction n with
  | zero => rfl
  | succ n ih => rw [List.replicate_succ, List.flatten_cons, ih]; rfl
theorem take_succ {xs : List V} {i : Nat} {v : V} (h : xs[i]? = some v) : xs.take (i + 1) = xs.take i ++ [v] := by
  rw [List.take_add_one, h]
  rfl
theorem log2_small {i : Int} {k : Nat} (hk : 0 < k) (h : i.natAbs < 2 ^ k) : i.natAbs.log2 < k := PySem.Flt.log2_lt_of hk h
/-! ### kinds -/
section
variable {X : Cx} {K : PySem.W.Frag} {H : Hp} {Q : VK}
theorem k_pi_zipA {e e2 : Expr} {ta : TA} {p pos tpos : Pos} {elts : List Expr} {kk : Nat} (hK : X.K = K) (hg : Gl X "zip") (hm : X.mg "zip" = none) (ha : PA X [e, e2] ta)
    (hs : starEach [e, e2] X.env = (false, eval e X.env) :: starEach [e2] X.env := by rfl) (hpl : (backTo pos (starEach [e2] X.env)).any (·.1) = false := by rfl) : PI X (.Tuple elts kk tpos) (.Call (.Name "zip" p) [e, e2] [] pos) (iZipA K ta) := by subst hK; exact pi_zipA hg hm ha hs hpl
theorem k_isiT (hK : X.K = K) : CallR X (.builtin "isinstance") (rIsiT K) := by subst hK; exact call_isiT
theorem tyx_l {a : Addr} {xs : List V} (h : SqL K H a xs) : TyX K H (.ref a) (.type "list") := by
  rcases h with (h | ⟨o, h⟩) | ⟨o, its, n, h, c, _⟩
  · exact .base (.lst h)
  · exact .base (.frz h)
  · exact .kList h c
theorem tyx_t {a : Addr} {xs : List V} (h : SqT K H a xs) : TyX K H (.ref a) (.type "tuple") := by
  rcases h with (h | ⟨o, h⟩) | ⟨o, its, n, h, c, _⟩
  · exact .base (.tup h)
  · exact .fTuple h
  · exact .kTuple h c
def tyn : PyData → String
  | .none => "NoneType"
  | .bool _ => "bool"
  | .int _ => "int"
  | .str _ => "str"
  | .list _ => "list"
  | .tuple _ => "tuple"
  | .dict _ => "dict"
theorem tyx_d {v : V} {d : PyData} (h : Dp K H v d) : TyX K H v (.type (tyn d)) := by
  cases h with
  | non => exact .base .non
  | bl b => exact .base (.bl b)
  | int i => exact .base (.int i)
  | str x => exact .base (.str x)
  | lst h _ => exact tyx_l h
  | tup h _ => exact tyx_t h
theorem isi_x {v : V} {A T : String} {b : Bool} (h : TyX K H v (.type A)) (hk : kitB A T = some b) (q : Q (.bl b) H) : rIsi K [v, .ty T] H Q :=
  ⟨v, .ty T, .type A, .type T, b, rfl, .ty T, h, kit_ty hk, q⟩
theorem kit_two {A B C : String} {b c : Bool} (h1 : kitB A B = some b) (h2 : kitB A C = some c) : PySem.W.kitAny K (.type A) [.type B, .type C] = some (b || c) := by
  refine kitAny_cons (kit_ty h1) (fun e => ?_) (fun e => by rw [e]; rfl)
  subst e
  refine kitAny_cons (kit_ty h2) (fun e => ?_) (fun e => by rw [e]; rfl)
  subst e
  exact kitAny_nil
theorem isiT2 {v : V} {p : Addr} {A B C : String} {b c : Bool} (h : TyX K H v (.type A)) (hp : H p = some (.tup [.ty B, .ty C])) (h1 : kitB A B = some b) (h2 : kitB A C = some c) (q : Q (.bl (b || c)) H) : rIsiT K [v, .ref p] H Q :=
  ⟨v, p, [.ty B, .ty C], .type A, [.type B, .type C], b || c, rfl, hp, .cons (.ty B) (.cons (.ty C) .nil), h, kit_two h1 h2, q⟩
theorem ex_d {H H' : Hp} (e : Ex H H') : ∀ (d : PyData) (v : V), Dp K H v d → Dp K H' v d
  | .none, _, h => by cases h; exact .non
  | .bool _, _, h => by cases h; exact .bl _
  | .int _, _, h => by cases h; exact .int _
  | .str _, _, h => by cases h; exact .str _
  | .dict _, _, h => by cases h
  | .list ds, _, h => by
    cases h with
    | lst h1 h2 => exact .lst (ex_l e h1) (all ds _ h2)
  | .tuple ds, _, h => by
    cases h with
    | tup h1 h2 => exact .tup (ex_t e h1) (all ds _ h2)
where
  all : ∀ (ds : List PyData) (vs : List V), DpAll K H vs ds → DpAll K H' vs ds
  | [], _, h => by cases h; exact .nil
  | d :: ds, _, h => by
    cases h with
    | cons h1 h2 => exact .cons (ex_d e d _ h1) (all ds _ h2)
theorem dp_len : ∀ {vs : List V} {ds : List PyData}, DpAll K H vs ds → vs.length = ds.length
  | _, _, .nil => rfl
  | _, _, .cons _ h => by rw [List.length_cons, List.length_cons, dp_len h]
theorem dp_at : ∀ {vs : List V} {ds : List PyData} {i : Nat} {v : V}, DpAll K H vs ds → vs[i]? = some v → ∃ d, ds[i]? = some d ∧ Dp K H v d
  | _, _, _, _, .nil, e => by simp at e
  | _, _, 0, _, .cons h _, e => by simp at e; subst e; exact ⟨_, rfl, h⟩
  | _, _, i + 1, _, .cons _ h, e => by
    obtain ⟨d, e1, e2⟩ := dp_at (i := i) h (by simpa using e)
    exact ⟨d, by simpa using e1, e2⟩
theorem dp_ints : ∀ ns : List Int, DpAll K H (ns.map V.int) (ns.map PyData.int)
  | [] => .nil
  | n :: ns => .cons (.int n) (dp_ints ns)
/-- data of so many levels, of moderate size -/
inductive Sh : Nat → PyData → Prop
  | non (n : Nat) : Sh n .none
  | bl (n : Nat) (b : Bool) : Sh n (.bool b)
  | int (n : Nat) (i : Int) : Sh n (.int i)
  | str (n : Nat) (x : Str) : Sh n (.str x)
  | lst {n : Nat} {ds : List PyData} (hl : ds.length ≤ 100000) (h : ∀ d ∈ ds, Sh n d) : Sh (n + 1) (.list ds)
  | tup {n : Nat} {ds : List PyData} (hl : ds.length ≤ 100000) (h : ∀ d ∈ ds, Sh n d) : Sh (n + 1) (.tuple ds)
theorem sh_ints (ns : List Int) (h : ns.length ≤ 100000) : Sh 1 (.list (ns.map PyData.int)) := .lst (by rw [List.length_map]; exact h) fun d hd => by
  obtain ⟨n, _, rfl⟩ := List.mem_map.mp hd
  exact .int 0 n
end
/-! ### more readings -/
section
variable {K : PySem.W.Frag} {σ : L2.St} {H H1 : Hp} {g : TG} {tt : TT} {te : TE} {vs : List Nat} {Dl : Addr} {Q : VK}
theorem x_eqB {m n : Bool} : rEq (.bl m) (.bl n) H Q ↔ Q (.bl (decide (m = n))) H := by
  unfold rEq
  rw [show scal (V.bl m) (V.bl n) = true from rfl]
  cases m <;> cases n <;> simp
theorem x_neB {m n : Bool} : rNe (.bl m) (.bl n) H Q ↔ Q (.bl (!decide (m = n))) H := by
  unfold rNe
  rw [show scal (V.bl m) (V.bl n) = true from rfl]
  cases m <;> cases n <;> simp
theorem x_eqS {m n : Str} : rEq (.str m) (.str n) H Q ↔ Q (.bl (decide (m = n))) H := by
  unfold rEq
  rw [show scal (V.str m) (V.str n) = true from rfl]
  by_cases e : m = n
  · subst e; simp
  · simp [e]
theorem x_neS {m n : Str} : rNe (.str m) (.str n) H Q ↔ Q (.bl (!decide (m = n))) H := by
  unfold rNe
  rw [show scal (V.str m) (V.str n) = true from rfl]
  by_cases e : m = n
  · subst e; simp
  · simp [e]
theorem allL {p : Addr} {bs : List Bool} (h : SqL K H p (bs.map V.bl)) (q : Q (.bl (bs.all id)) H) : rAll K [.ref p] H Q := ⟨p, bs, rfl, h, q⟩
theorem anyL {p : Addr} {bs : List Bool} (h : SqL K H p (bs.map V.bl)) (q : Q (.bl (bs.any id)) H) : rAny K [.ref p] H Q := ⟨p, bs, rfl, h, q⟩
theorem lenL {p : Addr} {xs : List V} (h : SqL K H p xs) (q : Q (.int (xs.length : Nat)) H) : rLen K [.ref p] H Q := ⟨p, xs, rfl, .inl h, q⟩
theorem lenT {p : Addr} {xs : List V} (h : SqT K H p xs) (q : Q (.int (xs.length : Nat)) H) : rLen K [.ref p] H Q := ⟨p, xs, rfl, .inr h, q⟩
theorem x_izipA {a : TA} {R : It → Hp → Prop} : iZipA K a σ H R = a σ H (fun vs H1 => ∃ a b xs ys, vs = [.ref a, .ref b] ∧ ((SqL K H1 a xs ∧ SqL K H1 b ys ∧ R (Itz K a b) H1) ∨ (SqT K H1 a xs ∧ SqT K H1 b ys ∧ R (ItzT K a b) H1))) := rfl
theorem eq_same {v : V} (h : scal v v = true) (q : Q (.bl true) H) : rEq v v H Q := ⟨h, by rw [decide_eq_true rfl]; exact q⟩
theorem g_three {i j l : Nat} {T : Addr} {x y z : V} {QG : L2.St → Hp → Prop} (h : H T = some (.tup [x, y, z])) (q : QG (((σ.set i (some x)).set j (some y)).set l (some z)) H) : gTup K 3 (gCons (gName i) (gCons (gName j) (gCons (gName l) gNil))) (.ref T) σ H QG :=
  ⟨T, [x, y, z], rfl, .inl (.inl h), rfl, x, [y, z], rfl, y, [z], rfl, z, [], rfl, rfl, q⟩
theorem lc_zip {a b : Addr} {xs ys : List V} {j k : Nat} (keep : Nat → Bool) (f : Nat → V) (hx : SqL K H1 a xs) (hy : SqL K H1 b ys) (he0 : xs.length = ys.length) (hD : H1 Dl = none) (hn : xs.length ≤ 100000)
    (hw : ∀ u v : V, wipe (((wipe σ vs).set j (some u)).set k (some v)) vs = wipe σ vs)
    (ht : ∀ i x y, xs[i]? = some x → ys[i]? = some y → Evl.EvT tt (((wipe σ vs).set j (some x)).set k (some y)) H1 (keep i))
    (he : ∀ i x y, xs[i]? = some x → ys[i]? = some y → keep i = true → Evl.Ev te (((wipe σ vs).set j (some x)).set k (some y)) H1 (f i))
    (hd : ∀ H', Evl.Ex H1 H' → H' Dl = some (.lst (kept xs.length keep f)) → Q (.ref Dl) H') : LcG (Itz K a b) (gTup K 2 (gCons (gName j) (gCons (gName k) gNil))) tt te vs σ Dl H1 Q := by
  have gx : ∀ i, i < xs.length → xs[i]? = some (xs.getD i .non) := fun i hi => by rw [List.getD_eq_getElem?_getD, List.getElem?_eq_getElem hi]; rfl
  have gy : ∀ i, i < xs.length → ys[i]? = some (ys.getD i .non) := fun i hi => by rw [List.getD_eq_getElem?_getD, List.getElem?_eq_getElem (by omega)]; rfl
  refine lc_pure xs.length (fun i => ((wipe σ vs).set j (some (xs.getD i .non))).set k (some (ys.getD i .non))) keep f hD hn (fun H' e => ⟨xs, ys, Evl.ex_l e hx, Evl.ex_l e hy, .inl (Nat.le_refl _)⟩)
    (fun i H' hi e => ⟨xs, ys, _, _, Evl.ex_l e hx, Evl.ex_l e hy, gx i hi, gy i hi⟩)
    (fun i H' x H'' QG hi e y q => ?_) (fun i hi => hw _ _) (fun i hi => ht i _ _ (gx i hi) (gy i hi)) (fun i hi => he i _ _ (gx i hi) (gy i hi)) hd
  obtain ⟨T, u, v, rfl, hT, rfl, hf, hf2⟩ := y
  have hu := hf xs (Evl.ex_l e hx)
  have hv := hf2 ys (Evl.ex_l e hy)
  have e1 : xs.getD i .non = u := by rw [List.getD_eq_getElem?_getD, hu]; rfl
  have e2 : ys.getD i .non = v := by rw [List.getD_eq_getElem?_getD, hv]; rfl
  refine g_two upd_same ?_
  have q2 := q (Evl.Ex.new hT)
  rw [e1, e2] at q2
  exact q2
theorem lc_zipT {a b : Addr} {xs ys : List V} {j k : Nat} (keep : Nat → Bool) (f : Nat → V) (hx : SqT K H1 a xs) (hy : SqT K H1 b ys) (he0 : xs.length = ys.length) (hD : H1 Dl = none) (hn : xs.length ≤ 100000)
    (hw : ∀ u v : V, wipe (((wipe σ vs).set j (some u)).set k (some v)) vs = wipe σ vs)
    (ht : ∀ i x y, xs[i]? = some x → ys[i]? = some y → Evl.EvT tt (((wipe σ vs).set j (some x)).set k (some y)) H1 (keep i))
    (he : ∀ i x y, xs[i]? = some x → ys[i]? = some y → keep i = true → Evl.Ev te (((wipe σ vs).set j (some x)).set k (some y)) H1 (f i))
    (hd : ∀ H', Evl.Ex H1 H' → H' Dl = some (.lst (kept xs.length keep f)) → Q (.ref Dl) H') : LcG (ItzT K a b) (gTup K 2 (gCons (gName j) (gCons (gName k) gNil))) tt te vs σ Dl H1 Q := by
  have gx : ∀ i, i < xs.length → xs[i]? = some (xs.getD i .non) := fun i hi => by rw [List.getD_eq_getElem?_getD, List.getElem?_eq_getElem hi]; rfl
  have gy : ∀ i, i < xs.length → ys[i]? = some (ys.getD i .non) := fun i hi => by rw [List.getD_eq_getElem?_getD, List.getElem?_eq_getElem (by omega)]; rfl
  refine lc_pure xs.length (fun i => ((wipe σ vs).set j (some (xs.getD i .non))).set k (some (ys.getD i .non))) keep f hD hn (fun H' e => ⟨xs, ys, Evl.ex_t e hx, Evl.ex_t e hy, .inl (Nat.le_refl _)⟩)
    (fun i H' hi e => ⟨xs, ys, _, _, Evl.ex_t e hx, Evl.ex_t e hy, gx i hi, gy i hi⟩)
    (fun i H' x H'' QG hi e y q => ?_) (fun i hi => hw _ _) (fun i hi => ht i _ _ (gx i hi) (gy i hi)) (fun i hi => he i _ _ (gx i hi) (gy i hi)) hd
  obtain ⟨T, u, v, rfl, hT, rfl, hf, hf2⟩ := y
  have hu := hf xs (Evl.ex_t e hx)
  have hv := hf2 ys (Evl.ex_t e hy)
  have e1 : xs.getD i .non = u := by rw [List.getD_eq_getElem?_getD, hu]; rfl
  have e2 : ys.getD i .non = v := by rw [List.getD_eq_getElem?_getD, hv]; rfl
  refine g_two upd_same ?_
  have q2 := q (Evl.Ex.new hT)
  rw [e1, e2] at q2
  exact q2
theorem all_true (n : Nat) : ((List.replicate n true).all id) = true := by
  induction n with
  | zero => rfl
  | succ n ih => rw [List.replicate_succ, List.all_cons, ih]; rfl
theorem kept_const (n : Nat) (v : V) : kept n (fun _ => true) (fun _ => v) = List.replicate n v := by
  rw [kept_all]
  apply List.ext_getElem?
  intro j
  rw [List.getElem?_map]
  by_cases h : j < n
  · rw [List.getElem?_range h, List.getElem?_replicate, if_pos h]
    rfl
  · rw [List.getElem?_eq_none (by rw [List.length_range]; omega), List.getElem?_eq_none (by rw [List.length_replicate]; omega)]
    rfl
end
end BC

set_option Elab.async false
set_option linter.all false
set_option maxRecDepth 100000
set_option maxHeartbeats 4000000
/-! repr of lists wants to know that no repr is under way around: promises that hold where nothing is guarded -/
namespace BC
open PySem PySem.Spec PyProof.Rows L2 Evl
/-- nothing is guarded around -/
def G0 (A : Around) : Prop := A.guards = some []
theorem G0.deeper {A : Around} (g : G0 A) (env : Env) : G0 (A.deeper env) := g
/-- FnOk where nothing is guarded around -/
structure FnG (P : Program) (w : World) (K : PySem.W.Frag) (mg : Str → Option Value) (base : Heap) (CX : CXT) (k : Nat) (f : Addr) (fd : FuncData) (ps : List Str) (sp : Sp) : Prop where
  size : ∀ vs H Q E, sp vs H Q E → vs.length = ps.length
  go : ∀ (A : Around) (outer : List Env) (s : Shared) (H : Hp) (args : Args) (us : List Value) (vs : List V) (Q : VK) (E : XK), G0 A → Room k A → Env0 P w K mg base A outer s H →
    BindsTo s fd args (ps.zip us) → Vals vs us → sp vs H Q E → codeAny (model P w) A (.call (.ref f) args) (CR CX outer P w H s Q E) s
section
variable {P : Program} {w : World} {K : PySem.W.Frag} {mg : Str → Option Value} {base : Heap} {CX : CXT} {k : Nat} {f : Addr} {fd : FuncData} {ps : List Str} {sp : Sp}
theorem FnG.of (F : FnOk P w K mg base CX k f fd ps sp) : FnG P w K mg base CX k f fd ps sp :=
  ⟨F.len, fun A outer s H args us vs Q E _ => F.run A outer s H args us vs Q E⟩
theorem FnG.up (F : FnG P w K mg base CX k f fd ps sp) {j : Nat} (h : k ≤ j) : FnG P w K mg base CX j f fd ps sp :=
  ⟨F.size, fun A outer s H args us vs Q E g hr => F.go A outer s H args us vs Q E g (hr.mono h)⟩
/-- the rule for a def -/
theorem fun_okG {x qual : Str} {st : Stmt} {N : List Str} (F : Fun K x qual st f fd) (S : FnScope N ps (defScope st)) (size : ∀ vs H Q E, sp vs H Q E → vs.length = ps.length)
    (body : ∀ (cdv : Value) (A : Around) (outer : List Env) (s : Shared) (H : Hp) (vs : List V) (Q : VK) (E : XK), G0 (A.deeper (envOfC qual (defScope st) s.heap.objs.size f cdv)) → Room k (A.deeper (envOfC qual (defScope st) s.heap.objs.size f cdv)) → sp vs H Q E →
      ∃ t, PSs (cxOf CX P w K mg base N qual (defScope st) f cdv A outer s H E) (defBody st) t ∧ t { nx := fun _ H' => Q .non H', rt := Q } (start N vs) H) : FnG P w K mg base CX (k + 1) f fd ps sp := by
  obtain ⟨oc, od, kV, doc, pm, an, cdv, ct, osl, rfl, lk, hcd⟩ := F.ex
  refine ⟨size, fun A outer s H args us vs Q E g room env bind vals prom => ?_⟩
  have inK : K.In s.heap := env.mod.kin.keeps fun b o q => (env.bs b o q).1
  have loose : s.heap.NoLimit := env.mod.nolimit.keeps fun b o q => (env.bs b o q).1
  have kinds : ∀ z ∈ ps.zip us, (defScope st).names.lookup z.1 = some .local ∨ ((defScope st).names.lookup z.1 = some .cell ∧ ((cellsFrom (s.heap.objs.size + 1) (defScope st).names []).lookup z.1).isSome = true) := by
    rintro ⟨n, v⟩ hz
    have hn := (List.of_mem_zip hz).1
    rcases S.par n hn with h | h
    · exact Or.inl h
    · exact Or.inr ⟨h, PySem.W.cellsFrom_some _ _ _ (Or.inl h)⟩
  refine codeAny_call_function room.depth (inK _ _ lk) rfl S.co S.gen rfl (PySem.W.codeRec_of inK hcd) (bind _ _ _ _ ?_)
  refine wpAny_newFunctionEnv_cells S.kind kinds fun env' e1 s1 into => ?_
  subst e1
  refine ⟨loose.keeps into.toInCall.keep, codeAny_func ?_⟩
  obtain ⟨t, deriv, read⟩ := body cdv A outer s H vs Q E (g.deeper _) (room.deeper _) prom
  have I := inv_start (CX := CX) (E := E) S room.hd env (size _ _ _ _ prom) vals into
  refine wpAny_mono (deriv.run [] s1 (start N vs) H _ I read) (fun flow s' ends => ?_) fun _ _ q => q
  have done : ∀ {σ2 : L2.St} {H2 : Hp} {v : V} {u : Value}, Inv (cxOf CX P w K mg base N qual (defScope st) f cdv A outer s H E) [] σ2 H2 s' → RelV v u → Q v H2 → CE outer P w H s Q u s' := by
    intro σ2 H2 v u J rel q
    exact ⟨v, H2, J.os, J.bare, J.base, J.hok, rel, q⟩
  match flow, ends with
  | .ret u, ends =>
    obtain ⟨v, σ2, H2, J, rel, q⟩ := ends
    exact done J rel q
  | .next, ends =>
    obtain ⟨σ2, H2, J, q⟩ := ends
    exact done (v := V.non) (u := Value.none) J rfl q
  | .brk, ends =>
    obtain ⟨_, _, _, q⟩ := ends
    exact q.elim
  | .cont, ends =>
    obtain ⟨_, _, _, q⟩ := ends
    exact q.elim
end
section
variable {X : Cx} {CX : CXT} {k : Nat} {f : Addr} {fd : FuncData} {ps : List Str} {sp : Sp} {dvs : List V} {ds : List Value} {E : XK} {x : Str} {p pos : Pos} {e : Expr} {es : List Expr} {t : TA}
theorem call_G {pins : List (Addr × Obj)} {σ : L2.St} {H : Hp} {s : Shared} {Q : VK} {us : List Value} {vs : List V} (F : FnG X.prog X.w X.K X.mg X.base CX k f fd ps sp) (g : G0 X.A) (hr : Room k X.A) (hb : Binds X.K fd ps ds) (hd : Vals dvs ds)
    (hx : Passes CX X E) (I : Inv X pins σ H s) (r : Vals vs us) (h : sp (vs ++ dvs) H Q E) : wpAny (model X.prog X.w) X.A (call (.ref f) us) (EP X pins σ Q) X.xe s := by
  have both : Vals (vs ++ dvs) (us ++ ds) := r.append hd
  have many : (us ++ ds).length = ps.length := both.length.symm.trans (F.size _ _ _ _ h)
  have run := F.go X.A X.stack s H ⟨us, []⟩ (us ++ ds) (vs ++ dvs) Q E g hr I.env0 (hb s us I.kIn many) both h
  refine wpAny_call (codeAny_mono run fun res s' q => ?_)
  match res, q with
  | .error err, q => exact hx pins σ H s err s' I q
  | .ok (.ret u), q => exact I.after q
theorem pe_callG (F : FnG X.prog X.w X.K X.mg X.base CX k f fd ps sp) (g : G0 X.A) (hr : Room k X.A) (hg : Gl X x) (hm : X.mg x = some (.ref f)) (hk : PySem.W.keepIn X.K (.ref f) = true) (hb : Binds X.K fd ps ds) (hd : Vals dvs ds) (hx : Passes CX X E)
    (ha : PA X (e :: es) t) (hdb : (x == ("__debug__" : Str)) = false := by decide) (he : starEach (e :: es) X.env = (false, eval e X.env) :: starEach es X.env := by rfl) (hpl : (backTo pos (starEach es X.env)).any (·.1) = false := by rfl) :
    PE X (.Call (.Name x p) (e :: es) [] pos) (tCall sp dvs E t) := by
  constructor
  intro pins s σ H Q I h
  have args := ha.run pos pins s σ H _ I h
  refine wpAny_Call_Name_kw (ld_glob I hg hm (PySem.W.callWith_K (h₀ := X.base) I.ok.mod.kin hk (thn args ?_) he hpl) hdb)
  rintro us s1 ⟨vs, H1, I1, r, q⟩
  exact ⟨I1.kIn, call_G F g hr hb hd hx I1 r q⟩
end

/-! ### the law's own call, for a promise of this kind -/
section
variable {P : Program} {w : World} {K : PySem.W.Frag} {mg mb : Str → Option Value} {k : Nat} {fa a : Addr} {fd : FuncData} {x : Str} {sp : Sp} {s : Shared} {vs : List Value} {ns : List Int}
/-- the abstract heap at the entry: the script alone, locked; or nothing, where the script is the module's own -/
def entryH (a : Addr) (vs : List Value) (ns : List Int) (own : Bool) : Hp := fun b => if own = false ∧ b = a then some (.frz { cls := .type "list", data := .seq vs.toArray } (.lst (ns.map V.int))) else none
theorem entry_other {own : Bool} {b : Addr} (h : b ≠ a) : entryH a vs ns own b = none := if_neg fun z => h z.2
theorem entry_own {b : Addr} : entryH a vs ns true b = none := if_neg fun z => nomatch z.1
theorem entry_at : entryH a vs ns false a = some (.frz { cls := .type "list", data := .seq vs.toArray } (.lst (ns.map V.int))) := if_pos ⟨rfl, rfl⟩
theorem entry_case {own : Bool} {b : Addr} {o : HO} (h : entryH a vs ns own b = some o) : own = false ∧ b = a ∧ o = .frz { cls := .type "list", data := .seq vs.toArray } (.lst (ns.map V.int)) := by
  unfold entryH at h
  by_cases q : own = false ∧ b = a
  · rw [if_pos q] at h
    exact ⟨q.1, q.2, (Option.some.inj h).symm⟩
  · rw [if_neg q] at h
    cases h
theorem law_goG (hK : K.In s.heap) (hns : s.heap.Ns mainGlobals mg) (hb : s.heap.Ns builtinsNs mb) (hbb : ∀ x : Str, x ≠ "__name__" → mb x = bootBuiltins x) (hlim : s.heap.NoLimit) (hg : s.gens = #[])
    (ha : s.heap.get? a = some { cls := .type "list", data := .seq vs.toArray }) (hi : IntsAre vs ns) (hl : ns.length ≤ sizeLine) (hr : Room k callerA)
    (F : ∀ base : Heap, K.In base → base.Ns mainGlobals mg → FnG P w K mg base CX0 k fa fd [x] sp) (bind : ∀ (s : Shared) (u : Value), BindsTo s fd ⟨[u], []⟩ [(x, u)])
    (prom : ∀ H : Hp, SqL K H a (ns.map V.int) → sp [.ref a] H (fun v _ => v = .bl true) fun _ _ _ => False) :
    codeAny (model P w) callerA (.call (.ref fa) ⟨[.ref a], []⟩) (fun r s' => r = .ok (.ret (.bool true)) ∧ OldK s.heap s'.heap ∧ s'.os = s.os ∧ AllBare s'.gens) s := by
  have rv := vals_ints hi
  have many := hi.length
  obtain ⟨own, hown⟩ : ∃ own : Bool, own = (K.lookup a).isSome := ⟨_, rfl⟩
  let H : Hp := entryH a vs ns own
  have reads : SqL K H a (ns.map V.int) := by
    cases q : K.lookup a with
    | none =>
      have e : own = false := by rw [hown, q]; rfl
      exact Or.inl (Or.inr ⟨_, by show entryH a vs ns own a = _; rw [e]; exact entry_at⟩)
    | some o =>
      have z := hK a o q
      rw [ha] at z
      cases z
      refine Or.inr ⟨_, vs.toArray, _, q, rfl, rfl, rfl, ?_, ?_⟩
      · rw [List.size_toArray, many]
        exact hl
      · exact rv
  have held : HOk P w H s.heap := fun b o q => by
    obtain ⟨_, rfl, rfl⟩ := entry_case q
    exact ⟨ha, by rw [List.length_map]; exact hl, vs, _, rv, ha⟩
  have spare : ∀ {b : Addr} {o : Obj}, s.heap.get? b = some o → (∀ u n, o.data ≠ .seq u n) → H b = none := fun {b o} e d => by
    cases q : H b with
    | none => rfl
    | some u =>
      obtain ⟨_, rfl, _⟩ := entry_case q
      rw [ha] at e
      cases e
      exact absurd rfl (d _ _)
  have nsT : ∀ {b : Addr} {m : Str → Option Value}, s.heap.Ns b m → (hidT s.heap H).Ns b m := by
    rintro b m ⟨o, es, ep, e, d, r⟩
    exact ⟨o, es, ep, hidT_get e (spare e fun u n z => by rw [d] at z; cases z), d, r⟩
  have kT : K.In (hidT s.heap H) := fun b o e => hidT_get (hK b o e) (by
    cases q : H b with
    | none => rfl
    | some u =>
      obtain ⟨z, rfl, _⟩ := entry_case q
      rw [hown, e] at z
      cases z)
  have module : Mod K mg (hidT s.heap H) := ⟨kT, nsT hns, ⟨mb, nsT hb, hbb⟩, by obtain ⟨mc, h1, h2⟩ := hlim; exact ⟨mc, nsT h1, h2⟩⟩
  have entry : Env0 P w K mg (hidT s.heap H) callerA [] s H :=
    ⟨rfl, module, fun b o e => of_hidT e, Nat.le_of_eq (hidT_size _ _), trivial, fun b z => (List.not_mem_nil z).elim, held, .of_eq hg⟩
  have ran := (F _ kT (nsT hns)).go callerA [] s H ⟨[.ref a], []⟩ [.ref a] [.ref a] _ _ rfl hr entry (bind s (.ref a)) (.cons rfl .nil) (prom H reads)
  refine codeAny_mono ran fun r s' q => ?_
  match r, q with
  | .ok (.ret u), q =>
    obtain ⟨v, H', os, bare, un, held', rel, fin⟩ := q
    obtain rfl : v = .bl true := fin
    obtain rfl : u = Value.bool true := rel
    refine ⟨rfl, OldK.of_keep fun b o e => ?_, os, bare⟩
    cases q : H b with
    | none => exact un.keep b o e q (fun z => (List.not_mem_nil z).elim) List.not_mem_nil
    | some u =>
      obtain ⟨_, rfl, rfl⟩ := entry_case q
      have z := (held' _ _ (un.frzs _ _ _ q)).1
      rw [ha] at e
      cases e
      exact z
theorem walk_G {l : PySem.W.OpenLaw} {n k : Nat} {q : Program} {loose : List Str} {XP : (Str → Option Value) → Heap → Prop} {YP : World → Heap → Prop} {d : DefRec} {K : Params → PySem.W.Frag} {sp : World → Sp} {x : Str}
    (hn : l.most = some n) (hn2 : n ≤ sizeLine) (hdf : d.params.defaults = []) (hr : Room k callerA) (hY : ∀ (w : World) (h : Heap), YP w h → (K w.params).In h)
    (F : ∀ (w : World) (mg : Str → Option Value) (fa : Addr) (h : Heap), (K w.params).In h → h.Ns mainGlobals mg → mg d.name = some (.ref fa) →
      ∃ fd : FuncData, (∀ (s : Shared) (u : Value), BindsTo s fd ⟨[u], []⟩ [(x, u)]) ∧ ∀ base : Heap, (K w.params).In base → base.Ns mainGlobals mg → FnG l.prog w (K w.params) mg base CX0 k fa fd [x] (sp w))
    (prom : ∀ (w : World) (H : Hp) (a : Addr) (ns : List Int), ns.length ≤ n → SqL (K w.params) H a (ns.map V.int) → sp w [.ref a] H (fun v _ => v = .bl true) fun _ _ _ => False) :
    PySem.W.WalkO q loose XP YP l.row.toRowW d [] (fun f vs => PySem.call f vs) := by
  refine Att.attach_call hn hdf ?_
  intro w s0 s1 mg mb fa o pm cd doc a vs ns G Y _ hd hcd hmg hobj hints hlen hg
  have inK := hY w _ Y
  obtain ⟨fd, bind, keep⟩ := F w mg fa _ inK G.T.g hmg
  exact law_goG inK G.T.g G.T.b G.T.builtins G.T.nolimit hg hobj hints (Nat.le_trans hlen hn2) hr keep bind fun H hS => prom w H a ns hlen hS
end
end BC

set_option Elab.async false
set_option linter.all false
set_option maxRecDepth 100000
set_option maxHeartbeats 4000000
/-! repr, keywords, more readings -/
namespace BC
open PySem PySem.Spec PyProof.Rows L2 Evl
section
variable {X : Cx} {K : PySem.W.Frag} {σ : L2.St} {H : Hp} {Q : VK}
/-- repr of lists, tuples and what lies in them -/
def rRepr (K : PySem.W.Frag) : List V → Hp → VK → Prop := fun xs H Q => ∃ a d, xs = [.ref a] ∧ Dp K H (.ref a) d ∧ d.showable = true ∧ d.depth ≤ 60 ∧ d.hasDict = false ∧ d.shown.length ≤ sizeLine ∧ Q (.str d.shown) H
theorem k_repr (hK : X.K = K) (g : G0 X.A) (hu : X.A.units + 64 < cLine) : CallR X (.builtin "repr") (rRepr K) := by
  subst hK
  intro pins s σ H xs us Q I r h
  obtain ⟨a, d, rfl, hd, h1, h2, h3, h4, q⟩ := h
  obtain ⟨u, rfl, rfl⟩ := vals1 r
  obtain ⟨as, rd⟩ := Dp.reads I d (.ref a) (.ref a) hd rfl
  exact repr_of_reads' rd h1 (PyData.noDict_hsm h3) g (by omega) (fun _ _ e => e) (fun h' u tk hk => ⟨.str _, H, I.kept hk, ⟨_, rfl⟩, q⟩) h4
def rIsB : R2 := fun x y H Q => ∃ a b, x = .bl a ∧ y = .bl b ∧ Q (.bl (decide (a = b))) H
def rIsNB : R2 := fun x y H Q => ∃ a b, x = .bl a ∧ y = .bl b ∧ Q (.bl (!decide (a = b))) H
theorem op_isB : OpR X (compareOp .Is) rIsB := op_is_bl
theorem op_isNB : OpR X (compareOp .IsNot) rIsNB := op_isnot_bl
theorem x_isB {a b : Bool} : rIsB (.bl a) (.bl b) H Q ↔ Q (.bl (decide (a = b))) H := ⟨fun ⟨i, j, e1, e2, q⟩ => by cases e1; cases e2; exact q, fun q => ⟨a, b, rfl, rfl, q⟩⟩
theorem x_isNB {a b : Bool} : rIsNB (.bl a) (.bl b) H Q ↔ Q (.bl (!decide (a = b))) H := ⟨fun ⟨i, j, e1, e2, q⟩ => by cases e1; cases e2; exact q, fun q => ⟨a, b, rfl, rfl, q⟩⟩
theorem x_lrg {te : L2.St → Hp → (Int → Int → Hp → Prop) → Prop} : tLstRg te σ H Q = te σ H fun a b H1 => RgOk a b ∧ ∀ q, H1 q = none → Q (.ref q) (upd H1 q (.lst (rgV a b))) := rfl
theorem x_rg1 {ta : TE} {R : Int → Int → Hp → Prop} : tRg1 ta σ H R = ta σ H fun x H1 => ∃ n, x = .int n ∧ R 0 n H1 := rfl
theorem x_rg2 {ta tb : TE} {R : Int → Int → Hp → Prop} : tRg2 ta tb σ H R = ta σ H fun x H1 => tb σ H1 fun y H2 => ∃ i j, x = .int i ∧ y = .int j ∧ R i j H2 := rfl
end
theorem Fx.mut {b r : Addr} {H H' : Hp} {o : HO} (f : Fx b H H') (n : H r = none) : Fx b H (upd H' r o) := fun a u na h => by rw [upd_ne (ne_of_none h n)]; exact f a u na h
theorem fx_none {b x : Addr} {H H' : Hp} (h : Fx b H H') (n : H' x = none) (nb : x ≠ b) : H x = none := by
  cases e : H x with
  | none => rfl
  | some o => rw [h _ _ nb e] at n; cases n
/-- a promise that asks for more -/
theorem weak {P : Program} {w : World} {K : PySem.W.Frag} {mg : Str → Option Value} {base : Heap} {CX : CXT} {k : Nat} {f : Addr} {fd : FuncData} {ps : List Str} {sp sp' : Sp} (F : FnOk P w K mg base CX k f fd ps sp) (h : ∀ vs H Q E, sp' vs H Q E → sp vs H Q E) : FnOk P w K mg base CX k f fd ps sp' :=
  ⟨fun vs H Q E q => F.len vs H Q E (h _ _ _ _ q), fun A outer s H args us vs Q E hr env bind vals q => F.run A outer s H args us vs Q E hr env bind vals (h _ _ _ _ q)⟩
/-! ### a cut: what stands after one statement -/
section
variable {σ : L2.St} {H : Hp} {D : Ends} {ta : TE} {s1 s2 : TS} {i : Nat}
theorem seq_asg (C : V → Hp → Prop) (h1 : ∀ R : VK, (∀ v H', C v H' → R v H') → ta σ H R) (h2 : ∀ v H', C v H' → s2 D (σ.set i (some v)) H') : tSeq (tAsg ta (gName i)) s2 D σ H := h1 _ h2
theorem seq_cut (C : L2.St → Hp → Prop) (h1 : ∀ N : L2.St → Hp → Prop, (∀ σ' H', C σ' H' → N σ' H') → s1 { D with nx := N } σ H) (h2 : ∀ σ' H', C σ' H' → s2 D σ' H') : tSeq s1 s2 D σ H := h1 _ h2
end
/-! ### keywords -/
def kg {α : Type} (d : α) (a b : Nat) (perm : List Nat) (us ws : List α) : List α := if us.length = a ∧ ws.length = b then perm.map fun i => (us ++ ws).getD i d else []
theorem vals_getD : ∀ {vs : List V} {us : List Value}, Vals vs us → ∀ i, RelV (vs.getD i .non) (us.getD i .none)
  | [], [], .nil, _ => rfl
  | _ :: _, _ :: _, .cons h _, 0 => h
  | _ :: _, _ :: _, .cons _ r, i + 1 => vals_getD r i
theorem vals_perm {vs : List V} {us : List Value} (r : Vals vs us) : ∀ p : List Nat, Vals (p.map fun i => vs.getD i .non) (p.map fun i => us.getD i .none)
  | [] => .nil
  | i :: p => .cons (vals_getD r i) (vals_perm r p)
theorem kg_rel {a b : Nat} {p : List Nat} {vs : List V} {us : List Value} {zs : List V} {ws : List Value} (r : Vals vs us) (z : Vals zs ws) : Vals (kg .non a b p vs zs) (kg .none a b p us ws) := by
  unfold kg
  rw [r.length, z.length]
  split
  · exact vals_perm (r.append z) p
  · exact .nil
theorem kg_mk {K : PySem.W.Frag} {fd : FuncData} {q : Str} {ps ks : List Str} {a b : Nat} {p : List Nat} (h : ∀ us ws : List Value, us.length = a → ws.length = b → bindArgs fd ⟨us, ks.zip ws⟩ = pure ((q :: ps).zip (p.map fun i => (us ++ ws).getD i .none))) :
    KBinds K fd (q :: ps) ks (kg .none a b p) (kg .non a b p) := by
  refine ⟨fun s us ws _ hl => ?_, kg_rel⟩
  unfold kg at hl ⊢
  split at hl
  · next c =>
    rw [if_pos c]
    exact .of_eq (h us ws c.1 c.2)
  · cases hl
theorem fun_okN {P : Program} {w : World} {K : PySem.W.Frag} {mg : Str → Option Value} {base : Heap} {CX : CXT} {k : Nat} {f : Addr} {fd : FuncData} {ps : List Str} {sp : Sp} {x qual : Str} {st : Stmt} {N : List Str} (F : Fun K x qual st f fd) (S : FnScope N ps (defScope st)) (size : ∀ vs H Q E, sp vs H Q E → vs.length = ps.length)
    (body : ∀ (cdv : Value) (A : Around) (outer : List Env) (s : Shared) (H : Hp) (vs : List V) (Q : VK) (E : XK), G0 (A.deeper (envOfC qual (defScope st) s.heap.objs.size f cdv)) → Room k (A.deeper (envOfC qual (defScope st) s.heap.objs.size f cdv)) → sp vs H Q E →
      ∃ t, PSs (cxOf CX P w K mg base N qual (defScope st) f cdv A outer s H E).nox (defBody st) t ∧ t { nx := fun _ H' => Q .non H', rt := Q } (start N vs) H) : FnG P w K mg base CX (k + 1) f fd ps sp :=
  fun_okG F S size fun cdv A outer s H vs Q E hG hr h => let ⟨t, d, q⟩ := body cdv A outer s H vs Q E hG hr h; ⟨t, d.nox, q⟩
theorem Fun.kb {K : PySem.W.Frag} {x qual q : Str} {st : Stmt} {f : Addr} {fd : FuncData} {ps ks : List Str} {a b : Nat} {p : List Nat} (F : Fun K x qual st f fd)
    (h : ∀ (kV doc pm : Value) (an : Option Addr) (cdv ct : Value) (us ws : List Value), us.length = a → ws.length = b → bindArgs (PySem.W.fnOf x qual (defArgs st) (defBody st) (defScope st) .none kV doc pm an cdv ct) ⟨us, ks.zip ws⟩ = pure ((q :: ps).zip (p.map fun i => (us ++ ws).getD i .none))) :
    KBinds K fd (q :: ps) ks (kg .none a b p) (kg .non a b p) := by
  obtain ⟨oc, od, kV, doc, pm, an, cdv, ct, osl, rfl, lk, hcd⟩ := F.ex
  exact kg_mk (h kV doc pm an cdv ct)
section
variable {X : Cx} {CX : CXT} {k : Nat} {f : Addr} {fd : FuncData} {ps ks : List Str} {sp : Sp} {E : XK} {x : Str} {p pos : Pos} {e : Expr} {es : List Expr} {kws : List Keyword} {t tk : TA} {g : List Value → List Value → List Value} {gV : List V → List V → List V}
theorem pe_callK0 (F : FnOk X.prog X.w X.K X.mg X.base CX k f fd ps sp) (hr : Room k X.A) (hg : Gl X x) (hm : X.mg x = some (.ref f)) (hk : PySem.W.keepIn X.K (.ref f) = true) (hb : KBinds X.K fd ps ks g gV) (hx : Passes CX X E)
    (hkw : PK X kws tk) (hall : (backToKw pos (keywordEach kws X.env)).all (·.1.isSome) = true := by rfl) (hks : (backToKw pos (keywordEach kws X.env)).filterMap (·.1) = ks := by rfl)
    (hdb : (x == ("__debug__" : Str)) = false := by decide)
    (hpl : ((backTo pos (starEach [] X.env)).any (·.1) || (backToKw pos (keywordEach kws X.env)).any (·.1.isNone)) = false := by rfl) :
    PE X (.Call (.Name x p) [] kws pos) (tCallK sp gV E tNil tk) := by
  refine ⟨fun pins s σ H Q I h => ?_⟩
  refine wpAny_Call_Name_kw (ld_glob I hg hm ?_ hdb)
  refine PySem.W.callWith_KW0 (h₀ := X.base) I.ok.mod.kin hk hall (thn (hkw.run pos pins s σ H _ I h) fun ws s2 ⟨zs, H2, I2, rz, q2⟩ => ⟨I2.kIn, ?_⟩) hpl
  rw [hks]
  exact run_fnk F hr hb hx I2 .nil rz q2
theorem run_fnkG {pins : List (Addr × Obj)} {σ : L2.St} {H : Hp} {s : Shared} {Q : VK} {us ws : List Value} {vs zs : List V} (F : FnG X.prog X.w X.K X.mg X.base CX k f fd ps sp) (g0 : G0 X.A) (hr : Room k X.A) (hb : KBinds X.K fd ps ks g gV) (hx : Passes CX X E)
    (I : Inv X pins σ H s) (r : Vals vs us) (rz : Vals zs ws) (h : sp (gV vs zs) H Q E) : wpAny (model X.prog X.w) X.A (call (.ref f) us (ks.zip ws)) (EP X pins σ Q) X.xe s := by
  have r2 := hb.rel r rz
  have hl : (g us ws).length = ps.length := by rw [← r2.length]; exact F.size _ _ _ _ h
  refine wpAny_call (codeAny_mono (F.go X.A X.stack s H ⟨us, ks.zip ws⟩ (g us ws) (gV vs zs) Q E g0 hr I.env0 (hb.to s us ws I.kIn hl) r2 h) fun r s' hq => ?_)
  cases r with
  | error e => exact hx pins σ H s e s' I hq
  | ok fl =>
    cases fl with
    | ret u => exact I.after hq
    | next => exact False.elim hq
    | brk => exact False.elim hq
    | cont => exact False.elim hq
theorem pe_callKG (F : FnG X.prog X.w X.K X.mg X.base CX k f fd ps sp) (g0 : G0 X.A) (hr : Room k X.A) (hg : Gl X x) (hm : X.mg x = some (.ref f)) (hk : PySem.W.keepIn X.K (.ref f) = true) (hb : KBinds X.K fd ps ks g gV) (hx : Passes CX X E)
    (ha : PA X (e :: es) t) (hkw : PK X kws tk) (hall : (backToKw pos (keywordEach kws X.env)).all (·.1.isSome) = true := by rfl) (hks : (backToKw pos (keywordEach kws X.env)).filterMap (·.1) = ks := by rfl)
    (hdb : (x == ("__debug__" : Str)) = false := by decide) (he : starEach (e :: es) X.env = (false, eval e X.env) :: starEach es X.env := by rfl)
    (hpl : ((backTo pos (starEach (e :: es) X.env)).any (·.1) || (backToKw pos (keywordEach kws X.env)).any (·.1.isNone)) = false := by rfl) :
    PE X (.Call (.Name x p) (e :: es) kws pos) (tCallK sp gV E t tk) := by
  refine ⟨fun pins s σ H Q I h => ?_⟩
  refine wpAny_Call_Name_kw (ld_glob I hg hm ?_ hdb)
  refine PySem.W.callWith_KW (h₀ := X.base) I.ok.mod.kin hk hall (thn (ha.run pos pins s σ H _ I h) fun us s1 ⟨vs, H1, I1, r, q⟩ => ?_) hpl he
  refine thn (hkw.run pos pins s1 σ H1 _ I1 q) fun ws s2 ⟨zs, H2, I2, rz, q2⟩ => ⟨I2.kIn, ?_⟩
  rw [hks]
  exact run_fnkG F g0 hr hb hx I2 r rz q2
end
end BC

set_option Elab.async false
set_option linter.all false
set_option maxRecDepth 100000
set_option maxHeartbeats 4000000
/-! xs[:] = ys -/
namespace BC
open PySem PySem.Spec PyProof.Rows L2 Evl
theorem bounds_all (n : Nat) : sliceBounds none none none n = (((0 : Nat) : Int), ((n : Nat) : Int), 1) := by
  simp [sliceBounds]
section
variable {prog : Program} {w : World} {A : Around} {s : Shared} {E : Value → Shared → Prop}
theorem setItem_all {l b sl : Addr} {items new : Array Value} {n n2 : Nat} {vl vu : Value} {Q : Unit → Shared → Prop}
    (e : s.heap.get? l = some { cls := .type "list", data := .seq items n }) (e2 : s.heap.get? b = some { cls := .type "list", data := .seq new n2 }) (hne : l ≠ b)
    (hs : s.heap.IsSliceOf sl vl vu .none) (pl : IsPart vl none) (pu : IsPart vu none)
    (hsz : items.size + new.size ≤ sizeLine) (h : Q () { s with heap := s.heap.update l (Obj.mapSeq fun xs => xs.extract 0 0 ++ new ++ xs.extract items.size xs.size) }) :
    wpAny (model prog w) A (setItem (.ref l) (.ref sl) (.ref b)) Q E s := by
  have hl : s.heap.IsList l items := PySem.IsL.isList e
  have hb : s.heap.IsList b new := PySem.IsL.isList e2
  obtain ⟨os, hos, hcs, hds⟩ := id hs
  have hTs : s.TypeIs (.ref sl) "slice" := ⟨os, hos, hcs⟩
  have hstep : ¬ ((rawPart none == rawInt 0) = true) := Bool.false_ne_true
  have hsame : Builtin.List.listSameRef (.ref l) (.ref b) = false := by
    unfold Builtin.List.listSameRef
    exact beq_eq_false_iff_ne.mpr hne
  have hmax : (max ((0 : Nat) : Int) ((items.size : Nat) : Int)).toNat = items.size := by omega
  have hz' : ((fun xs : Array Value => xs.extract 0 0 ++ new ++ xs.extract items.size xs.size) items).size ≤ sizeLine + 1 := by
    simp only [Array.size_append, Array.size_extract]
    omega
  unfold setItem
  try with_reducible refine wpAny_holding ?_
  first | refine wpAny_bind (wpAny_pure ?_) | skip
  refine wpAny_bind (wpAny_sequenceKey hl.typeIs (by decide) ?_)
  refine wpAny_bind (wpAny_callSpecial?_slot (name := Str.ofString "__setitem__") hl.typeIs slot_list_setitem
    (wpAny_call_entry slot_list_setitem hl.typeIs entry_list_setitem ?_ (args_list_setitem _ _ _)))
  show wpAny _ _ (Builtin.List.listSubscript? (.ref sl) >>= _) _ _ s
  refine wpAny_bind ?_
  unfold Builtin.List.listSubscript?
  refine wpAny_bind (wpAny_specialOf hTs slice_no_index ?_)
  simp only [Option.isNone_none, if_true]
  refine wpAny_pure ?_
  show wpAny _ _ (typeOf (.ref sl) >>= _) _ _ s
  refine wpAny_bind (wpAny_typeOf hTs ?_)
  first
    | rw [if_neg (by decide)]
    | refine PySem.W.KFB.if_not (by decide) ?_
  rw [listSliceParts_eq]
  refine wpAny_bind (wpAny_bind (wpAny_field hos hds (x := .none) rfl (wpAny_bind (wpAny_listPart .none ?_))))
  rw [if_neg hstep]
  refine wpAny_bind (wpAny_field hos hds (x := vl) rfl (wpAny_bind (wpAny_listPart pl ?_)))
  refine wpAny_bind (wpAny_field hos hds (x := vu) rfl (wpAny_bind (wpAny_listPart pu (wpAny_pure ?_))))
  first
    | simp only [hsame, Bool.false_eq_true, if_false]
    | refine PySem.W.KFB.if_not hsame ?_
    | (dsimp only
       rw [if_neg (by rw [hsame]; exact Bool.false_ne_true)])
  refine wpAny_bind (m := Builtin.List.listAllItems (.ref b) "must assign iterable to extended slice") ?_
  unfold Builtin.List.listAllItems
  refine wpAny_bind (wpAny_typeOf hb.typeIs ?_)
  first
    | refine PySem.W.KFB.if_so (by decide) ?_
    | rw [if_pos (by decide)]
    | simp only [beq_self_eq_true, Bool.true_or, if_true]
  unfold Builtin.List.listItems
  refine wpAny_bind (wpAny_seqItems e2 rfl (wpAny_pure ?_))
  refine wpAny_bind (wpAny_bind (wpAny_seqItems e rfl (wpAny_pure ?_)))
  refine wpAny_bind (wpAny_of_eq ((sliceIndices_raw none none none items.size (by simp)).trans (congrArg (pure : Int × Int × Int → Sem (Int × Int × Int)) (bounds_all items.size))) ?_)
  show wpAny _ _ (if ((1 : Int) == 1) = true then _ else _) _ _ s
  rw [if_pos (by decide)]
  refine wpAny_bind (wpAny_rule ?_)
  first
    | simp only [notLongL hsz, Bool.false_eq_true, if_false]
    | refine PySem.W.KFB.if_not (notLongL hsz) ?_
  first | refine wpAny_bind (wpAny_pure ?_) | skip
  show wpAny _ _ (updateSeq l (fun xs => xs.extract 0 ((0 : Nat) : Int).toNat ++ new ++ xs.extract (max ((0 : Nat) : Int) ((items.size : Nat) : Int)).toNat xs.size) >>= _) _ _ s
  rw [hmax, Int.toNat_natCast]
  refine wpAny_bind (wpAny_updateSeq (hz := Nat.le_trans (Nat.le_add_right _ _) hsz) (_hz' := hz') e rfl ?_)
  refine wpAny_bind (wpAny_letGo ?_)
  first
    | exact wpAny_bind (wpAny_pure (wpAny_pure ⟨.none, rfl, wpAny_pure h⟩))
    | exact wpAny_pure ⟨.none, rfl, wpAny_pure h⟩
end
section
variable {X : Cx} {o e : Expr} {to : TE} {p2 pos : Pos}
/-- o[:] = v, both lists -/
def gAll (to : TE) : TG := fun v σ H QG => to σ H fun x H1 => ∃ a b xs ys, x = .ref a ∧ v = .ref b ∧ a ≠ b ∧ H1 a = some (.lst xs) ∧ H1 b = some (.lst ys) ∧ xs.length + ys.length ≤ sizeLine ∧ QG σ (upd H1 a (.lst ys))
theorem set_all {pins : List (Addr × Obj)} {s : Shared} {σ : L2.St} {H : Hp} {l b sl : Addr} {xs ys : List V} {vl vu : Value} {Q : Unit → Shared → Prop} (I : Inv X pins σ H s)
    (hH : H l = some (.lst xs)) (hB : H b = some (.lst ys)) (hne : l ≠ b) (hs : s.heap.IsSliceOf sl vl vu .none) (pl : IsPart vl none) (pu : IsPart vu none)
    (hz : xs.length + ys.length ≤ sizeLine) (h : ∀ s', Inv X pins σ (upd H l (.lst ys)) s' → Q () s') :
    wpAny (model X.prog X.w) X.A (setItem (.ref l) (.ref sl) (.ref b)) Q X.xe s := by
  obtain ⟨z, its, n, r, hl, e⟩ := I.lstM hH
  obtain ⟨z2, its2, n2, r2, hl2, e2⟩ := I.lstM hB
  refine setItem_all e e2 hne hs pl pu (by rw [List.size_toArray, List.size_toArray]; omega) (h _ ?_)
  refine I.lset (its' := its2) (t' := s.toks) hH e ?_ r2 (by omega)
  simp
theorem pg_all (ho : PE X o to)
    (ha0 : ∀ v, assign (.Subscript o (.Slice none none none p2) pos) X.env v = (do
      let ov ← holding [v] (eval o X.env)
      let iv ← holding [v, ov] (eval (.Slice none none none p2) X.env)
      standAt pos
      holding [v, ov, iv] (setItem ov iv v)
      release [iv, v, ov] []) := by intro _; rfl) : PG X (.Subscript o (.Slice none none none p2) pos) (gAll to) := by
  refine ⟨fun pins s σ H v u Q I r h => ?_⟩
  rw [ha0]
  refine wpAny_bind (wpAny_holding (thn (ho.run pins s σ H _ I h) fun ov s1 ⟨x, H1, I1, r1, q1⟩ => ?_))
  obtain ⟨a, b, xs, ys, rfl, rfl, hne, ha, hb, hz, q⟩ := q1
  cases r1
  cases r
  refine wpAny_bind (wpAny_holding ?_)
  refine wpAny_Slice ?_
  rw [evalPart_none]
  refine wpAny_pure ?_
  refine wpAny_pure ?_
  refine wpAny_pure ?_
  have I4 : Inv X pins σ H1 { s1 with heap := s1.heap.push { cls := .type "slice", data := .fields #[.none, .none, .none] } } := I1.kept (t' := s1.toks) fun b ob q => Heap.get?_push_of_some _ q
  refine wpAny_bind (wpAny_standAt (wpAny_bind (wpAny_holding ?_)))
  refine set_all I4 ha hb hne (Heap.IsSliceOf.new ..) .none .none hz fun s' I5 => ?_
  exact wpAny_release ⟨σ, _, I5, q⟩
def rDivmod : List V → Hp → VK → Prop := fun xs H Q => ∃ i j, xs = [.int i, .int j] ∧ CDivW i j ∧ ∀ p, H p = none → Q (.ref p) (upd H p (.tup [.int (i / j), .int (i % j)]))
theorem call_dmX : CallR X (.builtin "divmod") rDivmod := by
  intro pins s σ H xs us Q I r h
  obtain ⟨i, j, rfl, hc, q⟩ := h
  obtain ⟨u, u2, rfl, ⟨t, rfl⟩, ⟨t2, rfl⟩⟩ := vals2 r
  have pos : 0 < j := hc.1
  have new := I.hok.fresh (Nat.le_refl s.heap.objs.size)
  refine divmod_int (by omega) ?_ (.inl (PyProof.noPylong_of_log2 hc.2))
  rw [Int.fdiv_eq_ediv_of_nonneg i (by omega), Int.fmod_eq_emod_of_nonneg i (by omega)]
  refine ⟨.ref s.heap.objs.size, _, ?_, rfl, q _ new⟩
  refine I.laid (fun b o e => Heap.get?_push_of_some _ e) (Nat.le_refl _) ⟨?_, [.int (i / j) s.toks, .int (i % j) (s.toks + 1)], .cons ⟨_, rfl⟩ (.cons ⟨_, rfl⟩ .nil), ?_⟩
  · exact Evl.sz_of (by simp)
  · exact ⟨_, Heap.get?_push_size s.heap rfl, rfl, 0, rfl⟩
theorem x_gall {σ : L2.St} {H : Hp} {v : V} {QG : L2.St → Hp → Prop} : gAll to v σ H QG = to σ H fun x H1 => ∃ a b xs ys, x = .ref a ∧ v = .ref b ∧ a ≠ b ∧ H1 a = some (.lst xs) ∧ H1 b = some (.lst ys) ∧ xs.length + ys.length ≤ sizeLine ∧ QG σ (upd H1 a (.lst ys)) := rfl
end
end BC

set_option Elab.async false
set_option linter.all false
set_option maxRecDepth 100000
set_option maxHeartbeats 4000000
/-! comprehensions that change what stands, or whose values are chosen as they come -/
namespace BC
open PySem PySem.Spec PyProof.Rows L2 Evl
section
variable {K : PySem.W.Frag} {σ : L2.St} {H1 : Hp} {g : TG} {te : TE} {vs : List Nat} {Dl : Addr} {Q : VK}
theorem lc_rngE {lo : Int} {n : Nat} (Pv : Nat → Hp → Prop) (h0 : Pv 0 (upd H1 Dl (.lst [])))
    (hs : ∀ i H, i < n → Pv i H → g (.int (lo + i)) (wipe σ vs) H fun σ2 H2 => wipe σ2 vs = wipe σ vs ∧ te σ2 H2 fun y H4 => ∃ acc, H4 Dl = some (.lst acc) ∧ acc.length < sizeLine ∧ Pv (i + 1) (upd H4 Dl (.lst (acc ++ [y]))))
    (hd : ∀ H, Pv n H → Q (.ref Dl) H) : LcG (Itr lo n) g tYes te vs σ Dl H1 Q := by
  refine lc_g n Pv h0 (fun H h => Nat.le_refl _) (fun i H hi h => hi) (fun i H x H' hi h y => ?_) hd
  obtain ⟨rfl, rfl⟩ := y
  have q := hs i _ hi h
  exact q
theorem lc_listE {a : Addr} {xs : List V} (Pv : Nat → Hp → Prop) (h0 : Pv 0 (upd H1 Dl (.lst []))) (hl : ∀ i H, i ≤ xs.length → Pv i H → SqL K H a xs)
    (hs : ∀ i x H, xs[i]? = some x → Pv i H → g x (wipe σ vs) H fun σ2 H2 => wipe σ2 vs = wipe σ vs ∧ te σ2 H2 fun y H4 => ∃ acc, H4 Dl = some (.lst acc) ∧ acc.length < sizeLine ∧ Pv (i + 1) (upd H4 Dl (.lst (acc ++ [y]))))
    (hd : ∀ H, Pv xs.length H → Q (.ref Dl) H) : LcG (Itl K a) g tYes te vs σ Dl H1 Q := by
  refine lc_g xs.length Pv h0 (fun H h => ⟨xs, hl _ H (Nat.le_refl _) h, Nat.le_refl _⟩) (fun i H hi h => ⟨xs, xs[i], hl i H (by omega) h, List.getElem?_eq_getElem hi⟩) (fun i H x H' hi h y => ?_) hd
  obtain ⟨rfl, hf⟩ := y
  exact hs i x _ (hf xs (hl i _ (by omega) h)) h
end
/-- a fourfold tuple unpacked -/
theorem g_four {K : PySem.W.Frag} {σ : L2.St} {H : Hp} {i j l m : Nat} {T : Addr} {x y z u : V} {QG : L2.St → Hp → Prop} (h : H T = some (.tup [x, y, z, u])) (q : QG ((((σ.set i (some x)).set j (some y)).set l (some z)).set m (some u)) H) : gTup K 4 (gCons (gName i) (gCons (gName j) (gCons (gName l) (gCons (gName m) gNil)))) (.ref T) σ H QG :=
  ⟨T, [x, y, z, u], rfl, .inl (.inl h), rfl, x, [y, z, u], rfl, y, [z, u], rfl, z, [u], rfl, u, [], rfl, rfl, q⟩
theorem revL {H : Hp} {Q : VK} {p : Addr} {xs : List V} (h : H p = some (.lst xs)) (q : Q .non (upd H p (.lst xs.reverse))) : rReverse (.ref p) [] H Q := ⟨p, xs, rfl, rfl, h, q⟩
theorem Sh.mono {n m : Nat} {d : PyData} (h : Sh n d) (e : n ≤ m) : Sh m d := by
  induction h generalizing m with
  | non n => exact .non m
  | bl n b => exact .bl m b
  | int n i => exact .int m i
  | str n x => exact .str m x
  | @lst n ds hl h ih =>
    cases m with
    | zero => omega
    | succ m => exact .lst hl fun d hd => ih d hd (by omega)
  | @tup n ds hl h ih =>
    cases m with
    | zero => omega
    | succ m => exact .tup hl fun d hd => ih d hd (by omega)
end BC

set_option Elab.async false
set_option linter.all false
set_option maxRecDepth 100000
set_option maxHeartbeats 4000000
/-! visits and their trails, lists of numbers, their repr -/
namespace BC
open PySem PySem.Spec PyProof.Rows L2 Evl
/-! ### data whose repr is short -/
structure Tm (d : PyData) : Prop where
  s : d.showable = true
  n : d.hasDict = false
  l : d.leavesShort 13 = true
theorem Tm.int {i : Int} (h : i.natAbs < 10 ^ 12) : Tm (.int i) := ⟨by
  show decide (i.natAbs.log2 < 1920) = true
  refine decide_eq_true ?_
  by_cases z : i.natAbs = 0
  · rw [z]; decide
  · exact (Nat.log2_lt z).mpr (Nat.lt_of_lt_of_le h (by decide +kernel)), rfl, by
  show decide (_ ≤ 13) = true
  exact decide_eq_true (PyData.shown_int_le h)⟩
theorem Tm.all {ds : List PyData} (h : ∀ d ∈ ds, Tm d) : PyData.showableAll ds = true ∧ PyData.hasDictAll ds = false ∧ PyData.leavesShortAll 13 ds = true := by
  induction ds with
  | nil => exact ⟨rfl, rfl, rfl⟩
  | cons d ds ih =>
    have a := h d List.mem_cons_self
    obtain ⟨b1, b2, b3⟩ := ih fun e m => h e (List.mem_cons_of_mem _ m)
    refine ⟨?_, ?_, ?_⟩
    · show (d.showable && _) = true
      rw [a.s, b1]; rfl
    · show (d.hasDict || _) = false
      rw [a.n, b2]; rfl
    · show (d.leavesShort 13 && _) = true
      rw [a.l, b3]; rfl
theorem Tm.list {ds : List PyData} (h : ∀ d ∈ ds, Tm d) : Tm (.list ds) := ⟨by simp only [PyData.showable]; exact (Tm.all h).1, by simp only [PyData.hasDict]; exact (Tm.all h).2.1, by simp only [PyData.leavesShort]; exact (Tm.all h).2.2⟩
theorem Tm.tuple {ds : List PyData} (h : ∀ d ∈ ds, Tm d) : Tm (.tuple ds) := ⟨by simp only [PyData.showable]; exact (Tm.all h).1, by simp only [PyData.hasDict]; exact (Tm.all h).2.1, by simp only [PyData.leavesShort]; exact (Tm.all h).2.2⟩
theorem wt_int {i : Int} (h : i.natAbs < 2 ^ 40) : (PyData.int i).weight ≤ 40 := by
  simp only [PyData.weight]
  split
  · omega
  · next z =>
    have z0 : i.natAbs ≠ 0 := fun e => z (by rw [Int.natAbs_eq_zero.mp e]; rfl)
    have := (Nat.log2_lt z0).mpr h
    omega
theorem wt_all {ds : List PyData} {n : Nat} (h : ∀ d ∈ ds, d.weight ≤ n) : PyData.weightAll ds ≤ (n + 1) * ds.length := by
  induction ds with
  | nil => simp [PyData.weightAll]
  | cons d ds ih =>
    have a := h d List.mem_cons_self
    have b := ih fun e m => h e (List.mem_cons_of_mem _ m)
    simp only [PyData.weightAll, List.length_cons, Nat.mul_add]
    omega
theorem dep_all {ds : List PyData} {n : Nat} (h : ∀ d ∈ ds, d.depth ≤ n) : PyData.depthAll ds ≤ n := by
  induction ds with
  | nil => simp [PyData.depthAll]
  | cons d ds ih =>
    have a := h d List.mem_cons_self
    have b := ih fun e m => h e (List.mem_cons_of_mem _ m)
    simp only [PyData.depthAll]
    omega
section
variable {K : PySem.W.Frag} {H : Hp} {Q : VK} {a : Addr}
theorem reprX {d : PyData} (h : Dp K H (.ref a) d) (t : Tm d) (dp : d.depth ≤ 60) (wt : d.weight ≤ 2 ^ 20) (q : Q (.str d.shown) H) : rRepr K [.ref a] H Q :=
  ⟨a, d, rfl, h, t.s, dp, t.n, PyData.shown_fits (B := 13) (by decide) (by decide) t.l wt, q⟩
/-- what repr of a list of numbers says -/
def shInts (ns : List Int) : Str := (PyData.list (ns.map PyData.int)).shown
theorem reprInts {ns : List Int} (h : SqL K H a (ns.map V.int)) (hs : ∀ n ∈ ns, n.natAbs < 10 ^ 12) (hl : ns.length ≤ 20000) (q : Q (.str (shInts ns)) H) : rRepr K [.ref a] H Q := by
  refine reprX (.lst h (dp_ints ns)) (.list fun d m => ?_) ?_ ?_ q
  · obtain ⟨n, hn, rfl⟩ := List.mem_map.mp m
    exact .int (hs n hn)
  · simp only [PyData.depth]
    have := dep_all (ds := ns.map PyData.int) (n := 0) fun d m => by
      obtain ⟨n, hn, rfl⟩ := List.mem_map.mp m
      simp [PyData.depth]
    omega
  · simp only [PyData.weight]
    have := wt_all (ds := ns.map PyData.int) (n := 40) fun d m => by
      obtain ⟨n, hn, rfl⟩ := List.mem_map.mp m
      exact wt_int (Nat.lt_of_lt_of_le (hs n hn) (by decide +kernel))
    rw [List.length_map] at this
    omega
/-! ### in, index, a part of a list of numbers -/
theorem flat_ints (ns : List Int) : (ns.map V.int).all flatV = true := by
  rw [List.all_eq_true]
  intro x hx
  obtain ⟨n, _, rfl⟩ := List.mem_map.mp hx
  rfl
theorem inV_ints (p : Int) (ns : List Int) : inV (.int p) (ns.map V.int) = decide (p ∈ ns) := by
  unfold inV
  rw [List.any_map]
  by_cases h : p ∈ ns
  · rw [decide_eq_true h, List.any_eq_true]
    exact ⟨p, h, by simp [eqV]⟩
  · rw [decide_eq_false h, List.any_eq_false]
    intro x hx
    have : x ≠ p := fun e => h (e ▸ hx)
    simp [eqV, this]
theorem inL {p : Int} {ns : List Int} (h : SqL K H a (ns.map V.int)) (q : Q (.bl (decide (p ∈ ns))) H) : rIn K false (.int p) (.ref a) H Q :=
  ⟨a, _, rfl, .inl h, rfl, flat_ints ns, by rw [inV_ints]; exact q⟩
theorem ninL {p : Int} {ns : List Int} (h : SqL K H a (ns.map V.int)) (q : Q (.bl (!decide (p ∈ ns))) H) : rIn K true (.int p) (.ref a) H Q :=
  ⟨a, _, rfl, .inl h, rfl, flat_ints ns, by rw [inV_ints]; exact q⟩
theorem idxL {p : Int} {ns : List Int} (h : SqL K H a (ns.map V.int)) (hp : p ∈ ns) (q : Q (.int (ns.idxOf p : Nat)) H) : rIndex K (.ref a) [.int p] H Q := by
  have hl := List.idxOf_lt_length_of_mem hp
  refine ⟨a, _, _, ns.idxOf p, .int p, rfl, rfl, h, rfl, flat_ints ns, ?_, by simp [eqV], fun m z hm hz => ?_, q⟩
  · rw [List.getElem?_map, List.getElem?_eq_getElem hl, List.getElem_idxOf hl]
    rfl
  · rw [List.getElem?_map] at hz
    have hml : m < ns.length := by omega
    rw [List.getElem?_eq_getElem hml] at hz
    cases hz
    have ne : ns[m] ≠ p := fun e => by
      have := List.not_of_lt_findIdx (p := fun x => x == p) (xs := ns) hm
      simp [e] at this
    simp [eqV, ne]
/-- numbers that are kept -/
theorem kept_ints (n : Nat) (k : Nat → Bool) (f : Nat → Int) : ∃ fr : List Int, kept n k (fun i => V.int (f i)) = fr.map V.int ∧ (∀ x ∈ fr, ∃ i, i < n ∧ k i = true ∧ x = f i) ∧ (fr = [] → ∀ i, i < n → k i = false) := by
  induction n with
  | zero => exact ⟨[], rfl, fun x h => (List.not_mem_nil h).elim, fun _ i h => by omega⟩
  | succ n ih =>
    obtain ⟨fr, h1, h2, h3⟩ := ih
    cases c : k n with
    | true =>
      refine ⟨fr ++ [f n], by rw [kept_yes c, h1, List.map_append]; rfl, fun x h => ?_, fun e => by simp at e⟩
      rcases List.mem_append.mp h with h | h
      · obtain ⟨i, a, b⟩ := h2 x h
        exact ⟨i, by omega, b⟩
      · exact ⟨n, by omega, c, List.mem_singleton.mp h⟩
    | false =>
      refine ⟨fr, by rw [kept_no c, h1], fun x h => ?_, fun e i hi => ?_⟩
      · obtain ⟨i, a, b⟩ := h2 x h
        exact ⟨i, by omega, b⟩
      · by_cases q : i = n
        · rw [q]; exact c
        · exact h3 e i (by omega)
theorem rgV_ints (a b : Int) : rgV a b = ((List.range (b - a).toNat).map fun i => a + ((i : Nat) : Int)).map V.int := by
  unfold rgV
  rw [List.map_map]
  rfl
theorem shp_ints (ns : List Int) : SeqAt.shaped (.list (ns.map PyData.int)) = true := by
  have h1 : ∀ ns : List Int, PyData.canLayAll0 (ns.map PyData.int) = true := fun ns => by
    induction ns with
    | nil => simp [PyData.canLayAll0]
    | cons n ns ih => simp [PyData.canLayAll0, PyData.canLay0, ih]
  have h2 := dep_all (ds := ns.map PyData.int) (n := 0) fun d m => by
      obtain ⟨n, hn, rfl⟩ := List.mem_map.mp m
      simp [PyData.depth]
  show (PyData.canLay0 _ && decide (PyData.depth _ ≤ 64)) = true
  rw [Bool.and_eq_true]
  refine ⟨?_, decide_eq_true ?_⟩
  · simp only [PyData.canLay0]; exact h1 ns
  · simp only [PyData.depth]; omega
theorem eqv_ints : ∀ ns ms : List Int, PyData.eqv (.list (ns.map PyData.int)) (.list (ms.map PyData.int)) = decide (ns = ms) := fun ns ms => by
  simp only [PyData.eqv]
  induction ns generalizing ms with
  | nil => cases ms <;> simp [PyData.eqvAll]
  | cons n ns ih =>
    cases ms with
    | nil => simp [PyData.eqvAll]
    | cons m ms =>
      simp only [List.map_cons, PyData.eqvAll, PyData.eqv, ih]
      by_cases h : n = m
      · subst h; simp
      · simp [h]
theorem eqInts {b : Addr} {ns ms : List Int} (h : SqL K H a (ns.map V.int)) (g : SqL K H b (ms.map V.int)) (q : Q (.bl (decide (ns = ms))) H) : rEqD K (.ref a) (.ref b) H Q :=
  ⟨_, _, .lst h (dp_ints ns), .lst g (dp_ints ms), shp_ints ns, shp_ints ms, by rw [eqv_ints]; exact q⟩
theorem neInts {b : Addr} {ns ms : List Int} (h : SqL K H a (ns.map V.int)) (g : SqL K H b (ms.map V.int)) (q : Q (.bl (!decide (ns = ms))) H) : rNeD K (.ref a) (.ref b) H Q :=
  ⟨_, _, .lst h (dp_ints ns), .lst g (dp_ints ms), shp_ints ns, shp_ints ms, by rw [eqv_ints]; exact q⟩
theorem pickI {ns : List Int} {r : Int} (h0 : 0 ≤ r) (h1 : r < ns.length) : ∃ n, n ∈ ns ∧ atI (ns.map V.int) r = some (.int n) := by
  obtain ⟨v, hv, e⟩ := pick (xs := ns.map V.int) h0 (by rw [List.length_map]; exact h1)
  obtain ⟨n, hn, rfl⟩ := List.mem_map.mp hv
  exact ⟨n, hn, e⟩
theorem cut_to (xs : List V) {i : Int} {j : Nat} (e : i = (j : Int)) (h : j ≤ xs.length) : cutV xs none (some i) = xs.take j := by
  subst e
  unfold cutV
  have e1 : HT.sIx xs.length 0 none = 0 := rfl
  rw [HT.sIx_nat, e1, List.drop_zero, Nat.sub_zero, Nat.min_eq_left h]
theorem slL {lo hi : Option Int} {xs : List V} (h : SqL K H a xs) (q : ∀ p, H p = none → Q (.ref p) (upd H p (.lst (cutV xs lo hi)))) : rSlL K (.ref a) lo hi H Q := ⟨a, xs, rfl, h, q⟩
theorem tyLL {xs : List V} (h : SqL K H a xs) : tyV K "list" (.ref a) H := Or.inl ⟨rfl, _, h⟩
end
end BC
namespace TR
/-! ### trails -/
def Pg (w : Int) (l : List Int) : Prop := ∀ x ∈ l, 0 ≤ x ∧ x < w
def vis (t : List Int) (p : Int) : List Int := if p ∈ t then t.take (t.idxOf p + 1) else t ++ [p]
def trl (row : List Int) : List Int := row.foldl vis []
/-- the lengths of the trails -/
def lens (row : List Int) : List Int := (List.range row.length).map fun i => ((trl (row.take (i + 1))).length : Int)
theorem vis_mem {t : List Int} {p x : Int} (h : x ∈ vis t p) : x ∈ t ∨ x = p := by
  unfold vis at h
  split at h
  · exact .inl (List.mem_of_mem_take h)
  · simpa using h
theorem vis_nodup {t : List Int} {p : Int} (h : t.Nodup) : (vis t p).Nodup := by
  unfold vis
  split
  · exact h.sublist (List.take_sublist _ _)
  · next n =>
    rw [List.nodup_append]
    exact ⟨h, List.nodup_cons.mpr ⟨List.not_mem_nil, List.nodup_nil⟩, fun a ha b hb e => n (by simp at hb; rw [← hb, ← e]; exact ha)⟩
theorem vis_pos (t : List Int) (p : Int) : 1 ≤ (vis t p).length := by
  unfold vis
  split
  · next h =>
    have := List.idxOf_lt_length_of_mem h
    rw [List.length_take]; omega
  · rw [List.length_append, List.length_singleton]; omega
theorem vis_le (t : List Int) (p : Int) : (vis t p).length ≤ t.length + 1 := by
  unfold vis
  split
  · rw [List.length_take]; omega
  · rw [List.length_append, List.length_singleton]; omega
theorem vis_pg {w : Int} {t : List Int} {p : Int} (h : Pg w t) (h0 : 0 ≤ p) (h1 : p < w) : Pg w (vis t p) := fun x hx => by
  rcases vis_mem hx with h2 | rfl
  · exact h x h2
  · exact ⟨h0, h1⟩
theorem trl_snoc {row : List Int} {i : Nat} {p : Int} (h : row[i]? = some p) : trl (row.take (i + 1)) = vis (trl (row.take i)) p := by
  unfold trl
  rw [List.take_add_one, h, List.foldl_append]
  rfl
theorem fold_ok {w : Int} : ∀ {row t : List Int}, Pg w row → Pg w t → t.Nodup → Pg w (row.foldl vis t) ∧ (row.foldl vis t).Nodup
  | [], _, _, h2, h3 => ⟨h2, h3⟩
  | p :: row, t, h1, h2, h3 => fold_ok (row := row) (t := vis t p) (fun x hx => h1 x (List.mem_cons_of_mem _ hx)) (vis_pg h2 (h1 p List.mem_cons_self).1 (h1 p List.mem_cons_self).2) (vis_nodup h3)
theorem Pg.take {w : Int} {l : List Int} (h : Pg w l) (n : Nat) : Pg w (l.take n) := fun x hx => h x (List.mem_of_mem_take hx)
theorem Pg.mono {w v : Int} {l : List Int} (h : Pg w l) (e : w ≤ v) : Pg v l := fun x hx => ⟨(h x hx).1, by have := (h x hx).2; omega⟩
theorem Pg.at {w : Int} {l : List Int} (h : Pg w l) {i : Nat} {p : Int} (e : l[i]? = some p) : 0 ≤ p ∧ p < w := h p (List.mem_of_getElem? e)
theorem pg_nil (w : Int) : Pg w [] := fun _ m => (List.not_mem_nil m).elim
theorem trl_pg {w : Int} {row : List Int} (h : Pg w row) : Pg w (trl row) := (fold_ok h (pg_nil w) List.nodup_nil).1
theorem trl_nodup {w : Int} {row : List Int} (h : Pg w row) : (trl row).Nodup := (fold_ok h (pg_nil w) List.nodup_nil).2
/-- so many different pages at most -/
theorem nodup_len : ∀ (n : Nat) {l : List Int}, l.Nodup → Pg n l → l.length ≤ n
  | 0, [], _, _ => Nat.le_refl _
  | 0, x :: l, _, h => by have := h x List.mem_cons_self; omega
  | n + 1, l, h1, h2 => by
    by_cases m : ((n : Nat) : Int) ∈ l
    · have h3 := nodup_len n (l := l.erase (n : Int)) (h1.erase _) (fun x hx => by
        have a := h2 x (List.mem_of_mem_erase hx)
        have b : x ≠ (n : Int) := fun e => by
          rw [h1.mem_erase_iff] at hx
          exact hx.1 e
        omega)
      have := List.length_erase_of_mem m
      omega
    · have h3 := nodup_len n h1 (fun x hx => by
        have a := h2 x hx
        have b : x ≠ (n : Int) := fun e => m (e ▸ hx)
        omega)
      omega
theorem trl_len {n : Nat} {row : List Int} (h : Pg n row) : (trl row).length ≤ n := nodup_len n (trl_nodup h) (trl_pg h)
theorem lens_len (row : List Int) : (lens row).length = row.length := by unfold lens; rw [List.length_map, List.length_range]
theorem lens_at {row : List Int} {i : Nat} (h : i < row.length) : (lens row)[i]? = some ((trl (row.take (i + 1))).length : Int) := by
  unfold lens
  rw [List.getElem?_map, List.getElem?_range h]
  rfl
end TR

set_option Elab.async false
set_option linter.all false
set_option maxRecDepth 100000
set_option maxHeartbeats 4000000
/-! defs with one keyword-only parameter that has a default -/
namespace BC
open PySem PySem.Spec PyProof.Rows L2 Evl
theorem kwd1 {K : PySem.W.Frag} {x qual : Str} {st : Stmt} {f D : Addr} {ps : List Str} {nm : Str} {v : V} {u : Value} {n : Nat} {oc : Value} {od : Option Addr} {doc pm : Value} {an : Option Addr} {cdv ct : Value} {osl : Array (Option Value)}
    (lk : K.lookup f = some ⟨oc, od, .func (PySem.W.fnOf x qual (defArgs st) (defBody st) (defScope st) .none (.ref D) doc pm an cdv ct), osl⟩) (hcd : PySem.W.codeIn K cdv qual = true) (kp : PySem.W.keepIn K (.ref f) = true)
    (hq : PySem.W.nsIn K D nm = some (some u)) (hr : RelV v u) (hn : n + 1 = ps.length)
    (h : ∀ (D : Addr) (doc pm : Value) (an : Option Addr) (cdv ct : Value) (us ks : List Value), us.length = n → ks.length = 1 →
      KwChain D ([nm].zip ks) (bindArgs (PySem.W.fnOf x qual (defArgs st) (defBody st) (defScope st) .none (.ref D) doc pm an cdv ct) ⟨us, []⟩) (ps.zip (us ++ ks))) :
    ∃ ds, Vals [v] ds ∧ Binds K (PySem.W.fnOf x qual (defArgs st) (defBody st) (defScope st) .none (.ref D) doc pm an cdv ct) ps ds := by
  have F : FunD K x qual (defArgs st) (defBody st) (defScope st) [] [(nm, v)] f (PySem.W.fnOf x qual (defArgs st) (defBody st) (defScope st) .none (.ref D) doc pm an cdv ct) :=
    ⟨⟨oc, od, _, _, doc, pm, an, cdv, ct, osl, rfl, lk, hcd, .inl ⟨rfl, rfl⟩, .inr ⟨D, rfl, fun q hm => by
      obtain rfl : q = (nm, v) := by simpa using hm
      exact ⟨u, hq, hr⟩⟩⟩, kp⟩
  have z := F.binds0 n (by simp) (by simpa using hn) h
  exact z
/-! ### the bag of draws: a list of three numbers -/
def BagAt (H : Hp) (b : Addr) (c : Nat) : Prop := ∃ x0 x1 x2 : Int, H b = some (.lst [.int x0, .int x1, .int x2]) ∧ 0 ≤ x1 ∧ x1 < 10 ^ 65 ∧ 0 ≤ x2 ∧ x2 ≤ c
theorem BagAt.ex {H H' : Hp} {b : Addr} {c : Nat} (h : BagAt H b c) (e : Ex H H') : BagAt H' b c := by
  obtain ⟨x0, x1, x2, hb, r⟩ := h
  exact ⟨x0, x1, x2, e _ _ hb, r⟩
theorem BagAt.mono {H : Hp} {b : Addr} {c d : Nat} (h : BagAt H b c) (e : c ≤ d) : BagAt H b d := by
  obtain ⟨x0, x1, x2, hb, h1, h2, h3, h4⟩ := h
  exact ⟨x0, x1, x2, hb, h1, h2, h3, by omega⟩
theorem BagAt.some {H : Hp} {b : Addr} {c : Nat} (h : BagAt H b c) : ∃ o, H b = Option.some o := by
  obtain ⟨x0, x1, x2, hb, _⟩ := h
  exact ⟨_, hb⟩
theorem BagAt.apart {H : Hp} {b z : Addr} {c : Nat} (h : BagAt H b c) (nz : H z = none) : z ≠ b := fun e => by
  obtain ⟨o, ho⟩ := h.some
  subst e
  rw [ho] at nz
  cases nz
theorem BagAt.off {H : Hp} {b z : Addr} {c : Nat} {o : HO} (h : BagAt H b c) (nz : z ≠ b) : BagAt (upd H z o) b c := by
  obtain ⟨x0, x1, x2, hb, r⟩ := h
  exact ⟨x0, x1, x2, by rw [upd_ne (Ne.symm nz)]; exact hb, r⟩
theorem BagAt.ne {H : Hp} {b z : Addr} {c : Nat} (h : BagAt H b c) (nb : H z = none) : b ≠ z := fun e => h.apart nb e.symm
/-- the greatest number of ways that is drawn from -/
def BIG : Int := 2 ^ 2000
theorem big_of {m : Int} (h : m ≤ 100000) : m ≤ BIG := Int.le_trans h (by decide +kernel)
theorem big_lt {m : Int} (h : 0 < m) (h2 : m ≤ BIG) : m.natAbs < 2 ^ 2001 := by
  have a : m.natAbs ≤ BIG.natAbs := by omega
  exact Nat.lt_of_le_of_lt a (by decide +kernel)
def spDraw : Sp := fun vs H Q _ => ∃ (b : Addr) (m : Int) (c : Nat), vs = [.ref b, .int m] ∧ 0 < m ∧ m ≤ BIG ∧ BagAt H b c ∧ c ≤ 1000000 ∧ ∀ r H', 0 ≤ r → r < m → Fx b H H' → BagAt H' b (c + 1) → Q (.int r) H'
/-! ### lists of lists of numbers, shown -/
def dLL (ls : List (List Int)) : PyData := .list (ls.map fun l => .list (l.map PyData.int))
theorem tm_ints {l : List Int} (h : ∀ x ∈ l, x.natAbs < 10 ^ 12) : Tm (.list (l.map PyData.int)) := .list fun d m => by
  obtain ⟨x, hx, rfl⟩ := List.mem_map.mp m
  exact .int (h x hx)
theorem wt_ints {l : List Int} (h : ∀ x ∈ l, x.natAbs < 10 ^ 12) : (PyData.list (l.map PyData.int)).weight ≤ 41 * l.length := by
  simp only [PyData.weight]
  have := wt_all (ds := l.map PyData.int) (n := 40) fun d m => by
      obtain ⟨n, hn, rfl⟩ := List.mem_map.mp m
      exact wt_int (Nat.lt_of_lt_of_le (h n hn) (by decide +kernel))
  rw [List.length_map] at this
  exact this
theorem dp_ll {K : PySem.W.Frag} {H : Hp} {ps : List Addr} : ∀ {ls : List (List Int)}, ps.length = ls.length → (∀ (i : Nat) (p : Addr) (l : List Int), ps[i]? = some p → ls[i]? = some l → SqL K H p (l.map V.int)) → DpAll K H (ps.map V.ref) (ls.map fun l => PyData.list (l.map PyData.int)) := fun {ls} => by
  induction ps generalizing ls with
  | nil =>
    intro h _
    cases ls with
    | nil => exact .nil
    | cons l ls => simp at h
  | cons p ps ih =>
    intro h g
    cases ls with
    | nil => simp at h
    | cons l ls => exact .cons (.lst (g 0 p l rfl rfl) (dp_ints l)) (ih (by simpa using h) fun i q m a b => g (i + 1) q m (by rw [List.getElem?_cons_succ]; exact a) (by rw [List.getElem?_cons_succ]; exact b))
theorem reprLL {K : PySem.W.Frag} {H : Hp} {Q : VK} {a : Addr} {ls : List (List Int)} {n : Nat} (h : Dp K H (.ref a) (dLL ls)) (hv : ∀ l ∈ ls, ∀ x ∈ l, x.natAbs < 10 ^ 12) (hl : ∀ l ∈ ls, l.length ≤ n) (hz : (41 * n + 1) * ls.length ≤ 2 ^ 20) (q : Q (.str (dLL ls).shown) H) : rRepr K [.ref a] H Q := by
  refine reprX h (.list fun d m => ?_) ?_ ?_ q
  · obtain ⟨l, hm, rfl⟩ := List.mem_map.mp m
    exact tm_ints (hv l hm)
  · unfold dLL
    simp only [PyData.depth]
    have := dep_all (ds := ls.map fun l => PyData.list (l.map PyData.int)) (n := 1) fun d m => by
      obtain ⟨l, hm, rfl⟩ := List.mem_map.mp m
      simp only [PyData.depth]
      have := dep_all (ds := l.map PyData.int) (n := 0) fun d m => by
        obtain ⟨x, hx, rfl⟩ := List.mem_map.mp m
        simp [PyData.depth]
      omega
    omega
  · unfold dLL
    simp only [PyData.weight]
    have := wt_all (ds := ls.map fun l => PyData.list (l.map PyData.int)) (n := 41 * n) fun d m => by
      obtain ⟨l, hm, rfl⟩ := List.mem_map.mp m
      exact Nat.le_trans (wt_ints (hv l hm)) (Nat.mul_le_mul_left _ (hl l hm))
    rw [List.length_map] at this
    omega
theorem k_lenSet {X : Cx} {K : PySem.W.Frag} {a : Expr} {ta : TE} {p p2 q pos : Pos} (hK : X.K = K) (hg : Gl X "len") (hm : X.mg "len" = none) (hg2 : Gl X "set") (hm2 : X.mg "set" = none) (ha : PE X a ta) (hc : X.calm = true := by rfl)
    (na : starEach [a] X.env = (false, eval a X.env) :: starEach [] X.env := by rfl) : PE X (.Call (.Name "len" p) [.Call (.Name "set" p2) [a] [] q] [] pos) (RZ.tLenSetI K ta) := by subst hK; exact RZ.pe_lenSetI hg hm hg2 hm2 ha hc na
theorem x_lenSet {K : PySem.W.Frag} {ta : TE} {σ : L2.St} {H : Hp} {Q : VK} : RZ.tLenSetI K ta σ H Q = ta σ H fun x H1 => ∃ (l : Addr) (ns : List Int), x = .ref l ∧ SqL K H1 l (ns.map V.int) ∧ ns.Nodup ∧ ns.length ≤ 4000 ∧ Q (.int (ns.length : Nat)) H1 := rfl
end BC

set_option Elab.async false
set_option linter.all false
set_option maxRecDepth 100000
set_option maxHeartbeats 4000000
/-! sorted(set(xs)) of a list of numbers -/
namespace BC
open PySem PySem.Spec PyProof.Rows L2 Evl RZ
/-- the set that set() starts with -/
abbrev set0 (w : World) : Obj := { cls := .type "set", dict := none, data := .set #[] 0 (.fresh 0 0 (!w.params.followText "set-order")) }
abbrev with0 (w : World) (s : Shared) : Shared := { s with heap := s.heap.push (set0 w) }
section
variable {P : Program} {w : World} {A : Around} {E : Value → Shared → Prop} {s : Shared}
set_option maxHeartbeats 3200000 in
theorem set_of_list {l : Addr} {its : Array Value} (ns : List Int) {Q : Value → Shared → Prop} (hh : A.handled = none) (hl : s.heap.IsList l its) (hit : IntsAre its.toList ns) (hb : ns.length + 1 < scanBound)
    (fin : ∀ (h' : Heap) (tk c : Nat), SetR w h' s.heap.objs.size (fun j => decide (j ∈ ns)) c → c ≤ ns.length → (∀ b o, s.heap.get? b = some o → h'.get? b = some o) → Q (.ref s.heap.objs.size) { s with heap := h', toks := tk }) :
    wpAny (model P w) A (call (.type "set") [.ref l]) Q E s := by
  have many : its.size = ns.length := by rw [← IntsAre.length hit, Array.length_toList]
  obtain ⟨c, tl, hmro⟩ := F.called_set.mro
  have m1 := F.called_set.made
  have m2 := F.called_set.sub
  refine wpAny_call (codeAny_of_tree (wpAny_pure ⟨Code.quiet_builtin _ (by decide +kernel), codeAny_builtin F.entry_type_call ?_⟩))
  rw [Around.under_plain (weight_type_call_type "set" [.ref l] []) rfl]
  have m3 := F.called_set.notType
  have m4 := F.called_set.canCreate
  have m5 := F.typeCall_set_1 (.ref l)
  repeat (any_goals (first | assumption | wp_step))
  refine codeAny_mono (code_set_led1 (.ref l) (E := E) (Q₁ := fun obj s₁ => obj = .ref s.heap.objs.size ∧ s₁ = with0 w s) ⟨rfl, rfl⟩) fun r s₁ hr => ?_
  match r, hr with
  | .error e, hr => exact hr
  | .ok .next, hr => exact hr.elim
  | .ok .brk, hr => exact hr.elim
  | .ok .cont, hr => exact hr.elim
  | .ok (.ret obj), hr =>
    obtain ⟨rfl, rfl⟩ := hr
    have at0 : (s.heap.push (set0 w)).get? s.heap.objs.size = some (set0 w) := Heap.get?_push_size _ rfl
    have ty0 : Shared.TypeIs (with0 w s) (.ref s.heap.objs.size) "set" := ⟨_, at0, rfl⟩
    have i1 := F.called_set.init.lookup
    have i2 := F.called_set.init.bind (.ref s.heap.objs.size)
    repeat (any_goals (first | assumption | wp_step))
    refine codeAny_mono (codeAny_call_builtin (R := wants (fun r s₂ => r = .none ∧ ∃ h' tk c, s₂ = { s with heap := h', toks := tk } ∧ SetR w h' s.heap.objs.size (fun j => decide (j ∈ ns)) c ∧ c ≤ ns.length ∧ (∀ b o, s.heap.get? b = some o → h'.get? b = some o)) E)
      F.called_set.init.plain F.entry_set_init (check_set_init_1 ty0 ?_)) fun r₂ s₂ hr₂ => ?_
    · obtain ⟨⟨oc, od, dt, osl⟩, old, e1, nl, e2⟩ := hl
      obtain rfl : oc = .type "list" := e1
      obtain rfl : dt = .seq its nl := e2
      have pushed := Heap.get?_push_of_some (set0 w) old
      have isl : (s.heap.push (set0 w)).IsList l its := ⟨_, pushed, rfl, nl, rfl⟩
      have k1 := F.sub_list_set
      have k2 := F.sub_list_frozenset
      have k3 : (Value.type "list" == Value.type "dict") = false := by decide
      have hltl : l < s.heap.objs.size := Heap.lt_size old
      unfold Builtin.«set.__init__» noKeywords Builtin.Frozenset.updateFrom
      generalize hPI : pyIter = PI
      wp_walk
      subst hPI
      refine wpAny_pyIter_list isl (wpAny_bind (wpAny_runValue ?_))
      have calm3 : A.in1.in1.in1.handled = none := by simp [hh]
      have psz : (s.heap.push (set0 w)).objs.size = s.heap.objs.size + 1 := Heap.size_push ..
      have apart : l ≠ (s.heap.push (set0 w)).objs.size := fun z => Nat.lt_irrefl l (by rw [psz] at z; exact Nat.lt_of_lt_of_le hltl (by rw [z]; exact Nat.le_succ _))
      have away : s.heap.objs.size ∉ [(s.heap.push (set0 w)).objs.size, l] := by
        rw [psz]
        intro z
        simp only [List.mem_cons, List.mem_nil_iff, or_false] at z
        rcases z with z | z
        · exact absurd z (Nat.ne_of_lt (Nat.lt_succ_self _))
        · exact absurd z (Nat.ne_of_gt hltl)
      have items : ∀ (i : Nat) (v : Value), its[i]? = some v → ∃ k t, ns[i]? = some k ∧ v = .int k t := fun i v hv => by
        have hi : i < ns.length := by rw [← many]; exact (Array.getElem?_eq_some_iff.mp hv).1
        obtain ⟨t, e⟩ := IntsAre.int_at hit i v (by rw [Array.getElem?_toList]; exact hv)
        refine ⟨ns[i], t, List.getElem?_eq_getElem hi, ?_⟩
        rw [e, List.getD_eq_getElem?_getD, List.getElem?_eq_getElem hi]
        rfl
      refine set_update_ints ((Walks.list calm3 _ l apart its).toS) s.heap.objs.size away ns many hb items its.size 0 _ (by omega) (Nat.zero_le _) ⟨⟨_, Heap.get?_push_size _ rfl, rfl, rfl⟩, (isl.push _)⟩ ⟨0, Nat.le_refl 0, ?_⟩ fun s' c' mv hc' hS' => ?_
      · exact setR_new_at (Heap.get?_push_of_some _ at0)
      · obtain ⟨h', g2, d', tk', os'⟩ := s'
        obtain rfl : g2 = s.gens := mv.gens
        obtain rfl : d' = s.drawn := mv.drawn
        obtain rfl : os' = s.os := mv.os
        refine wpAny_pure (wpAny_pure ⟨rfl, h', tk', c', rfl, hS', by rw [many] at hc'; exact hc', fun b o e => ?_⟩)
        have lt := Heap.lt_size e
        refine mv.heap b o ?_ (Heap.get?_push_of_some _ (Heap.get?_push_of_some _ e))
        intro z
        rw [psz] at z
        simp only [List.mem_cons, List.mem_nil_iff, or_false] at z
        rcases z with z | z
        · exact absurd z (Nat.ne_of_lt lt)
        · exact absurd z (Nat.ne_of_lt (Nat.lt_succ_of_lt lt))
    · match r₂, hr₂ with
      | .error e, hr₂ => exact hr₂
      | .ok .next, hr₂ => exact hr₂.elim
      | .ok .brk, hr₂ => exact hr₂.elim
      | .ok .cont, hr₂ => exact hr₂.elim
      | .ok (.ret r), hr₂ =>
        obtain ⟨rfl, h', tk, c', rfl, q1, q2, q3⟩ := hr₂
        repeat (any_goals (first | assumption | wp_step))
        exact fin _ _ _ q1 q2 q3
end
section
variable {X : Cx} {K : PySem.W.Frag} {a : Expr} {ta : TE} {p p2 q pos : Pos}
/-- sorted(set(xs)): the different numbers in order -/
def tSortSet (K : PySem.W.Frag) (ta : TE) : TE := fun σ H Q => ta σ H fun x H1 => ∃ (l : Addr) (ns : List Int), x = .ref l ∧ SqL K H1 l (ns.map V.int) ∧ ns.length < 64 ∧
  ∀ (ms : List Int) r, ms.Pairwise (· < ·) → (∀ k : Int, k ∈ ms ↔ k ∈ ns) → H1 r = none → Q (.ref r) (upd H1 r (.lst (ms.map V.int)))
theorem k_sortSet (hK : X.K = K) (hg : Gl X "sorted") (hm : X.mg "sorted" = none) (hg2 : Gl X "set") (hm2 : X.mg "set" = none) (ha : PE X a ta) (hc : X.calm = true := by rfl)
    (na : starEach [a] X.env = (false, eval a X.env) :: starEach [] X.env := by rfl) : PE X (.Call (.Name "sorted" p) [.Call (.Name "set" p2) [a] [] q] [] pos) (tSortSet K ta) := by
  subst hK
  refine ⟨fun pins s σ H Q I h => ?_⟩
  refine Call_ (ld_blt I hg hm (show bootBuiltins ("sorted" : Str) = some (.builtin "sorted") by decide +kernel) ?_)
  refine callWith_builtin1 (args_cons ?_ rfl) rfl rfl
  refine Call_ (ld_blt I hg2 hm2 boot_set ?_)
  refine callWith_type1 (args_cons (thn (ha.run pins s σ H _ I h) fun v s1 ⟨x, H1, I1, r1, q1⟩ => args_nil ?_) na) na rfl
  obtain ⟨l, ns, rfl, hq, hl, q1⟩ := q1
  cases r1
  obtain ⟨its, r, pl, hz⟩ := I1.list hq
  refine set_of_list ns (I1.ok.hd hc) pl.isList (by simpa using intsAre_vals r) (by unfold scanBound; omega) fun h' tk c hS hcl hk => ?_
  refine args_nil ?_
  have I2 : Inv X pins σ H1 { s1 with heap := h', toks := tk } := I1.kept hk
  refine sorted_set hS (I2.ok.hd hc) (by omega) fun s' p out c2 ms k g o hp hg hi hs hm hlen => ?_
  have few : (ms.map V.int).length ≤ sizeLine := by rw [List.length_map, hlen, sizeLine_eq]; omega
  have hn : H1 p = none := I2.hok.fresh hp
  have J : Inv X pins σ (upd H1 p (.lst (ms.map V.int))) { ({ s1 with heap := h', toks := tk } : Shared) with heap := s'.heap, gens := s'.gens, drawn := s'.drawn, toks := s'.toks } :=
    I2.call (ch := []) (Un.laid k hp hn) (I2.hok.laid k hp ⟨few, out.toList, c2, vals_of_ints hi, hg⟩) (by rw [g]; exact I2.bare) (fun _ z => nomatch z)
  have e : s' = { ({ s1 with heap := h', toks := tk } : Shared) with heap := s'.heap, gens := s'.gens, drawn := s'.drawn, toks := s'.toks } := by
    cases s'
    cases o
    rfl
  rw [e]
  exact ⟨.ref p, _, J, rfl, q1 ms p hs (fun k => by rw [hm k, decide_eq_true_eq]) hn⟩
theorem x_sortSet {σ : L2.St} {H : Hp} {Q : VK} : tSortSet K ta σ H Q = ta σ H fun x H1 => ∃ (l : Addr) (ns : List Int), x = .ref l ∧ SqL K H1 l (ns.map V.int) ∧ ns.length < 64 ∧
  ∀ (ms : List Int) r, ms.Pairwise (· < ·) → (∀ k : Int, k ∈ ms ↔ k ∈ ns) → H1 r = none → Q (.ref r) (upd H1 r (.lst (ms.map V.int))) := rfl
end
/-- two ascending lists of the same numbers are the same -/
theorem asc_same : ∀ {a b : List Int}, a.Pairwise (· < ·) → b.Pairwise (· < ·) → (∀ k : Int, k ∈ a ↔ k ∈ b) → a = b
  | [], [], _, _, _ => rfl
  | [], y :: b, _, _, h => absurd ((h y).mpr List.mem_cons_self) List.not_mem_nil
  | x :: a, [], _, _, h => absurd ((h x).mp List.mem_cons_self) List.not_mem_nil
  | x :: a, y :: b, ha, hb, h => by
    rw [List.pairwise_cons] at ha hb
    have xy : x = y := by
      have h1 := (h x).mp List.mem_cons_self
      have h2 := (h y).mpr List.mem_cons_self
      rcases List.mem_cons.mp h1 with e | e
      · exact e
      · rcases List.mem_cons.mp h2 with e2 | e2
        · exact e2.symm
        · have := ha.1 y e2
          have := hb.1 x e
          omega
    subst xy
    rw [asc_same ha.2 hb.2 fun k => ⟨fun m => by
      rcases List.mem_cons.mp ((h k).mp (List.mem_cons_of_mem _ m)) with e | e
      · subst e; have := ha.1 k m; omega
      · exact e, fun m => by
      rcases List.mem_cons.mp ((h k).mpr (List.mem_cons_of_mem _ m)) with e | e
      · subst e; have := hb.1 k m; omega
      · exact e⟩]
end BC

set_option Elab.async false
set_option linter.all false
set_option maxRecDepth 100000
set_option maxHeartbeats 4000000
/-! sites: lists of lists of natural numbers, and how they lie in the heap -/
namespace BC
open PySem PySem.Spec PyProof.Rows L2 Evl
/-! ### xs + ys of lists of any origin -/
section
variable {prog : Program} {w : World} {A : Around} {E : Value → Shared → Prop} {s : Shared}
theorem add_plain {l b : Addr} {its its2 : Array Value} {Q : Value → Shared → Prop} (x : PlainL s.heap l its) (y : PlainL s.heap b its2) (fits : its.size + its2.size ≤ sizeLine)
    (q : Q (.ref s.heap.objs.size) { s with heap := s.heap.push { cls := .type "list", data := .seq (its ++ its2) } }) : wpAny (model prog w) A (binaryOp .Add (.ref l) (.ref b)) Q E s := by
  obtain ⟨⟨c1, d1, k1, z1⟩, n1, g1, e1, e2, e3⟩ := x
  obtain ⟨⟨c2, d2, k2, z2⟩, n2, g2, e4, e5, e6⟩ := y
  obtain rfl : c1 = .type "list" := e1
  obtain rfl : c2 = .type "list" := e4
  obtain rfl : k1 = .seq its n1 := e3
  obtain rfl : k2 = .seq its2 n2 := e6
  exact concat_meets ⟨_, g1, rfl⟩ ⟨_, g2, rfl⟩ noFill_list_add seq_list_add F.slot_list_add F.entry_list_add (F.args_list_add_2 _ _) (list_addW l b its its2 n1 n2 d1 d2 z1 z2 fits) ⟨g1, g2, q⟩
end
def rCatS (K : PySem.W.Frag) : R2 := fun x y H Q => ∃ l b xs zs, x = .ref l ∧ y = .ref b ∧ SqL K H l xs ∧ SqL K H b zs ∧ xs.length + zs.length ≤ sizeLine ∧ ∀ p, H p = none → Q (.ref p) (upd H p (.lst (xs ++ zs)))
theorem k_catS {X : Cx} {K : PySem.W.Frag} (hK : X.K = K) : OpR X (binaryOp .Add) (rCatS K) := by
  subst hK
  intro pins s σ H x y v u Q I rx ry h
  obtain ⟨l, b, xs, zs, rfl, rfl, hH, hB, hz, q⟩ := h
  cases rx
  cases ry
  obtain ⟨its, r, p1, _⟩ := I.list hH
  obtain ⟨its2, r2, p2, _⟩ := I.list hB
  have l1 := r.length
  have l2 := r2.length
  refine add_plain p1 p2 (by rw [List.size_toArray, List.size_toArray]; omega) ?_
  have ea : its.toArray ++ its2.toArray = (its ++ its2).toArray := by simp
  rw [ea]
  exact ⟨.ref _, _, I.lnew (t' := s.toks) (r.append r2) (by rw [List.length_append]; omega), rfl, q _ I.fresh⟩
theorem catS {K : PySem.W.Frag} {H : Hp} {Q : VK} {p b : Addr} {xs ys : List V} (h : SqL K H p xs) (hb : SqL K H b ys) (hz : xs.length + ys.length ≤ sizeLine) (q : ∀ l, H l = none → Q (.ref l) (upd H l (.lst (xs ++ ys)))) : rCatS K (.ref p) (.ref b) H Q := ⟨p, b, xs, ys, rfl, rfl, h, hb, hz, q⟩
/-- natural numbers as the program's -/
def nz (L : List Nat) : List Int := L.map fun x : Nat => (x : Int)
theorem nz_len (L : List Nat) : (nz L).length = L.length := List.length_map _
theorem nz_at {L : List Nat} {i x : Nat} (h : L[i]? = some x) : ((nz L).map V.int)[i]? = some (.int (x : Int)) := by
  unfold nz
  rw [List.getElem?_map, List.getElem?_map, h]
  rfl
theorem at_nz {L : List Nat} {i : Nat} {v : V} (h : ((nz L).map V.int)[i]? = some v) : ∃ x, L[i]? = some x ∧ v = .int (x : Int) := by
  unfold nz at h
  rw [List.getElem?_map, List.getElem?_map] at h
  cases e : L[i]? with
  | none => rw [e] at h; cases h
  | some x => rw [e] at h; cases h; exact ⟨x, rfl, rfl⟩
theorem nz_mem {L : List Nat} {x : Nat} : ((x : Nat) : Int) ∈ nz L ↔ x ∈ L := by
  unfold nz
  rw [List.mem_map]
  exact ⟨fun ⟨y, h, e⟩ => by rw [← Int.ofNat.inj e]; exact h, fun h => ⟨x, h, rfl⟩⟩
theorem nz_inj : ∀ {a b : List Nat}, nz a = nz b → a = b
  | [], [], _ => rfl
  | [], y :: b, h => by cases h
  | x :: a, [], h => by cases h
  | x :: a, y :: b, h => by
    have h1 := (List.cons.inj h).1
    have h2 := (List.cons.inj h).2
    rw [nz_inj (show nz a = nz b from h2), Int.ofNat.inj h1]
theorem nz_app (a b : List Nat) : nz (a ++ b) = nz a ++ nz b := List.map_append
theorem nz_v (a : List Nat) (x : Nat) : (nz a).map V.int ++ [V.int (x : Int)] = (nz (a ++ [x])).map V.int := by rw [nz_app, List.map_append]; rfl
theorem lts {l : List Nat} (h : l.Pairwise (· < ·)) : (nz l).Pairwise (· < ·) := by
  unfold nz
  rw [List.pairwise_map]
  exact h.imp fun h => by omega
theorem nz_nodup {l : List Nat} (h : l.Nodup) : (nz l).Nodup := by
  unfold nz List.Nodup
  rw [List.pairwise_map]
  exact h.imp fun h e => h (Int.ofNat.inj e)
theorem nodup_lt : ∀ (n : Nat) {l : List Nat}, l.Nodup → (∀ x ∈ l, x < n) → l.length ≤ n
  | 0, [], _, _ => Nat.le_refl _
  | 0, x :: l, _, h => by have := h x List.mem_cons_self; omega
  | n + 1, l, h1, h2 => by
    by_cases m : n ∈ l
    · have h3 := nodup_lt n (l := l.erase n) (h1.erase _) (fun x hx => by
        have a := h2 x (List.mem_of_mem_erase hx)
        have b : x ≠ n := fun e => by
          rw [h1.mem_erase_iff] at hx
          exact hx.1 e
        omega)
      have := List.length_erase_of_mem m
      omega
    · have h3 := nodup_lt n h1 (fun x hx => by
        have a := h2 x hx
        have b : x ≠ n := fun e => m (e ▸ hx)
        omega)
      omega
theorem asc_nodup {l : List Nat} (h : l.Pairwise (· < ·)) : l.Nodup := h.imp fun h => by omega
/-! ### sites -/
abbrev Grid := List (List Nat)
structure SiteOk (G : Grid) : Prop where
  n1 : 1 ≤ G.length
  n2 : G.length ≤ 12
  asc : ∀ (i : Nat) (r : List Nat), G[i]? = some r → r.Pairwise (· < ·)
  lt : ∀ (i : Nat) (r : List Nat), G[i]? = some r → ∀ x ∈ r, x < G.length
  no : ∀ (i : Nat) (r : List Nat), G[i]? = some r → i ∉ r
theorem SiteOk.len {G : Grid} (h : SiteOk G) {i : Nat} {r : List Nat} (e : G[i]? = some r) : r.length ≤ 12 := Nat.le_trans (nodup_lt _ (asc_nodup (h.asc i r e)) (h.lt i r e)) h.n2
/-- the row of a page -/
def row (G : Grid) (i : Nat) : List Nat := G.getD i []
theorem row_at {G : Grid} {i : Nat} {r : List Nat} (h : G[i]? = some r) : row G i = r := by
  unfold row
  rw [List.getD_eq_getElem?_getD, h]
  rfl
theorem at_row {G : Grid} {i : Nat} (h : i < G.length) : G[i]? = some (row G i) := by
  unfold row
  rw [List.getD_eq_getElem?_getD, List.getElem?_eq_getElem h]
  rfl
theorem SiteOk.rlt {G : Grid} (h : SiteOk G) {i x : Nat} (m : x ∈ row G i) : x < G.length := by
  by_cases q : i < G.length
  · exact h.lt i _ (at_row q) x m
  · unfold row at m
    rw [List.getD_eq_getElem?_getD, List.getElem?_eq_none (by omega)] at m
    exact (List.not_mem_nil m).elim
theorem SiteOk.rlen {G : Grid} (h : SiteOk G) (i : Nat) : (row G i).length ≤ 12 := by
  by_cases q : i < G.length
  · exact h.len (at_row q)
  · unfold row
    rw [List.getD_eq_getElem?_getD, List.getElem?_eq_none (by omega)]
    exact Nat.zero_le _
/-- a list at s of lists of numbers -/
def GridAt (H : Hp) (s : Addr) (G : Grid) : Prop := ∃ ps : List Addr, H s = some (.lst (ps.map V.ref)) ∧ ps.length = G.length ∧ ∀ i p, ps[i]? = some p → H p = some (.lst ((nz (row G i)).map V.int))
theorem GridAt.ex {H H' : Hp} {s : Addr} {G : Grid} (h : GridAt H s G) (e : Ex H H') : GridAt H' s G := by
  obtain ⟨ps, h1, h2, h3⟩ := h
  exact ⟨ps, e _ _ h1, h2, fun i p q => e _ _ (h3 i p q)⟩
theorem GridAt.get {H : Hp} {s : Addr} {G : Grid} (h : GridAt H s G) {i : Nat} (hi : i < G.length) : ∃ p xs, H s = some (.lst xs) ∧ xs.length = G.length ∧ xs[i]? = some (.ref p) ∧ H p = some (.lst ((nz (row G i)).map V.int)) := by
  obtain ⟨ps, h1, h2, h3⟩ := h
  have hx : ps[i]? = some ps[i] := List.getElem?_eq_getElem (by omega)
  exact ⟨ps[i], _, h1, by rw [List.length_map]; exact h2, by rw [List.getElem?_map, hx]; rfl, h3 i _ hx⟩
theorem GridAt.lst {H : Hp} {s : Addr} {G : Grid} (h : GridAt H s G) : ∃ xs, H s = some (.lst xs) ∧ xs.length = G.length ∧ ∀ (i : Nat) (v : V), xs[i]? = some v → i < G.length ∧ ∃ p, v = .ref p ∧ H p = some (.lst ((nz (row G i)).map V.int)) := by
  obtain ⟨ps, h1, h2, h3⟩ := h
  refine ⟨_, h1, by rw [List.length_map]; exact h2, fun i v e => ?_⟩
  rw [List.getElem?_map] at e
  cases q : ps[i]? with
  | none => rw [q] at e; cases e
  | some p =>
    rw [q] at e
    cases e
    exact ⟨by have := (List.getElem?_eq_some_iff.mp q).1; omega, p, rfl, h3 i p q⟩
/-- such a list, all of it new -/
def GridN (H H' : Hp) (s : Addr) (G : Grid) : Prop := H s = none ∧ ∃ ps : List Addr, H' s = some (.lst (ps.map V.ref)) ∧ ps.length = G.length ∧ ps.Nodup ∧ s ∉ ps ∧ ∀ i p, ps[i]? = some p → H p = none ∧ H' p = some (.lst ((nz (row G i)).map V.int))
theorem GridN.at {H H' : Hp} {s : Addr} {G : Grid} (h : GridN H H' s G) : GridAt H' s G := by
  obtain ⟨_, ps, h1, h2, _, _, h3⟩ := h
  exact ⟨ps, h1, h2, fun i p q => (h3 i p q).2⟩
theorem GridN.ex {H H' H2 : Hp} {s : Addr} {G : Grid} (h : GridN H H' s G) (e : Ex H' H2) : GridN H H2 s G := by
  obtain ⟨h0, ps, h1, h2, h4, h5, h3⟩ := h
  exact ⟨h0, ps, e _ _ h1, h2, h4, h5, fun i p q => ⟨(h3 i p q).1, e _ _ (h3 i p q).2⟩⟩
theorem GridN.back {H0 H H' : Hp} {s : Addr} {G : Grid} (h : GridN H H' s G) (e : Ex H0 H) : GridN H0 H' s G := by
  obtain ⟨h0, ps, h1, h2, h4, h5, h3⟩ := h
  exact ⟨fresh_back e h0, ps, h1, h2, h4, h5, fun i p q => ⟨fresh_back e (h3 i p q).1, (h3 i p q).2⟩⟩
/-- what was new after Hc stands -/
def Nw (Hc H H' : Hp) : Prop := ∀ x o, Hc x = none → H x = some o → H' x = some o
theorem Nw.of {Hc H H' : Hp} (e : Ex H H') : Nw Hc H H' := fun x o _ h => e x o h
theorem Nw.trans {Hc H H' H'' : Hp} (e : Nw Hc H H') (f : Nw Hc H' H'') : Nw Hc H H'' := fun x o n h => f x o n (e x o n h)
theorem Nw.fx {Hc H H' : Hp} {b : Addr} {o : HO} (h : Hc b = some o) (f : Fx b H H') : Nw Hc H H' := fun x v n g => f x v (fun e => by subst e; rw [h] at n; cases n) g
theorem Nw.put {Hc H : Hp} {a : Addr} {o u : HO} (h : Hc a = some u) : Nw Hc H (upd H a o) := fun x v n g => by
  rw [upd_ne (fun e => by subst e; rw [h] at n; cases n)]
  exact g
theorem GridN.nw {H H1 H2 : Hp} {s : Addr} {G : Grid} (h : GridN H H1 s G) (e : Nw H H1 H2) : GridN H H2 s G := by
  obtain ⟨h0, ps, h1, h2, h4, h5, h3⟩ := h
  exact ⟨h0, ps, e _ _ h0 h1, h2, h4, h5, fun i p q => ⟨(h3 i p q).1, e _ _ (h3 i p q).1 (h3 i p q).2⟩⟩
/-- one row more, made while the grid stood -/
theorem GridN.push {H H1 H' : Hp} {s p : Addr} {G : Grid} {r : List Nat} (h : GridN H H1 s G) (nH : H p = none) (np : H1 p = none) (e : Nw H H1 H') (hp : H' p = some (.lst ((nz r).map V.int))) :
    ∃ xs, H' s = some (.lst xs) ∧ xs.length = G.length ∧ GridN H (upd H' s (.lst (xs ++ [.ref p]))) s (G ++ [r]) := by
  have q1 := h
  obtain ⟨h0, ps, h1, h2, h4, h5, h3⟩ := h
  have hs : p ≠ s := Ne.symm (ne_of_none h1 np)
  refine ⟨_, e _ _ h0 h1, by rw [List.length_map]; exact h2, h0, ps ++ [p], by rw [upd_same, List.map_append]; rfl, by rw [List.length_append, List.length_append, h2]; rfl, ?_, ?_, fun i q eq => ?_⟩
  · rw [List.nodup_append]
    refine ⟨h4, by simp, fun a ha b hb e => ?_⟩
    rw [List.mem_singleton.mp hb] at e
    subst e
    obtain ⟨j, hj, ej⟩ := List.getElem_of_mem ha
    have := (h3 j a (List.getElem?_eq_some_iff.mpr ⟨hj, ej⟩)).2
    rw [np] at this
    cases this
  · intro m
    rcases List.mem_append.mp m with m | m
    · exact h5 m
    · exact hs (List.mem_singleton.mp m).symm
  · by_cases hi : i < ps.length
    · rw [List.getElem?_append_left hi] at eq
      have := h3 i q eq
      have ns : q ≠ s := fun z => h5 (z ▸ List.mem_of_getElem? eq)
      refine ⟨this.1, ?_⟩
      rw [upd_ne ns, e _ _ this.1 this.2]
      unfold row
      rw [List.getD_eq_getElem?_getD, List.getD_eq_getElem?_getD, List.getElem?_append_left (by omega)]
    · rw [List.getElem?_append_right (by omega)] at eq
      have hi2 : i - ps.length = 0 := by
        have := (List.getElem?_eq_some_iff.mp eq).1
        rw [List.length_singleton] at this
        omega
      rw [hi2] at eq
      obtain rfl : p = q := by simpa using eq
      refine ⟨nH, ?_⟩
      rw [upd_ne hs, hp]
      unfold row
      have : i = G.length := by omega
      rw [this, List.getD_eq_getElem?_getD, List.getElem?_append_right (Nat.le_refl _), Nat.sub_self]
      rfl
theorem GridN.nil {H : Hp} {s : Addr} (h : H s = none) : GridN H (upd H s (.lst [])) s [] := ⟨h, [], upd_same, rfl, List.nodup_nil, List.not_mem_nil, fun i p e => by simp at e⟩
/-- as data -/
def dG (G : Grid) : PyData := .list (G.map fun r => .list ((nz r).map PyData.int))
theorem dG_LL (G : Grid) : dG G = dLL (G.map nz) := by unfold dG dLL; rw [List.map_map]; rfl
theorem GridAt.dp {K : PySem.W.Frag} {H : Hp} {s : Addr} {G : Grid} (h : GridAt H s G) : Dp K H (.ref s) (dG G) := by
  obtain ⟨ps, h1, h2, h3⟩ := h
  rw [dG_LL]
  refine .lst (.inl (.inl h1)) (dp_ll (by rw [List.length_map]; exact h2) fun i p l a b => ?_)
  rw [List.getElem?_map] at b
  cases q : G[i]? with
  | none => rw [q] at b; cases b
  | some r =>
    rw [q] at b
    cases b
    have := h3 i p a
    rw [row_at q] at this
    exact .inl (.inl this)
theorem shp_LL (ls : List (List Int)) : SeqAt.shaped (dLL ls) = true := by
  have h0 : ∀ ns : List Int, PyData.canLayAll0 (ns.map PyData.int) = true := fun ns => by
    induction ns with
    | nil => simp [PyData.canLayAll0]
    | cons n ns ih => simp [PyData.canLayAll0, PyData.canLay0, ih]
  have h1 : ∀ ls : List (List Int), PyData.canLayAll0 (ls.map fun l => PyData.list (l.map PyData.int)) = true := fun ls => by
    induction ls with
    | nil => simp [PyData.canLayAll0]
    | cons l ls ih => simp [PyData.canLayAll0, PyData.canLay0, ih, h0]
  have h2 := dep_all (ds := ls.map fun l => PyData.list (l.map PyData.int)) (n := 1) fun d m => by
      obtain ⟨l, hm, rfl⟩ := List.mem_map.mp m
      simp only [PyData.depth]
      have := dep_all (ds := l.map PyData.int) (n := 0) fun d m => by
        obtain ⟨x, hx, rfl⟩ := List.mem_map.mp m
        simp [PyData.depth]
      omega
  show (PyData.canLay0 _ && decide (PyData.depth _ ≤ 64)) = true
  rw [Bool.and_eq_true]
  refine ⟨?_, decide_eq_true ?_⟩
  · unfold dLL; simp only [PyData.canLay0]; exact h1 ls
  · unfold dLL; simp only [PyData.depth]; omega
theorem eqv_LL : ∀ as bs : List (List Int), PyData.eqv (dLL as) (dLL bs) = decide (as = bs) := fun as bs => by
  unfold dLL
  simp only [PyData.eqv]
  induction as generalizing bs with
  | nil => cases bs <;> simp [PyData.eqvAll]
  | cons a as ih =>
    cases bs with
    | nil => simp [PyData.eqvAll]
    | cons b bs =>
      simp only [List.map_cons, PyData.eqvAll, eqv_ints, ih]
      by_cases h : a = b
      · subst h; simp
      · simp [h]
theorem nzs_inj : ∀ {a b : Grid}, a.map nz = b.map nz → a = b
  | [], [], _ => rfl
  | [], y :: b, h => by cases h
  | x :: a, [], h => by cases h
  | x :: a, y :: b, h => by
    rw [List.map_cons, List.map_cons] at h
    rw [nz_inj (List.cons.inj h).1, nzs_inj (List.cons.inj h).2]
theorem eqGrid {K : PySem.W.Frag} {H : Hp} {Q : VK} {a b : Addr} {F G : Grid} (h : GridAt H a F) (g : GridAt H b G) (q : Q (.bl (decide (F = G))) H) : rEqD K (.ref a) (.ref b) H Q := by
  have e : decide (F.map nz = G.map nz) = decide (F = G) := by
    by_cases z : F = G
    · rw [z, decide_eq_true rfl, decide_eq_true rfl]
    · rw [decide_eq_false z, decide_eq_false fun y => z (nzs_inj y)]
  refine ⟨_, _, h.dp, g.dp, by rw [dG_LL]; exact shp_LL _, by rw [dG_LL]; exact shp_LL _, ?_⟩
  rw [dG_LL, dG_LL, eqv_LL, e]
  exact q
theorem neGrid {K : PySem.W.Frag} {H : Hp} {Q : VK} {a b : Addr} {F G : Grid} (h : GridAt H a F) (g : GridAt H b G) (q : Q (.bl (!decide (F = G))) H) : rNeD K (.ref a) (.ref b) H Q := by
  have e : decide (F.map nz = G.map nz) = decide (F = G) := by
    by_cases z : F = G
    · rw [z, decide_eq_true rfl, decide_eq_true rfl]
    · rw [decide_eq_false z, decide_eq_false fun y => z (nzs_inj y)]
  refine ⟨_, _, h.dp, g.dp, by rw [dG_LL]; exact shp_LL _, by rw [dG_LL]; exact shp_LL _, ?_⟩
  rw [dG_LL, dG_LL, eqv_LL, e]
  exact q
theorem at_ints {ns : List Int} {i : Nat} {n : Int} (h : ns[i]? = some n) : (ns.map V.int)[i]? = some (.int n) := by rw [List.getElem?_map, h]; rfl
theorem atI_last {xs : List V} {v : V} (h : xs[xs.length - 1]? = some v) : atI xs (-1) = some v := by
  have hl : xs.length - 1 < xs.length := (List.getElem?_eq_some_iff.mp h).1
  have e : ixN xs.length (-1) = some (xs.length - 1) := by
    unfold ixN
    rw [if_neg (by omega), if_pos (by omega)]
    congr 1
    omega
  unfold atI
  rw [e]
  exact h
theorem cutV_from1 (xs : List V) : cutV xs (some 1) none = xs.drop 1 := by
  unfold cutV
  have e2 : HT.sIx xs.length xs.length none = xs.length := rfl
  have e1 : HT.sIx xs.length 0 (some 1) = min 1 xs.length := HT.sIx_nat ..
  rw [e1, e2]
  by_cases h : 1 ≤ xs.length
  · rw [Nat.min_eq_left h, List.take_of_length_le (by rw [List.length_drop]; omega)]
  · have : xs = [] := List.length_eq_zero_iff.mp (by omega)
    rw [this]
    rfl
theorem cut_take (xs : List V) (j : Nat) : cutV xs none (some (j : Int)) = xs.take j := by
  by_cases h : j ≤ xs.length
  · exact BC.cut_to xs rfl h
  · unfold cutV
    have e1 : HT.sIx xs.length 0 none = 0 := rfl
    rw [HT.sIx_nat, e1, List.drop_zero, Nat.sub_zero, Nat.min_eq_right (by omega), List.take_length, List.take_of_length_le (by omega)]
theorem GridN.get {H H' : Hp} {s : Addr} {G : Grid} (h : GridN H H' s G) {i : Nat} (hi : i < G.length) : ∃ p xs, H' s = some (.lst xs) ∧ xs.length = G.length ∧ xs[i]? = some (.ref p) ∧ H' p = some (.lst ((nz (row G i)).map V.int)) ∧ H p = none := by
  obtain ⟨_, ps, h1, h2, _, _, h3⟩ := h
  have hx : ps[i]? = some ps[i] := List.getElem?_eq_getElem (by omega)
  exact ⟨ps[i], _, h1, by rw [List.length_map]; exact h2, by rw [List.getElem?_map, hx]; rfl, (h3 i _ hx).2, (h3 i _ hx).1⟩
theorem GridN.lower {Hl H H' : Hp} {b s : Addr} {G : Grid} (h : GridN H H' s G) (f : Fx b Hl H) (hb : ∃ o, H b = some o) : GridN Hl H' s G := by
  obtain ⟨o, ho⟩ := hb
  obtain ⟨h0, ps, h1, h2, h4, h5, h3⟩ := h
  have nb : ∀ {x : Addr}, H x = none → x ≠ b := fun n e => by subst e; rw [ho] at n; cases n
  exact ⟨fx_none f h0 (nb h0), ps, h1, h2, h4, h5, fun i p q => ⟨fx_none f (h3 i p q).1 (nb (h3 i p q).1), (h3 i p q).2⟩⟩
theorem nd_at {l : List Addr} (h : l.Nodup) {i j : Nat} {x : Addr} (a : l[i]? = some x) (b : l[j]? = some x) : i = j := by
  obtain ⟨h1, h2⟩ := List.getElem?_eq_some_iff.mp a
  obtain ⟨h3, h4⟩ := List.getElem?_eq_some_iff.mp b
  have e1 := h.idxOf_getElem i h1
  have e2 := h.idxOf_getElem j h3
  rw [h2] at e1
  rw [h4] at e2
  exact e1.symm.trans e2
/-- kept of a list -/
theorem kept_nz (s : List Nat) (k : Nat → Bool) : kept s.length (fun i => k (s.getD i 0)) (fun i => V.int ((s.getD i 0 : Nat) : Int)) = (nz (s.filter k)).map V.int := by
  unfold kept nz
  have e : (List.range s.length).map (fun i => s.getD i 0) = s := by
    apply List.ext_getElem?
    intro j
    by_cases h : j < s.length
    · rw [List.getElem?_map, List.getElem?_range h, List.getElem?_eq_getElem h]
      show some (s.getD j 0) = _
      rw [List.getD_eq_getElem?_getD, List.getElem?_eq_getElem h]
      rfl
    · rw [List.getElem?_eq_none (by rw [List.length_map, List.length_range]; omega), List.getElem?_eq_none (by omega)]
  conv => rhs; rw [← e]
  rw [List.filter_map, List.map_map, List.map_map]
  rfl
theorem kept_rng (n : Nat) (k : Nat → Bool) : kept n k (fun i => V.int ((i : Nat) : Int)) = (nz ((List.range n).filter k)).map V.int := by
  unfold kept nz
  rw [List.map_map]
  rfl
/-- zip of lists of different lengths -/
theorem lc_zipM {K : PySem.W.Frag} {σ : L2.St} {H1 : Hp} {tt : TT} {te : TE} {vs : List Nat} {Dl : Addr} {Q : VK} {a b : Addr} {xs ys : List V} {j k : Nat} (n : Nat) (keep : Nat → Bool) (f : Nat → V) (hx : SqL K H1 a xs) (hy : SqL K H1 b ys) (h1 : n ≤ xs.length) (h2 : n ≤ ys.length) (h3 : n = xs.length ∨ n = ys.length) (hD : H1 Dl = none) (hn : n ≤ 100000)
    (hw : ∀ u v : V, wipe (((wipe σ vs).set j (some u)).set k (some v)) vs = wipe σ vs)
    (ht : ∀ i x y, xs[i]? = some x → ys[i]? = some y → Evl.EvT tt (((wipe σ vs).set j (some x)).set k (some y)) H1 (keep i))
    (he : ∀ i x y, xs[i]? = some x → ys[i]? = some y → keep i = true → Evl.Ev te (((wipe σ vs).set j (some x)).set k (some y)) H1 (f i))
    (hd : ∀ H', Evl.Ex H1 H' → H' Dl = some (.lst (kept n keep f)) → Q (.ref Dl) H') : LcG (Itz K a b) (gTup K 2 (gCons (gName j) (gCons (gName k) gNil))) tt te vs σ Dl H1 Q := by
  have gx : ∀ i, i < n → xs[i]? = some (xs.getD i .non) := fun i hi => by rw [List.getD_eq_getElem?_getD, List.getElem?_eq_getElem (by omega)]; rfl
  have gy : ∀ i, i < n → ys[i]? = some (ys.getD i .non) := fun i hi => by rw [List.getD_eq_getElem?_getD, List.getElem?_eq_getElem (by omega)]; rfl
  refine lc_pure n (fun i => ((wipe σ vs).set j (some (xs.getD i .non))).set k (some (ys.getD i .non))) keep f hD hn (fun H' e => ⟨xs, ys, Evl.ex_l e hx, Evl.ex_l e hy, by omega⟩)
    (fun i H' hi e => ⟨xs, ys, _, _, Evl.ex_l e hx, Evl.ex_l e hy, gx i hi, gy i hi⟩)
    (fun i H' x H'' QG hi e y q => ?_) (fun i hi => hw _ _) (fun i hi => ht i _ _ (gx i hi) (gy i hi)) (fun i hi => he i _ _ (gx i hi) (gy i hi)) hd
  obtain ⟨T, u, v, rfl, hT, rfl, hf, hf2⟩ := y
  have hu := hf xs (Evl.ex_l e hx)
  have hv := hf2 ys (Evl.ex_l e hy)
  have e1 : xs.getD i .non = u := by rw [List.getD_eq_getElem?_getD, hu]; rfl
  have e2 : ys.getD i .non = v := by rw [List.getD_eq_getElem?_getD, hv]; rfl
  refine g_two upd_same ?_
  have q2 := q (Evl.Ex.new hT)
  rw [e1, e2] at q2
  exact q2
end BC

set_option Elab.async false
set_option linter.all false
set_option maxRecDepth 100000
set_option maxHeartbeats 4000000
/-! walks on a site, by number and one by one -/
namespace BC
section
open PySem PySem.Spec PyProof.Rows L2 Evl
/-- xs[i] of xs[i] += e -/
def rGetL (K : PySem.W.Frag) : V → V → Hp → VK → Prop := fun x y H Q => ∃ p xs, ∃ i : Nat, ∃ v, x = .ref p ∧ y = .int i ∧ SqL K H p xs ∧ xs[i]? = some v ∧ Q v H
theorem k_get {X : Cx} {K : PySem.W.Frag} (hK : X.K = K) : PGet X (rGetL K) := by
  subst hK
  intro pins s σ H o i ov iv Q I ro ri h
  obtain ⟨p, xs, j, v, rfl, rfl, hq, hv, q⟩ := h
  cases ro
  obtain ⟨t, rfl⟩ := ri
  obtain ⟨its, r, pl, hz⟩ := I.list hq
  obtain ⟨u, eu, ru⟩ := r.get hv
  have hl := r.length
  have hn := line63
  have hj := (List.getElem?_eq_some_iff.mp hv).1
  refine wpAny_getItem_list (x := u) pl.isList (by omega) (by omega) (by simpa using eu) ⟨v, H, I, ru, q⟩
theorem getL {K : PySem.W.Frag} {H : Hp} {Q : VK} {p : Addr} {xs : List V} {k : Int} {i : Nat} {v : V} (h : SqL K H p xs) (e : k = (i : Int)) (hv : xs[i]? = some v) (q : Q v H) : rGetL K (.ref p) (.int k) H Q := by subst e; exact ⟨p, xs, i, v, rfl, rfl, h, hv, q⟩
theorem x_augS {to ti te : TE} {tget : V → V → Hp → VK → Prop} {tip : TIp} {tset : TSet} {D : Ends} {σ : L2.St} {H : Hp} : tAugS to ti te tget tip tset D σ H = to σ H fun o H1 => ti σ H1 fun i H2 => tget o i H2 fun x H3 => te σ H3 fun y H4 => tip x y H4 fun z H5 => tset o i z H5 fun H6 => D.nx σ H6 := rfl
end
/-- the walks of t steps from v -/
def wf (G : Grid) : Nat → Nat → List (List Nat)
  | 0, v => [[v]]
  | t + 1, v => ((row G v).map fun u => (wf G t u).map (v :: ·)).flatten
def lst (r : List Nat) : Nat := r.getLast?.getD 0
def grow (G : Grid) (r : List Nat) : List (List Nat) := (row G (lst r)).map fun u => r ++ [u]
theorem wf_ne {G : Grid} : ∀ (t v : Nat), ∀ r ∈ wf G t v, r ≠ []
  | 0, v, r, h => by
    obtain rfl : r = [v] := by simpa [wf] using h
    simp
  | t + 1, v, r, h => by
    unfold wf at h
    obtain ⟨a, ha, hr⟩ := List.mem_flatten.mp h
    obtain ⟨u, _, rfl⟩ := List.mem_map.mp ha
    obtain ⟨q, _, rfl⟩ := List.mem_map.mp hr
    simp
theorem grow_cons (G : Grid) (v : Nat) {r : List Nat} (h : r ≠ []) : grow G (v :: r) = (grow G r).map (v :: ·) := by
  unfold grow lst
  rw [List.map_map, List.getLast?_cons_of_ne_nil h]
  rfl
theorem sum_zeros {α : Type} : ∀ l : List α, (l.map fun _ => 0).sum = 0
  | [] => rfl
  | x :: l => by rw [List.map_cons, List.sum_cons, sum_zeros l]
theorem map_flatten' {α β : Type} (f : α → β) : ∀ l : List (List α), l.flatten.map f = (l.map (·.map f)).flatten
  | [] => rfl
  | a :: l => by rw [List.flatten_cons, List.map_append, map_flatten' f l]; rfl
theorem flatten_flatten' {α : Type} : ∀ l : List (List (List α)), l.flatten.flatten = (l.map (·.flatten)).flatten
  | [] => rfl
  | a :: l => by rw [List.flatten_cons, List.flatten_append, flatten_flatten' l]; rfl
theorem wf_snoc (G : Grid) : ∀ (t v : Nat), wf G (t + 1) v = ((wf G t v).map (grow G)).flatten
  | 0, v => by
    show ((row G v).map fun u => [[v, u]]).flatten = (grow G [v]) ++ []
    rw [List.append_nil]
    show ((row G v).map fun u => [[v, u]]).flatten = (row G v).map fun u => [v, u]
    generalize row G v = l
    induction l with
    | nil => rfl
    | cons x l ih =>
      rw [List.map_cons, List.flatten_cons, ih]
      rfl
  | t + 1, v => by
    have ih := fun u => wf_snoc G t u
    show ((row G v).map fun u => (wf G (t + 1) u).map (v :: ·)).flatten = ((((row G v).map fun u => (wf G t u).map (v :: ·)).flatten).map (grow G)).flatten
    rw [map_flatten', flatten_flatten', List.map_map, List.map_map]
    congr 1
    apply List.map_congr_left
    intro u _
    show (wf G (t + 1) u).map (v :: ·) = ((wf G t u |>.map (v :: ·)).map (grow G)).flatten
    rw [ih u, map_flatten', List.map_map, List.map_map]
    congr 1
    apply List.map_congr_left
    intro r hr
    show (grow G r).map (v :: ·) = grow G (v :: r)
    rw [grow_cons G v (wf_ne t u r hr)]
/-- the number of walks of t steps from v to the page that keep out -/
def fw (G : Grid) (out : List Nat) (p : Nat) : Nat → Nat → Nat
  | 0, v => if v = p ∧ v ∉ out then 1 else 0
  | t + 1, v => if v ∉ out then ((row G v).map fun u => fw G out p t u).sum else 0
/-- a walk to the page that keeps out -/
def good (out : List Nat) (p : Nat) (r : List Nat) : Bool := decide (lst r = p) && decide (r.filter (fun x => decide (x ∈ out)) = [])
theorem good_cons {out : List Nat} {p v : Nat} {r : List Nat} (h : r ≠ []) : good out p (v :: r) = (decide (v ∉ out) && good out p r) := by
  unfold good lst
  rw [List.getLast?_cons_of_ne_nil h]
  by_cases c : v ∈ out
  · simp [c]
  · simp [c]
theorem len_flat {α : Type} (P : α → Bool) : ∀ l : List (List α), (l.flatten.filter P).length = (l.map fun a => (a.filter P).length).sum
  | [] => rfl
  | a :: l => by rw [List.flatten_cons, List.filter_append, List.length_append, len_flat P l]; rfl
theorem fw_count (G : Grid) (out : List Nat) (p : Nat) : ∀ (t v : Nat), ((wf G t v).filter (good out p)).length = fw G out p t v
  | 0, v => by
    show ([[v]].filter (good out p)).length = if v = p ∧ v ∉ out then 1 else 0
    have e : good out p [v] = (decide (v = p) && decide (v ∉ out)) := by
      show (decide (v = p) && decide ([v].filter (fun x => decide (x ∈ out)) = [])) = _
      congr 1
      by_cases c : v ∈ out <;> simp [c]
    by_cases a : v = p <;> by_cases c : v ∈ out <;> simp [e, a, c]
    all_goals (subst a; simp_all)
  | t + 1, v => by
    show ((((row G v).map fun u => (wf G t u).map (v :: ·)).flatten).filter (good out p)).length = if v ∉ out then ((row G v).map fun u => fw G out p t u).sum else 0
    rw [len_flat, List.map_map]
    have key : ∀ u, (((wf G t u).map (v :: ·)).filter (good out p)).length = if v ∉ out then fw G out p t u else 0 := fun u => by
      rw [List.filter_map, List.length_map]
      have e : (wf G t u).filter (good out p ∘ fun x => v :: x) = (wf G t u).filter fun r => decide (v ∉ out) && good out p r := by
        apply List.filter_congr
        intro r hr
        show good out p (v :: r) = _
        rw [good_cons (wf_ne t u r hr)]
      rw [e]
      by_cases c : v ∈ out
      · simp [c]
      · rw [if_pos c]
        simp only [c, not_false_eq_true, decide_true, Bool.true_and]
        exact fw_count G out p t u
    by_cases c : v ∈ out
    · rw [if_neg (by simpa using c)]
      have : (row G v).map ((fun a => (List.filter (good out p) a).length) ∘ fun u => (wf G t u).map (v :: ·)) = (row G v).map fun _ => 0 := List.map_congr_left fun u _ => by
        show (((wf G t u).map (v :: ·)).filter (good out p)).length = 0
        rw [key u, if_neg (by simpa using c)]
      rw [this, sum_zeros]
    · rw [if_pos c]
      congr 1
      apply List.map_congr_left
      intro u _
      show (((wf G t u).map (v :: ·)).filter (good out p)).length = _
      rw [key u, if_pos c]
theorem wf_lt {G : Grid} (h : SiteOk G) : ∀ (t v : Nat), v < G.length → ∀ r ∈ wf G t v, (∀ x ∈ r, x < G.length) ∧ r.length = t + 1
  | 0, v, hv, r, hr => by
    obtain rfl : r = [v] := by simpa [wf] using hr
    exact ⟨fun x hx => by rw [List.mem_singleton.mp hx]; exact hv, rfl⟩
  | t + 1, v, hv, r, hr => by
    unfold wf at hr
    obtain ⟨a, ha, hr⟩ := List.mem_flatten.mp hr
    obtain ⟨u, hu, rfl⟩ := List.mem_map.mp ha
    obtain ⟨q, hq, rfl⟩ := List.mem_map.mp hr
    obtain ⟨h1, h2⟩ := wf_lt h t u (h.rlt hu) q hq
    refine ⟨fun x hx => ?_, by rw [List.length_cons, h2]⟩
    rcases List.mem_cons.mp hx with rfl | hx
    · exact hv
    · exact h1 x hx
theorem sum_le {f : Nat → Nat} {b : Nat} : ∀ {l : List Nat}, (∀ x ∈ l, f x ≤ b) → (l.map f).sum ≤ l.length * b
  | [], _ => by simp
  | x :: l, h => by
    have a := h x List.mem_cons_self
    have b := sum_le (l := l) fun y hy => h y (List.mem_cons_of_mem _ hy)
    rw [List.map_cons, List.sum_cons, List.length_cons, Nat.succ_mul]
    omega
theorem fw_le {G : Grid} (h : SiteOk G) (out : List Nat) (p : Nat) : ∀ t v, fw G out p t v ≤ 12 ^ t
  | 0, v => by
    unfold fw
    split <;> simp
  | t + 1, v => by
    unfold fw
    split
    · have a := sum_le (f := fun u => fw G out p t u) (b := 12 ^ t) (l := row G v) fun u _ => fw_le h out p t u
      have b := Nat.mul_le_mul_right (12 ^ t) (h.rlen v)
      rw [Nat.pow_succ, Nat.mul_comm]
      omega
    · exact Nat.zero_le _
theorem wf_len {G : Grid} (h : SiteOk G) : ∀ (t v : Nat), (wf G t v).length ≤ G.length ^ t
  | 0, v => by simp [wf]
  | t + 1, v => by
    show (((row G v).map fun u => (wf G t u).map (v :: ·)).flatten).length ≤ _
    have e : (((row G v).map fun u => (wf G t u).map (v :: ·)).flatten).length = ((row G v).map fun u => (wf G t u).length).sum := by
      rw [List.length_flatten, List.map_map]
      congr 1
      apply List.map_congr_left
      intro u _
      show ((wf G t u).map _).length = _
      rw [List.length_map]
    rw [e]
    have a := sum_le (f := fun u => (wf G t u).length) (b := G.length ^ t) (l := row G v) fun u _ => wf_len h t u
    have rl : (row G v).length ≤ G.length := by
      by_cases q : v < G.length
      · exact nodup_lt _ (asc_nodup (h.asc v _ (at_row q))) (h.lt v _ (at_row q))
      · unfold row
        rw [List.getD_eq_getElem?_getD, List.getElem?_eq_none (by omega)]
        exact Nat.zero_le _
    have b := Nat.mul_le_mul_right (G.length ^ t) rl
    rw [Nat.pow_succ, Nat.mul_comm]
    omega
theorem flat_le {α β : Type} {f : α → List β} {b : Nat} : ∀ {l : List α}, (∀ x ∈ l, (f x).length ≤ b) → (l.map f).flatten.length ≤ l.length * b
  | [], _ => by simp
  | x :: l, h => by
    have a := h x List.mem_cons_self
    have c := flat_le (l := l) fun y hy => h y (List.mem_cons_of_mem _ hy)
    rw [List.map_cons, List.flatten_cons, List.length_append, List.length_cons, Nat.succ_mul]
    omega
/-! ### products of lists of numbers -/
def cnv (a b : List Nat) (k : Nat) : Nat := ((List.range (k + 1)).map fun i => a.getD i 0 * b.getD (k - i) 0).sum
def conv (a b : List Nat) (n : Nat) : List Nat := (List.range (n + 1)).map fun k => cnv a b k
theorem conv_len (a b : List Nat) (n : Nat) : (conv a b n).length = n + 1 := by unfold conv; rw [List.length_map, List.length_range]
theorem conv_at {a b : List Nat} {n k : Nat} (h : k ≤ n) : (conv a b n)[k]? = some (cnv a b k) := by
  unfold conv
  rw [List.getElem?_map, List.getElem?_range (by omega)]
  rfl
/-- what is added up while the first i of a are done, and j of b at the next one -/
def part (a b : List Nat) (i j k : Nat) : Nat := ((List.range (k + 1)).map fun u => if u < i ∨ (u = i ∧ k - u < j) then a.getD u 0 * b.getD (k - u) 0 else 0).sum
theorem part_zero (a b : List Nat) (k : Nat) : part a b 0 0 k = 0 := by
  unfold part
  have : (List.range (k + 1)).map (fun u => if u < 0 ∨ (u = 0 ∧ k - u < 0) then a.getD u 0 * b.getD (k - u) 0 else 0) = (List.range (k + 1)).map fun _ => 0 := List.map_congr_left fun u _ => by rw [if_neg (by omega)]
  rw [this, sum_zeros]
theorem sum_one (n i : Nat) (f g : Nat → Nat) (c : Nat) (hi : i < n) (h1 : ∀ u, u < n → u ≠ i → g u = f u) (h2 : g i = f i + c) : ((List.range n).map g).sum = ((List.range n).map f).sum + c := by
  induction n with
  | zero => omega
  | succ n ih =>
    rw [List.range_succ, List.map_append, List.map_append, List.sum_append, List.sum_append]
    simp only [List.map_cons, List.map_nil, List.sum_cons, List.sum_nil]
    by_cases e : i = n
    · subst e
      have : (List.range i).map g = (List.range i).map f := List.map_congr_left fun u hu => h1 u (by rw [List.mem_range] at hu; omega) (by rw [List.mem_range] at hu; omega)
      rw [this, h2]
      omega
    · rw [ih (by omega) (fun u hu ne => h1 u (by omega) ne), h1 n (by omega) (Ne.symm e)]
      omega
theorem part_step {a b : List Nat} {i j k : Nat} : part a b i (j + 1) k = part a b i j k + if k = i + j then a.getD i 0 * b.getD j 0 else 0 := by
  unfold part
  by_cases c : k = i + j
  · rw [if_pos c]
    refine sum_one (k + 1) i _ _ _ (by omega) (fun u hu ne => ?_) ?_
    · have : (u < i ∨ (u = i ∧ k - u < j + 1)) ↔ (u < i ∨ (u = i ∧ k - u < j)) := by omega
      simp only [this]
    · have e : k - i = j := by omega
      rw [if_pos (by omega), if_neg (by omega), e, Nat.zero_add]
  · rw [if_neg c, Nat.add_zero]
    congr 1
    apply List.map_congr_left
    intro u hu
    rw [List.mem_range] at hu
    have : (u < i ∨ (u = i ∧ k - u < j + 1)) ↔ (u < i ∨ (u = i ∧ k - u < j)) := by omega
    simp only [this]
theorem part_next {a b : List Nat} {i j k : Nat} (h : k < i + j ∨ b.length ≤ j ∨ a.getD i 0 = 0) : part a b i j k = part a b (i + 1) 0 k := by
  unfold part
  congr 1
  apply List.map_congr_left
  intro u hu
  rw [List.mem_range] at hu
  by_cases c1 : u < i
  · rw [if_pos (.inl c1), if_pos (by omega)]
  · by_cases c2 : u = i
    · subst c2
      rw [if_pos (show u < u + 1 ∨ _ by omega)]
      by_cases c3 : k - u < j
      · rw [if_pos (by omega)]
      · rw [if_neg (by omega)]
        rcases h with h | h | h
        · omega
        · rw [show b.getD (k - u) 0 = 0 by rw [List.getD_eq_getElem?_getD, List.getElem?_eq_none (by omega)]; rfl, Nat.mul_zero]
        · rw [h, Nat.zero_mul]
    · rw [if_neg (by omega), if_neg (by omega)]
theorem part_full {a b : List Nat} {i k : Nat} (h : k < i ∨ a.length ≤ i) : part a b i 0 k = cnv a b k := by
  unfold part cnv
  congr 1
  apply List.map_congr_left
  intro u hu
  rw [List.mem_range] at hu
  by_cases c : u < i
  · rw [if_pos (.inl c)]
  · rw [if_neg (by omega)]
    rw [show a.getD u 0 = 0 by rw [List.getD_eq_getElem?_getD, List.getElem?_eq_none (by omega)]; rfl, Nat.zero_mul]
theorem part_le {a b : List Nat} {i j k B C : Nat} (ha : ∀ x ∈ a, x ≤ B) (hb : ∀ x ∈ b, x ≤ C) : part a b i j k ≤ (k + 1) * (B * C) := by
  unfold part
  have ga : ∀ u, a.getD u 0 ≤ B := fun u => by
    by_cases q : u < a.length
    · rw [List.getD_eq_getElem?_getD, List.getElem?_eq_getElem q]
      exact ha _ (List.getElem_mem q)
    · rw [List.getD_eq_getElem?_getD, List.getElem?_eq_none (by omega)]
      exact Nat.zero_le _
  have gb : ∀ u, b.getD u 0 ≤ C := fun u => by
    by_cases q : u < b.length
    · rw [List.getD_eq_getElem?_getD, List.getElem?_eq_getElem q]
      exact hb _ (List.getElem_mem q)
    · rw [List.getD_eq_getElem?_getD, List.getElem?_eq_none (by omega)]
      exact Nat.zero_le _
  have := sum_le (f := fun u => if u < i ∨ (u = i ∧ k - u < j) then a.getD u 0 * b.getD (k - u) 0 else 0) (b := B * C) (l := List.range (k + 1)) fun u _ => by
    split
    · exact Nat.mul_le_mul (ga u) (gb _)
    · exact Nat.zero_le _
  rw [List.length_range] at this
  exact this
/-- the list of the sums -/
def parts (a b : List Nat) (n i j : Nat) : List Nat := (List.range (n + 1)).map fun k => part a b i j k
theorem parts_len (a b : List Nat) (n i j : Nat) : (parts a b n i j).length = n + 1 := by unfold parts; rw [List.length_map, List.length_range]
theorem parts_at {a b : List Nat} {n i j k : Nat} (h : k ≤ n) : (parts a b n i j)[k]? = some (part a b i j k) := by
  unfold parts
  rw [List.getElem?_map, List.getElem?_range (by omega)]
  rfl
theorem parts_zero (a b : List Nat) (n : Nat) : parts a b n 0 0 = List.replicate (n + 1) 0 := by
  apply List.ext_getElem?
  intro k
  by_cases h : k < n + 1
  · rw [parts_at (by omega), part_zero, List.getElem?_replicate, if_pos h]
  · rw [List.getElem?_eq_none (by rw [parts_len]; omega), List.getElem?_eq_none (by rw [List.length_replicate]; omega)]
theorem parts_step {a b : List Nat} {n i j : Nat} (h : i + j ≤ n) : (parts a b n i j).set (i + j) (part a b i j (i + j) + a.getD i 0 * b.getD j 0) = parts a b n i (j + 1) := by
  apply List.ext_getElem?
  intro k
  by_cases hk : k < n + 1
  · rw [parts_at (by omega), part_step, List.getElem?_set]
    by_cases e : i + j = k
    · subst e
      rw [if_pos rfl, if_pos (by rw [parts_len]; omega), if_pos rfl]
    · rw [if_neg e, parts_at (by omega), if_neg (Ne.symm e), Nat.add_zero]
  · rw [List.getElem?_eq_none (by rw [List.length_set, parts_len]; omega), List.getElem?_eq_none (by rw [parts_len]; omega)]
theorem parts_over {a b : List Nat} {n i j : Nat} (h : n < i + j) : parts a b n i (j + 1) = parts a b n i j := by
  unfold parts
  apply List.map_congr_left
  intro k hk
  rw [List.mem_range] at hk
  rw [part_step, if_neg (by omega), Nat.add_zero]
theorem parts_next {a b : List Nat} {n i j : Nat} (h : n < i + j ∨ b.length ≤ j ∨ a.getD i 0 = 0) : parts a b n i j = parts a b n (i + 1) 0 := by
  unfold parts
  apply List.map_congr_left
  intro k hk
  rw [List.mem_range] at hk
  exact part_next (by omega)
theorem parts_full {a b : List Nat} {n i : Nat} (h : n < i ∨ a.length ≤ i) : parts a b n i 0 = conv a b n := by
  unfold parts conv
  apply List.map_congr_left
  intro k hk
  rw [List.mem_range] at hk
  exact part_full (by omega)
section
open PySem PySem.Spec PyProof.Rows L2 Evl
theorem lc_enumE {K : PySem.W.Frag} {σ : L2.St} {H1 : Hp} {g : TG} {te : TE} {vs : List Nat} {Dl : Addr} {Q : VK} {a : Addr} {xs : List V} (Pv : Nat → Hp → Prop) (h0 : Pv 0 (upd H1 Dl (.lst []))) (hl : ∀ i H, i ≤ xs.length → Pv i H → SqL K H a xs)
    (hs : ∀ i x H T, xs[i]? = some x → Pv i H → H T = none → g (.ref T) (wipe σ vs) (upd H T (.tup [.int (i : Nat), x])) fun σ2 H2 => wipe σ2 vs = wipe σ vs ∧ te σ2 H2 fun y H4 => ∃ acc, H4 Dl = some (.lst acc) ∧ acc.length < sizeLine ∧ Pv (i + 1) (upd H4 Dl (.lst (acc ++ [y]))))
    (hd : ∀ H, Pv xs.length H → Q (.ref Dl) H) : LcG (Ite K a) g tYes te vs σ Dl H1 Q := by
  refine lc_g xs.length Pv h0 (fun H h => ⟨xs, hl _ H (Nat.le_refl _) h, Nat.le_refl _⟩) (fun i H hi h => ⟨xs, xs[i], hl i H (by omega) h, List.getElem?_eq_getElem hi⟩) (fun i H x H' hi h y => ?_) hd
  obtain ⟨T, v, rfl, hT, rfl, hf⟩ := y
  exact hs i v H T (hf xs (hl i _ (by omega) h)) h hT
/-- a row of a new grid changed -/
theorem GridN.chg {H H1 : Hp} {s : Addr} {G : Grid} (h : GridN H H1 s G) {j : Nat} (hj : j < G.length) : ∃ p xs, H1 s = some (.lst xs) ∧ xs.length = G.length ∧ xs[j]? = some (.ref p) ∧ H1 p = some (.lst ((nz (row G j)).map V.int)) ∧ H p = none ∧
    ∀ r : List Nat, GridN H (upd H1 p (.lst ((nz r).map V.int))) s (G.set j r) := by
  obtain ⟨h0, ps, h1, h2, h4, h5, h3⟩ := h
  have hx : ps[j]? = some ps[j] := List.getElem?_eq_getElem (by omega)
  have hp := h3 j _ hx
  refine ⟨ps[j], _, h1, by rw [List.length_map]; exact h2, by rw [List.getElem?_map, hx]; rfl, hp.2, hp.1, fun r => ?_⟩
  have ns : s ≠ ps[j] := fun e => h5 (by rw [e]; exact List.getElem_mem _)
  refine ⟨h0, ps, by rw [upd_ne ns]; exact h1, by rw [List.length_set]; exact h2, h4, h5, fun i q e => ⟨(h3 i q e).1, ?_⟩⟩
  by_cases c : i = j
  · subst c
    rw [hx] at e
    obtain rfl := Option.some.inj e
    rw [upd_same]
    unfold row
    rw [List.getD_eq_getElem?_getD, List.getElem?_set, if_pos rfl, if_pos hj]
    rfl
  · have nq : q ≠ ps[j] := fun z => by
      subst z
      exact c (nd_at h4 e hx)
    rw [upd_ne nq, (h3 i q e).2]
    unfold row
    rw [List.getD_eq_getElem?_getD, List.getD_eq_getElem?_getD, List.getElem?_set, if_neg (Ne.symm c)]
/-! ### what the functions of loops.py give -/
def cl (G : Grid) (out : List Nat) (p n : Nat) : List Nat := (List.range (n + 1)).map fun t => fw G out p t p
def stg (G : Grid) (out : List Nat) (p k j : Nat) : Grid := (List.range G.length).map fun v => (List.range (if v < j then k + 2 else k + 1)).map fun t => fw G out p t v
theorem stg_len (G : Grid) (out : List Nat) (p k j : Nat) : (stg G out p k j).length = G.length := by unfold stg; rw [List.length_map, List.length_range]
theorem stg_row {G : Grid} {out : List Nat} {p k j v : Nat} (h : v < G.length) : row (stg G out p k j) v = (List.range (if v < j then k + 2 else k + 1)).map fun t => fw G out p t v := by
  unfold row stg
  rw [List.getD_eq_getElem?_getD, List.getElem?_map, List.getElem?_range h]
  rfl
theorem stg_set {G : Grid} {out : List Nat} {p k j : Nat} (h : j < G.length) : (stg G out p k j).set j (row (stg G out p k j) j ++ [fw G out p (k + 1) j]) = stg G out p k (j + 1) := by
  apply List.ext_getElem?
  intro v
  by_cases hv : v < G.length
  · rw [List.getElem?_set, stg_row h, if_neg (Nat.lt_irrefl j)]
    have rhs : (stg G out p k (j + 1))[v]? = some (row (stg G out p k (j + 1)) v) := at_row (by rw [stg_len]; exact hv)
    rw [rhs, stg_row hv]
    by_cases e : j = v
    · subst e
      rw [if_pos rfl, if_pos (by rw [stg_len]; exact hv), if_pos (Nat.lt_succ_self j), List.range_succ (n := k + 1), List.map_append]
      rfl
    · rw [if_neg e, at_row (by rw [stg_len]; exact hv), stg_row hv]
      by_cases c : v < j
      · rw [if_pos c, if_pos (by omega)]
      · rw [if_neg c, if_neg (by omega)]
  · rw [List.getElem?_eq_none (by rw [List.length_set, stg_len]; omega), List.getElem?_eq_none (by rw [stg_len]; omega)]
theorem stg_next (G : Grid) (out : List Nat) (p k : Nat) : stg G out p k G.length = stg G out p (k + 1) 0 := by
  unfold stg
  apply List.map_congr_left
  intro v hv
  rw [List.mem_range] at hv
  rw [if_pos hv, if_neg (by omega)]
theorem stg_cl {G : Grid} {out : List Nat} {p n : Nat} (h : p < G.length) : row (stg G out p n 0) p = cl G out p n := by
  rw [stg_row h, if_neg (by omega)]
  rfl
def prs (G : Grid) (L : List Nat) (n : Nat) : Grid := (List.range L.length).map fun i => cl G (L.take i) (L.getD i 0) n
theorem prs_len (G : Grid) (L : List Nat) (n : Nat) : (prs G L n).length = L.length := by unfold prs; rw [List.length_map, List.length_range]
theorem prs_row {G : Grid} {L : List Nat} {n i : Nat} (h : i < L.length) : row (prs G L n) i = cl G (L.take i) (L.getD i 0) n := by
  unfold row prs
  rw [List.getD_eq_getElem?_getD, List.getElem?_map, List.getElem?_range h]
  rfl
def fold (n : Nat) (P : Grid) : List Nat := P.foldl (fun f q => conv f q n) (1 :: List.replicate n 0)
theorem fold_len (n : Nat) (P : Grid) : (fold n P).length = n + 1 := by
  unfold fold
  have : ∀ (P : Grid) (f : List Nat), f.length = n + 1 → (P.foldl (fun f q => conv f q n) f).length = n + 1 := fun P => by
    induction P with
    | nil => exact fun f h => h
    | cons q P ih => exact fun f _ => ih _ (conv_len _ _ _)
  exact this P _ (by simp)
theorem fold_snoc {n : Nat} {P : Grid} {i : Nat} {q : List Nat} (h : P[i]? = some q) : fold n (P.take (i + 1)) = conv (fold n (P.take i)) q n := by
  unfold fold
  rw [List.take_add_one, h, List.foldl_append]
  rfl
theorem cl_le {G : Grid} (h : SiteOk G) (out : List Nat) (p n : Nat) : ∀ x ∈ cl G out p n, x ≤ 12 ^ n := fun x hx => by
  unfold cl at hx
  obtain ⟨t, ht, rfl⟩ := List.mem_map.mp hx
  rw [List.mem_range] at ht
  exact Nat.le_trans (fw_le h out p t p) (Nat.pow_le_pow_right (by omega) (by omega))
theorem cl_len (G : Grid) (out : List Nat) (p n : Nat) : (cl G out p n).length = n + 1 := by unfold cl; rw [List.length_map, List.length_range]
theorem cnv_le {a b : List Nat} {k B C : Nat} (ha : ∀ x ∈ a, x ≤ B) (hb : ∀ x ∈ b, x ≤ C) : cnv a b k ≤ (k + 1) * (B * C) := by
  rw [← part_full (a := a) (b := b) (i := k + 1) (k := k) (.inl (by omega))]
  exact part_le ha hb
theorem fold_le {n : Nat} {P : Grid} (hP : ∀ q ∈ P, ∀ x ∈ q, x ≤ 12 ^ n) : ∀ i, ∀ x ∈ fold n (P.take i), x ≤ ((n + 1) * 12 ^ n) ^ i := fun i => by
  induction i with
  | zero =>
    intro x hx
    rw [List.take_zero] at hx
    have : x ∈ 1 :: List.replicate n 0 := hx
    rcases List.mem_cons.mp this with rfl | h
    · simp
    · rw [List.eq_of_mem_replicate h]; exact Nat.zero_le _
  | succ i ih =>
    intro x hx
    by_cases c : i < P.length
    · have e : P[i]? = some P[i] := List.getElem?_eq_getElem c
      rw [fold_snoc e] at hx
      unfold conv at hx
      obtain ⟨k, hk, rfl⟩ := List.mem_map.mp hx
      rw [List.mem_range] at hk
      have a := cnv_le (k := k) ih (hP P[i] (List.getElem_mem c))
      have b : (k + 1) * (((n + 1) * 12 ^ n) ^ i * 12 ^ n) ≤ (n + 1) * (((n + 1) * 12 ^ n) ^ i * 12 ^ n) := Nat.mul_le_mul_right _ (by omega)
      have d : (n + 1) * (((n + 1) * 12 ^ n) ^ i * 12 ^ n) = ((n + 1) * 12 ^ n) ^ (i + 1) := by
        rw [Nat.pow_succ, Nat.mul_left_comm]
      omega
    · rw [List.take_of_length_le (by omega)] at hx
      rw [List.take_of_length_le (by omega)] at ih
      have a := ih x hx
      have b : ((n + 1) * 12 ^ n) ^ i ≤ ((n + 1) * 12 ^ n) ^ (i + 1) := Nat.pow_le_pow_right (Nat.mul_pos (by omega) (Nat.pow_pos (by omega))) (by omega)
      omega
theorem big_fold {n i : Nat} (hn : n ≤ 60) (hi : i ≤ 12) : ((n + 1) * 12 ^ n) ^ i < 2 ^ 4000 := by
  have a : (n + 1) * 12 ^ n ≤ 61 * 12 ^ 60 := Nat.mul_le_mul (by omega) (Nat.pow_le_pow_right (by omega) hn)
  have b : ((n + 1) * 12 ^ n) ^ i ≤ (61 * 12 ^ 60) ^ i := Nat.pow_le_pow_left a i
  have c : (61 * 12 ^ 60) ^ i ≤ (61 * 12 ^ 60) ^ 12 := Nat.pow_le_pow_right (by decide) hi
  have d : (61 * 12 ^ 60) ^ 12 < 2 ^ 4000 := by decide +kernel
  omega
theorem big_cl {n : Nat} (hn : n ≤ 60) : 12 ^ n < 2 ^ 4000 := by
  have a : 12 ^ n ≤ 12 ^ 60 := Nat.pow_le_pow_right (by omega) hn
  have d : 12 ^ 60 < 2 ^ 4000 := by decide +kernel
  omega
/-- a new grid behind a new grid -/
theorem GridN.ext {H H1 H2 : Hp} {s d : Addr} {G F : Grid} (h : GridN H H1 s G) (g : GridN H1 H2 d F) (e : Ex H1 H2) (low : ∀ x, H1 x = none → H x = none) : ∃ xs zs, H2 s = some (.lst xs) ∧ H2 d = some (.lst zs) ∧ xs.length = G.length ∧ zs.length = F.length ∧ GridN H (upd H2 s (.lst (xs ++ zs))) s (G ++ F) := by
  obtain ⟨h0, ps, h1, h2, h4, h5, h3⟩ := h
  obtain ⟨g0, qs, g1, g2, g4, g5, g3⟩ := g
  refine ⟨_, _, e _ _ h1, g1, by rw [List.length_map, h2], by rw [List.length_map, g2], h0, ps ++ qs, by rw [upd_same, List.map_append], by rw [List.length_append, List.length_append, h2, g2], ?_, ?_, fun i p q => ?_⟩
  · rw [List.nodup_append]
    refine ⟨h4, g4, fun a ha b hb z => ?_⟩
    subst z
    obtain ⟨i, hi, ei⟩ := List.getElem_of_mem ha
    obtain ⟨j, hj, ej⟩ := List.getElem_of_mem hb
    have a1 := (h3 i a (List.getElem?_eq_some_iff.mpr ⟨hi, ei⟩)).2
    have a2 := (g3 j a (List.getElem?_eq_some_iff.mpr ⟨hj, ej⟩)).1
    rw [a2] at a1
    cases a1
  · intro m
    rcases List.mem_append.mp m with m | m
    · exact h5 m
    · obtain ⟨j, hj, ej⟩ := List.getElem_of_mem m
      have a2 := (g3 j s (List.getElem?_eq_some_iff.mpr ⟨hj, ej⟩)).1
      rw [a2] at h1
      cases h1
  · by_cases hi : i < ps.length
    · rw [List.getElem?_append_left hi] at q
      have := h3 i p q
      have ns : p ≠ s := fun z => h5 (z ▸ List.mem_of_getElem? q)
      refine ⟨this.1, ?_⟩
      rw [upd_ne ns, e _ _ this.2]
      unfold row
      rw [List.getD_eq_getElem?_getD, List.getD_eq_getElem?_getD, List.getElem?_append_left (by omega)]
    · rw [List.getElem?_append_right (by omega)] at q
      have := g3 _ p q
      have ns : p ≠ s := fun z => by
        have a := this.1
        rw [z, h1] at a
        cases a
      refine ⟨low p this.1, ?_⟩
      rw [upd_ne ns, this.2]
      unfold row
      rw [List.getD_eq_getElem?_getD, List.getD_eq_getElem?_getD, List.getElem?_append_right (by omega), h2]
theorem kept_ones (s : List Nat) (k : Nat → Bool) : kept s.length (fun i => k (s.getD i 0)) (fun _ => V.int 1) = (nz ((s.filter k).map fun _ => 1)).map V.int := by
  unfold kept nz
  have e : (List.range s.length).map (fun i => s.getD i 0) = s := by
    apply List.ext_getElem?
    intro j
    by_cases h : j < s.length
    · rw [List.getElem?_map, List.getElem?_range h, List.getElem?_eq_getElem h]
      show some (s.getD j 0) = _
      rw [List.getD_eq_getElem?_getD, List.getElem?_eq_getElem h]
      rfl
    · rw [List.getElem?_eq_none (by rw [List.length_map, List.length_range]; omega), List.getElem?_eq_none (by omega)]
  conv => rhs; rw [← e]
  rw [List.filter_map, List.map_map, List.map_map, List.map_map]
  rfl
/-- the rows that are kept -/
theorem GridAt.keep {H' : Hp} {D : Addr} {ps : List Addr} {G : Grid} (P : List Nat → Bool) (k : Nat → Bool) (hl : ps.length = G.length) (hr : ∀ i p, ps[i]? = some p → H' p = some (.lst ((nz (row G i)).map V.int))) (hk : ∀ i, i < G.length → k i = P (row G i))
    (hD : H' D = some (.lst (kept G.length k fun i => .ref (ps.getD i 0)))) : GridAt H' D (G.filter P) := by
  have eG : G = (List.range G.length).map (row G) := by
    apply List.ext_getElem?
    intro j
    by_cases h : j < G.length
    · rw [List.getElem?_map, List.getElem?_range h, at_row h]
      rfl
    · rw [List.getElem?_eq_none (by omega), List.getElem?_eq_none (by rw [List.length_map, List.length_range]; omega)]
  have eF : G.filter P = ((List.range G.length).filter k).map (row G) := by
    conv => lhs; rw [eG]
    rw [List.filter_map]
    congr 1
    apply List.filter_congr
    intro i hi
    rw [List.mem_range] at hi
    exact (hk i hi).symm
  refine ⟨((List.range G.length).filter k).map fun i => ps.getD i 0, ?_, ?_, fun i p e => ?_⟩
  · rw [hD]
    unfold kept
    rw [List.map_map]
    rfl
  · rw [eF, List.length_map, List.length_map]
  · rw [List.getElem?_map] at e
    cases q : ((List.range G.length).filter k)[i]? with
    | none => rw [q] at e; cases e
    | some j =>
      rw [q] at e
      have hj : j < G.length := List.mem_range.mp (List.mem_filter.mp (List.mem_of_getElem? q)).1
      have hx : ps[j]? = some ps[j] := List.getElem?_eq_getElem (by omega)
      have ep : ps.getD j 0 = p := Option.some.inj e
      rw [List.getD_eq_getElem?_getD, hx] at ep
      obtain rfl : ps[j] = p := ep
      rw [hr j _ hx]
      have : row (G.filter P) i = row G j := by
        rw [eF]
        unfold row
        rw [List.getD_eq_getElem?_getD, List.getElem?_map, q]
        rfl
      rw [this]
end
end BC

set_option Elab.async false
set_option linter.all false
set_option maxRecDepth 100000
set_option maxHeartbeats 4000000
/-! A generator that sleeps stays as it is while other code runs: what has no way to run cannot have been woken. -/
namespace SL
open PySem PyProof.Rows
open Sem (wp)

/-- no frame of a generator among them -/
def NF (fs : List Frame) : Prop := ∀ f ∈ fs, match f with | .ret .. => True | .gen .. => False
theorem NF.nil : NF [] := fun f h => nomatch h
theorem NF.tail {f : Frame} {fs : List Frame} (h : NF (f :: fs)) : NF fs := fun g hg => h g (List.mem_cons_of_mem _ hg)
theorem NF.app {as bs : List Frame} (h : NF as) (h' : NF bs) : NF (as ++ bs) := fun g hg => (List.mem_append.mp hg).elim (h g) (h' g)
theorem NF.split : ∀ {fs : List Frame}, NF fs → splitAtGen fs = none
  | [], _ => rfl
  | .gen .. :: _, h => (h _ List.mem_cons_self).elim
  | .ret .. :: rest, h => by
    show (splitAtGen rest).map _ = none
    rw [NF.split (NF.tail h)]; rfl
def NG : GenState → Prop
  | .suspended _ _ _ _ fs _ => NF fs
  | _ => True
def NE : End → Prop
  | .ret _ => True
  | .susp _ _ _ _ _ _ fs => NF fs
theorem NE.gen {e : End} (h : NE e) : NG e.genState := by
  cases e with
  | ret r => trivial
  | susp v g l k c p fs => exact h
/-- what cannot run -/
def blankK : Resume → Sem Fin := fun _ => .unsupported ""
theorem norun0 {M : Model} {Γ : Ctx} {p : Pos} {x : String} {t : Sem Fin} {fs : List Frame} {s s' : Shared} {e : End} (h : Runs M Γ p t fs s e s') (ht : t = .unsupported x) : False := by
  induction h with
  | segRet _ _ ih _ => exact ih ht
  | segGen _ _ ih _ => exact ih ht
  | segSuspOut _ _ ih => exact ih ht
  | segSuspGen _ _ _ _ ih _ => exact ih ht
  | _ => nomatch ht
theorem norun {M : Model} {Γ : Ctx} {p : Pos} {r : Resume} {fs : List Frame} {s s' : Shared} {e : End} (h : Runs M Γ p (blankK r) fs s e s') : False := norun0 h rfl
def Poi (a : GenState) : Prop := ∃ l c p fs cl, a = .suspended blankK l c p fs cl
theorem np_of {M : Model} {Γ : Ctx} {p₀ : Pos} {k₀ : Resume → Sem Fin} {r : Resume} {fs₀ : List Frame} {s s' : Shared} {e : End} (hr : Runs M Γ p₀ (k₀ r) fs₀ s e s') : ∀ l c p cl, ¬ Poi (GenState.suspended k₀ l c p fs₀ cl) := fun l c p cl ⟨_, _, _, _, _, z⟩ => by
  injection z with z1
  rw [z1] at hr
  exact norun hr
/-- the one may stand for the other -/
def Rl (a b : GenState) : Prop := NG a ∧ (a = b ∨ (Poi a ∧ a.seen = b.seen ∧ a.bare = b.bare))
theorem Rl.refl {a : GenState} (h : NG a) : Rl a a := ⟨h, .inl rfl⟩
theorem Rl.seen {a b : GenState} (h : Rl a b) : a.seen = b.seen := by
  rcases h.2 with e | ⟨_, e, _⟩
  · rw [e]
  · exact e
theorem Rl.bare {a b : GenState} (h : Rl a b) : a.bare = b.bare := by
  rcases h.2 with e | ⟨_, _, e⟩
  · rw [e]
  · exact e
structure GR (G S : Array GenState) : Prop where
  sz : G.size = S.size
  rl : ∀ (i : Nat) (a b : GenState), G[i]? = some a → S[i]? = some b → Rl a b
/-- what cannot run has stayed -/
def Kp (G S G' S' : Array GenState) : Prop := ∀ (i : Nat) (a : GenState), G[i]? = some a → Poi a → G'[i]? = some a ∧ S'[i]? = S[i]?
theorem Kp.refl {G S : Array GenState} : Kp G S G S := fun _ _ h _ => ⟨h, rfl⟩
theorem Kp.trans {G S G1 S1 G2 S2 : Array GenState} (x : Kp G S G1 S1) (y : Kp G1 S1 G2 S2) : Kp G S G2 S2 := fun i a h p => by
  obtain ⟨h1, e1⟩ := x i a h p
  obtain ⟨h2, e2⟩ := y i a h1 p
  exact ⟨h2, e2.trans e1⟩
section
variable {G S G' S' : Array GenState} {g : Nat} {a : GenState}
theorem GR.get (h : GR G S) (e : G[g]? = some a) : ∃ b, S[g]? = some b ∧ Rl a b := by
  have hg : g < G.size := (Array.getElem?_eq_some_iff.mp e).1
  have hs : g < S.size := by rw [← h.sz]; exact hg
  exact ⟨S[g], Array.getElem?_eq_getElem hs, h.rl g a _ e (Array.getElem?_eq_getElem hs)⟩
theorem GR.same (h : GR G S) (e : G[g]? = some a) (np : ¬ Poi a) : S[g]? = some a := by
  obtain ⟨b, hb, r⟩ := h.get e
  rcases r.2 with z | ⟨z, _⟩
  · rw [z]; exact hb
  · exact (np z).elim
theorem GR.push (h : GR G S) (x : GenState) (hx : NG x) : GR (G.push x) (S.push x) := by
  refine ⟨by rw [Array.size_push, Array.size_push, h.sz], fun i a b ha hb => ?_⟩
  rw [Array.getElem?_push] at ha hb
  rw [← h.sz] at hb
  by_cases z : i = G.size
  · rw [if_pos z] at ha hb; cases ha; cases hb; exact .refl hx
  · rw [if_neg z] at ha hb; exact h.rl i a b ha hb
theorem Kp.push (h : GR G S) (x : GenState) : Kp G S (G.push x) (S.push x) := fun i a e _ => by
  have hi : i < G.size := (Array.getElem?_eq_some_iff.mp e).1
  have hi' : i ≠ S.size := by rw [← h.sz]; exact Nat.ne_of_lt hi
  constructor
  · rw [Array.getElem?_push, if_neg (Nat.ne_of_lt hi)]; exact e
  · rw [Array.getElem?_push, if_neg hi']
theorem GR.set (h : GR G S) (g : Nat) (x : GenState) (hx : NG x) : GR (G.setIfInBounds g x) (S.setIfInBounds g x) := by
  refine ⟨by rw [Array.size_setIfInBounds, Array.size_setIfInBounds, h.sz], fun i a b ha hb => ?_⟩
  rw [Array.getElem?_setIfInBounds] at ha hb
  rw [← h.sz] at hb
  by_cases z : g = i
  · rw [if_pos z] at ha hb
    by_cases y : g < G.size
    · rw [if_pos y] at ha hb; cases ha; cases hb; exact .refl hx
    · rw [if_neg y] at ha; cases ha
  · rw [if_neg z] at ha hb; exact h.rl i a b ha hb
/-- a state that can run is set anew -/
theorem Kp.set (e : G[g]? = some a) (np : ¬ Poi a) (x : GenState) : Kp G S (G.setIfInBounds g x) (S.setIfInBounds g x) := fun i b hb pb => by
  have z : g ≠ i := fun z => by
    subst z
    rw [e] at hb; cases hb; exact np pb
  exact ⟨by rw [Array.getElem?_setIfInBounds_ne z]; exact hb, by rw [Array.getElem?_setIfInBounds_ne z]⟩
/-- .. behind a run -/
theorem Kp.set2 {a1 : GenState} (h : Kp (G.setIfInBounds g a1) (S.setIfInBounds g a1) G' S') (e : G[g]? = some a) (np : ¬ Poi a) (x : GenState) : Kp G S (G'.setIfInBounds g x) (S'.setIfInBounds g x) := fun i b hb pb => by
  have z : g ≠ i := fun z => by
    subst z
    rw [e] at hb; cases hb; exact np pb
  obtain ⟨h1, h2⟩ := h i b (by rw [Array.getElem?_setIfInBounds_ne z]; exact hb) pb
  exact ⟨by rw [Array.getElem?_setIfInBounds_ne z]; exact h1, by rw [Array.getElem?_setIfInBounds_ne z, h2, Array.getElem?_setIfInBounds_ne z]⟩
end
theorem nPoi_fresh {c : Code} : ¬ Poi (.fresh c) := fun ⟨_, _, _, _, _, h⟩ => nomatch h
theorem nPoi_running : ¬ Poi .running := fun ⟨_, _, _, _, _, h⟩ => nomatch h
theorem nPoi_finished : ¬ Poi .finished := fun ⟨_, _, _, _, _, h⟩ => nomatch h
abbrev wg (s : Shared) (S : Array GenState) : Shared := { s with gens := S }
/-- the same run over other generators, those that could not run left as they are -/
theorem runs_sw {M : Model} {Γ : Ctx} {p : Pos} {t : Sem Fin} {fs : List Frame} {s s' : Shared} {e : End} (h : Runs M Γ p t fs s e s') :
    NF fs → ∀ S, GR s.gens S → ∃ S', GR s'.gens S' ∧ NE e ∧ Kp s.gens S s'.gens S' ∧ Runs M Γ p t fs (wg s S) e (wg s' S') := by
  induction h with
  | done => exact fun _ S hS => ⟨S, hS, trivial, .refl, .done⟩
  | raise => exact fun _ S hS => ⟨S, hS, trivial, .refl, .raise⟩
  | again hq _ ih => exact fun _ S hS => let ⟨S', a, b, c, r⟩ := ih .nil S hS; ⟨S', a, b, c, .again hq r⟩
  | rule _ ih => exact fun _ S hS => let ⟨S', a, b, c, r⟩ := ih .nil S hS; ⟨S', a, b, c, .rule r⟩
  | «at» _ ih => exact fun _ S hS => let ⟨S', a, b, c, r⟩ := ih .nil S hS; ⟨S', a, b, c, .at r⟩
  | load ho _ ih => exact fun _ S hS => let ⟨S', a, b, c, r⟩ := ih .nil S hS; ⟨S', a, b, c, .load ho r⟩
  | update ho _ ih => exact fun _ S hS => let ⟨S', a, b, c, r⟩ := ih .nil S hS; ⟨S', a, b, c, .update ho r⟩
  | loadIfAlive _ ih => exact fun _ S hS => let ⟨S', a, b, c, r⟩ := ih .nil S hS; ⟨S', a, b, c, .loadIfAlive r⟩
  | point _ ih => exact fun _ S hS => let ⟨S', a, b, c, r⟩ := ih .nil S hS; ⟨S', a, b, c, .point r⟩
  | alloc _ ih => exact fun _ S hS => let ⟨S', a, b, c, r⟩ := ih .nil S hS; ⟨S', a, b, c, .alloc r⟩
  | fresh _ ih => exact fun _ S hS => let ⟨S', a, b, c, r⟩ := ih .nil S hS; ⟨S', a, b, c, .fresh r⟩
  | ask _ ih => exact fun _ S hS => let ⟨S', a, b, c, r⟩ := ih .nil S hS; ⟨S', a, b, c, .ask r⟩
  | choose hn _ ih => exact fun _ S hS => let ⟨S', a, b, c, r⟩ := ih .nil S hS; ⟨S', a, b, c, .choose hn r⟩
  | os _ ih => exact fun _ S hS => let ⟨S', a, b, c, r⟩ := ih .nil S hS; ⟨S', a, b, c, .os r⟩
  | handled _ ih => exact fun _ S hS => let ⟨S', a, b, c, r⟩ := ih .nil S hS; ⟨S', a, b, c, .handled r⟩
  | genState hg _ ih =>
    intro _ S hS
    obtain ⟨S', a, b, c, r⟩ := ih .nil S hS
    obtain ⟨y, hy, rl⟩ := hS.get hg
    rw [rl.seen] at r
    exact ⟨S', a, b, c, .genState (s := wg _ S) hy r⟩
  | stack _ ih => exact fun _ S hS => let ⟨S', a, b, c, r⟩ := ih .nil S hS; ⟨S', a, b, c, .stack r⟩
  | thread _ ih => exact fun _ S hS => let ⟨S', a, b, c, r⟩ := ih .nil S hS; ⟨S', a, b, c, .thread r⟩
  | newGen _ ih =>
    intro _ S hS
    obtain ⟨S', a, b, kp, r⟩ := ih .nil (S.push (.fresh _)) (hS.push (.fresh _) trivial)
    rw [hS.sz] at r
    exact ⟨S', a, b, Kp.trans (Kp.push hS _) kp, .newGen r⟩
  | call _ _ ih1 ih2 =>
    intro _ S hS
    obtain ⟨S1, a1, _, c1, r1⟩ := ih1 .nil S hS
    obtain ⟨S2, a2, b2, c2, r2⟩ := ih2 .nil S1 a1
    exact ⟨S2, a2, b2, c1.trans c2, .call r1 r2⟩
  | callSusp _ ih =>
    intro _ S hS
    obtain ⟨S', a, b, c, r⟩ := ih .nil S hS
    exact ⟨S', a, NF.app b (fun f hf => by rw [List.mem_singleton.mp hf]; trivial), c, .callSusp r⟩
  | yield => exact fun _ S hS => ⟨S, hS, .nil, .refl, .yield⟩
  | resumeFresh hg _ hq _ ih1 ih2 =>
    intro _ S hS
    have hs := hS.same hg nPoi_fresh
    obtain ⟨S1, a1, b1, c1, r1⟩ := ih1 .nil _ (hS.set _ .running trivial)
    obtain ⟨S2, a2, b2, c2, r2⟩ := ih2 .nil _ (a1.set _ _ b1.gen)
    exact ⟨S2, a2, b2, (Kp.set2 c1 hg nPoi_fresh _).trans c2, .resumeFresh (s := wg _ S) hs r1 hq r2⟩
  | resumeSuspended hg hr hq _ ih1 ih2 =>
    intro _ S hS
    have np := np_of hr
    have hs := hS.same hg (np _ _ _ _)
    obtain ⟨S1, a1, b1, c1, r1⟩ := ih1 (hS.rl _ _ _ hg hs).1 _ (hS.set _ .running trivial)
    obtain ⟨S2, a2, b2, c2, r2⟩ := ih2 .nil _ (a1.set _ _ b1.gen)
    exact ⟨S2, a2, b2, (Kp.set2 c1 hg (np _ _ _ _) _).trans c2, .resumeSuspended (s := wg _ S) hs r1 hq r2⟩
  | resumeJustStarted hg hv _ ih =>
    intro _ S hS
    obtain ⟨S', a, b, c, r⟩ := ih .nil S hS
    exact ⟨S', a, b, c, .resumeJustStarted (s := wg _ S) (hS.same hg nPoi_fresh) hv r⟩
  | resumeThrowFresh hg _ ih =>
    intro _ S hS
    obtain ⟨S', a, b, c, r⟩ := ih .nil _ (hS.set _ .finished trivial)
    exact ⟨S', a, b, (Kp.set hg nPoi_fresh _).trans c, .resumeThrowFresh (s := wg _ S) (hS.same hg nPoi_fresh) r⟩
  | resumeRunning hg _ ih =>
    intro _ S hS
    obtain ⟨S', a, b, c, r⟩ := ih .nil S hS
    exact ⟨S', a, b, c, .resumeRunning (s := wg _ S) (hS.same hg nPoi_running) r⟩
  | resumeFinished hg _ ih =>
    intro _ S hS
    obtain ⟨S', a, b, c, r⟩ := ih .nil S hS
    exact ⟨S', a, b, c, .resumeFinished (s := wg _ S) (hS.same hg nPoi_finished) r⟩
  | segRet _ _ ih1 ih2 =>
    intro hf S hS
    obtain ⟨S1, a1, _, c1, r1⟩ := ih1 .nil S hS
    obtain ⟨S2, a2, b2, c2, r2⟩ := ih2 hf.tail S1 a1
    exact ⟨S2, a2, b2, c1.trans c2, .segRet r1 r2⟩
  | segGen _ _ _ _ => exact fun hf => (hf _ List.mem_cons_self).elim
  | segSuspOut hsp _ ih =>
    intro hf S hS
    obtain ⟨S', a, b, c, r⟩ := ih .nil S hS
    exact ⟨S', a, NF.app b hf, c, .segSuspOut hsp r⟩
  | segSuspGen hsp _ _ _ _ _ => exact fun hf => by rw [hf.split] at hsp; cases hsp

theorem wakes_sw {M : Model} {Γ : Ctx} {p : Pos} {g : Nat} {r : Resume} {s s' : Shared} {res : GenResult} {S : Array GenState} (h : Wakes M Γ p g r s res s') (hS : GR s.gens S) :
    ∃ S', GR s'.gens S' ∧ Kp s.gens S s'.gens S' ∧ Wakes M Γ p g r (wg s S) res (wg s' S') := by
  unfold Wakes at h
  cases hg : s.gens[g]? with
  | none => rw [hg] at h; exact h.elim
  | some st =>
    rw [hg] at h
    cases st with
    | fresh c =>
      have hs := hS.same hg nPoi_fresh
      have key : ∀ {r : Resume}, (∃ e₁ s₁, Runs M (Γ.wake c p) p (M.den c) [] (s.setGen g .running) e₁ s₁ ∧ e₁.quiet = true ∧ res = e₁.result ∧ s' = s₁.setGen g e₁.genState) →
          ∃ S', GR s'.gens S' ∧ Kp s.gens S s'.gens S' ∧ ∃ e₁ s₁, Runs M (Γ.wake c p) p (M.den c) [] ((wg s S).setGen g .running) e₁ s₁ ∧ e₁.quiet = true ∧ res = e₁.result ∧ wg s' S' = s₁.setGen g e₁.genState := fun {r} h => by
        obtain ⟨e₁, s₁, hr, hq, e1, e2⟩ := h
        obtain ⟨S1, a1, b1, c1, r1⟩ := runs_sw hr .nil _ (hS.set g .running trivial)
        refine ⟨S1.setIfInBounds g e₁.genState, ?_, ?_, e₁, wg s₁ S1, r1, hq, e1, ?_⟩
        · rw [e2]; exact a1.set _ _ b1.gen
        · rw [e2]; exact Kp.set2 c1 hg nPoi_fresh _
        · rw [e2]; rfl
      have hw : ∀ S', (∃ e₁ s₁, Runs M (Γ.wake c p) p (M.den c) [] ((wg s S).setGen g .running) e₁ s₁ ∧ e₁.quiet = true ∧ res = e₁.result ∧ wg s' S' = s₁.setGen g e₁.genState) → r = .send .none → Wakes M Γ p g r (wg s S) res (wg s' S') := fun S' h e => by
        unfold Wakes
        rw [show (wg s S).gens[g]? = S[g]? from rfl, hs]
        rw [e]; exact h
      cases r with
      | throw x =>
        obtain ⟨e1, e2⟩ := h
        refine ⟨S.setIfInBounds g .finished, ?_, ?_, ?_⟩
        · rw [e2]; exact hS.set _ _ trivial
        · rw [e2]; exact Kp.set hg nPoi_fresh _
        · unfold Wakes
          rw [show (wg s S).gens[g]? = S[g]? from rfl, hs]
          rw [e2]; exact ⟨e1, rfl⟩
      | send v =>
        by_cases hv : v = .none
        · subst hv
          obtain ⟨S', q1, q2, q3⟩ := key (r := .send .none) h
          exact ⟨S', q1, q2, hw S' q3 rfl⟩
        · have h' : res = .justStarted ∧ s' = s := by
            cases v <;> first | exact h | exact (hv rfl).elim
          refine ⟨S, by rw [h'.2]; exact hS, by rw [h'.2]; exact .refl, ?_⟩
          unfold Wakes
          rw [show (wg s S).gens[g]? = S[g]? from rfl, hs]
          rw [h'.2]
          cases v <;> first | exact ⟨h'.1, rfl⟩ | exact (hv rfl).elim
    | suspended k₀ l₀ c₀ p₀ fs₀ cl =>
      obtain ⟨e₁, s₁, hr, hq, e1, e2⟩ := h
      have np : ¬ Poi (GenState.suspended k₀ l₀ c₀ p₀ fs₀ cl) := fun ⟨_, _, _, _, _, z⟩ => by
        injection z with z1
        rw [z1] at hr
        exact norun hr
      have hs := hS.same hg np
      have nf : NF fs₀ := (hS.rl _ _ _ hg hs).1
      obtain ⟨S1, a1, b1, c1, r1⟩ := runs_sw hr nf _ (hS.set g .running trivial)
      refine ⟨S1.setIfInBounds g e₁.genState, ?_, ?_, ?_⟩
      · rw [e2]; exact a1.set _ _ b1.gen
      · rw [e2]; exact Kp.set2 c1 hg np _
      · unfold Wakes
        rw [show (wg s S).gens[g]? = S[g]? from rfl, hs]
        exact ⟨e₁, wg s₁ S1, r1, hq, e1, by rw [e2]; rfl⟩
    | running =>
      refine ⟨S, by rw [h.2]; exact hS, by rw [h.2]; exact .refl, ?_⟩
      unfold Wakes
      rw [show (wg s S).gens[g]? = S[g]? from rfl, hS.same hg nPoi_running, h.2]; exact ⟨h.1, rfl⟩
    | finished =>
      refine ⟨S, by rw [h.2]; exact hS, by rw [h.2]; exact .refl, ?_⟩
      unfold Wakes
      rw [show (wg s S).gens[g]? = S[g]? from rfl, hS.same hg nPoi_finished, h.2]; exact ⟨h.1, rfl⟩

theorem wpm {X : Type} {M : Model} {Γ : Ctx} {t : Sem X} {post post' : X → Pos → Shared → Prop} {exc exc' : Value → Pos → Shared → Prop} {p : Pos} {s : Shared} (h1 : ∀ x p' s', post x p' s' → post' x p' s') (h2 : ∀ v p' s', exc v p' s' → exc' v p' s') (h : wp M Γ t post exc p s) : wp M Γ t post' exc' p s :=
  Sem.wp_mono M Γ t h1 h2 p s h
/-- what is wanted behind the run over other generators -/
def Sw {α : Type} (G S : Array GenState) (Q : α → Pos → Shared → Prop) : α → Pos → Shared → Prop := fun a p s1 => ∃ G', GR G' s1.gens ∧ Kp G S G' s1.gens ∧ Q a p (wg s1 G')
theorem Sw.mono {α : Type} {G S G1 S1 : Array GenState} {Q : α → Pos → Shared → Prop} (k : Kp G S G1 S1) {a : α} {p : Pos} {s : Shared} (h : Sw G1 S1 Q a p s) : Sw G S Q a p s := let ⟨G', x, y, z⟩ := h; ⟨G', x, k.trans y, z⟩
theorem wp_sw {α : Type} (M : Model) (Γ : Ctx) (t : Sem α) : ∀ (Q : α → Pos → Shared → Prop) (E : Value → Pos → Shared → Prop) (p : Pos) (s : Shared) (S : Array GenState), GR s.gens S → wp M Γ t Q E p s →
    wp M Γ t (Sw s.gens S Q) (Sw s.gens S E) p (wg s S) := by
  induction t with
  | pure a => intro Q E p s S hS h; exact ⟨s.gens, hS, .refl, h⟩
  | raise e => intro Q E p s S hS h; exact ⟨s.gens, hS, .refl, h⟩
  | unsupported _ => intro Q E p s S _ h; exact h
  | finish _ => intro Q E p s S _ h; exact h
  | rule _ k ih => intro Q E p s S hS h; exact ih () Q E p s S hS h
  | «at» p' k ih => intro Q E p s S hS h; exact ih () Q E p' s S hS h
  | load a _ k ih => intro Q E p s S hS h; obtain ⟨o, ho, h⟩ := h; exact ⟨o, ho, ih o Q E p s S hS h⟩
  | update a _ f k ih => intro Q E p s S hS h; exact ⟨h.1, ih () Q E p { s with heap := s.heap.update a f } S hS h.2⟩
  | loadIfAlive a k ih => intro Q E p s S hS h; exact ih _ Q E p s S hS h
  | point _ k ih => intro Q E p s S hS h; exact ih () Q E p s S hS h
  | register _ _ => intro Q E p s S _ h; exact h
  | alloc o k ih => intro Q E p s S hS h; exact ih _ Q E p { s with heap := s.heap.push o } S hS h
  | fresh k ih => intro Q E p s S hS h; exact ih _ Q E p { s with toks := s.toks + 1 } S hS h
  | ask k ih => intro Q E p s S hS h; exact ih _ Q E p s S hS h
  | choose src m k ih => intro Q E p s S hS h; exact ⟨h.1, ih _ Q E p { s with drawn := s.drawn.bump src } S hS h.2⟩
  | os q _ k ih => intro Q E p s S hS h; exact ih _ Q E p { s with os := (Os.step s.os q).1 } S hS h
  | call c hd _ _ k ih =>
    intro Q E p s S hS h
    obtain ⟨r, s', hr, h⟩ := h
    obtain ⟨S1, a1, _, c1, r1⟩ := runs_sw hr .nil S hS
    exact ⟨r, wg s' S1, r1, wpm (fun _ _ _ x => Sw.mono c1 x) (fun _ _ _ x => Sw.mono c1 x) (ih r Q E p s' S1 a1 h)⟩
  | handled own k ih => intro Q E p s S hS h; exact ih _ Q E p s S hS h
  | genState g k ih =>
    intro Q E p s S hS h
    obtain ⟨st, hs, h⟩ := h
    obtain ⟨y, hy, rl⟩ := hS.get hs
    refine ⟨y, hy, ?_⟩
    rw [← rl.seen]
    exact ih _ Q E p s S hS h
  | newGen c k ih =>
    intro Q E p s S hS h
    have q := ih _ Q E p { s with gens := s.gens.push (.fresh c) } (S.push (.fresh c)) (hS.push _ trivial) h
    show wp M Γ (k S.size) _ _ p _
    rw [← hS.sz]
    exact wpm (fun _ _ _ x => Sw.mono (Kp.push hS _) x) (fun _ _ _ x => Sw.mono (Kp.push hS _) x) q
  | resume g r _ k ih =>
    intro Q E p s S hS h
    obtain ⟨res, s', hw, h⟩ := h
    obtain ⟨S1, a1, c1, w1⟩ := wakes_sw hw hS
    exact ⟨res, wg s' S1, w1, wpm (fun _ _ _ x => Sw.mono c1 x) (fun _ _ _ x => Sw.mono c1 x) (ih res Q E p s' S1 a1 h)⟩
  | yield _ _ _ _ => intro Q E p s S _ h; exact h
  | stack k ih => intro Q E p s S hS h; exact ih _ Q E p s S hS h
  | fork _ _ => intro Q E p s S _ h; exact h
  | thread k ih => intro Q E p s S hS h; exact ih _ Q E p s S hS h
  | await _ _ _ _ _ => intro Q E p s S _ h; exact h

/-! ### all that sleeps is put aside -/
def blankF (f : Frame) : Frame := .ret (fun _ => .unsupported "") none false [] f.where_.1 f.where_.2 []
def blank : GenState → GenState
  | .suspended _ l c p fs cl => .suspended blankK l c p (fs.map blankF) cl
  | x => x
theorem blank_rl (b : GenState) : Rl (blank b) b := by
  cases b with
  | suspended k l c p fs cl =>
    refine ⟨fun f hf => ?_, .inr ⟨⟨_, _, _, _, _, rfl⟩, ?_, rfl⟩⟩
    · obtain ⟨f', _, e⟩ := List.mem_map.mp hf
      subst e; trivial
    · show (GenStatus.suspended, some ((c, p) :: (fs.map blankF).map Frame.where_)) = (GenStatus.suspended, some ((c, p) :: fs.map Frame.where_))
      rw [List.map_map]
      have : (Frame.where_ ∘ blankF) = Frame.where_ := funext fun f => rfl
      rw [this]
  | _ => exact .refl trivial
def Susp : GenState → Prop
  | .suspended .. => True
  | _ => False
theorem blank_poi {b : GenState} (h : Susp b) : Poi (blank b) := by
  cases b with
  | suspended k l c p fs cl => exact ⟨_, _, _, _, _, rfl⟩
  | _ => exact h.elim
theorem blank_gr (G : Array GenState) : GR (G.map blank) G := by
  refine ⟨by simp, fun i a b ha hb => ?_⟩
  rw [Array.getElem?_map, hb] at ha
  cases ha
  exact blank_rl b
theorem allBare_blank {G : Array GenState} (h : AllBare G) : AllBare (G.map blank) := fun y hy => by
  obtain ⟨x, hx, e⟩ := Array.mem_map.mp hy
  subst e
  rw [(blank_rl x).bare]
  exact h x hx
theorem GR.bare {G S : Array GenState} (h : GR G S) (b : AllBare G) : AllBare S := fun y hy => by
  obtain ⟨i, hi, e⟩ := Array.mem_iff_getElem.mp hy
  have hg : i < G.size := by rw [h.sz]; exact hi
  have r := h.rl i _ _ (Array.getElem?_eq_getElem hg) (Array.getElem?_eq_getElem hi)
  rw [← e, ← r.bare]
  exact b _ (Array.getElem_mem hg)
theorem wpAny_sw {α : Type} {M : Model} {A : Around} {t : Sem α} {Q : α → Shared → Prop} {E : Value → Shared → Prop} {s : Shared} {S : Array GenState} (hS : GR s.gens S) (h : wpAny M A t Q E s) :
    wpAny M A t (fun a s1 => ∃ G', GR G' s1.gens ∧ Kp s.gens S G' s1.gens ∧ Q a (wg s1 G')) (fun a s1 => ∃ G', GR G' s1.gens ∧ Kp s.gens S G' s1.gens ∧ E a (wg s1 G')) (wg s S) := fun Γ p hΓ =>
  wpm (fun _ _ _ x => x) (fun _ _ _ x => x) (wp_sw M Γ t _ _ p s S hS (h Γ p hΓ))
/-- other code runs: what sleeps goes on sleeping -/
theorem wpAny_sleep {α : Type} {M : Model} {A : Around} {t : Sem α} {Q : α → Shared → Prop} {E : Value → Shared → Prop} {s : Shared}
    (h : wpAny M A t (fun a s1 => ∀ G1, GR s1.gens G1 → (∀ (i : Nat) (gs : GenState), s.gens[i]? = some gs → Susp gs → G1[i]? = some gs) → Q a (wg s1 G1))
      (fun a s1 => ∀ G1, GR s1.gens G1 → (∀ (i : Nat) (gs : GenState), s.gens[i]? = some gs → Susp gs → G1[i]? = some gs) → E a (wg s1 G1)) (wg s (s.gens.map blank))) : wpAny M A t Q E s := by
  have fin : ∀ {β : Type} {R : β → Shared → Prop} {a : β} {s1 : Shared}, (∃ G', GR G' s1.gens ∧ Kp (s.gens.map blank) s.gens G' s1.gens ∧ ∀ G1, GR G' G1 → (∀ (i : Nat) (gs : GenState), s.gens[i]? = some gs → Susp gs → G1[i]? = some gs) → R a (wg (wg s1 G') G1)) → R a s1 := fun {β R a s1} ⟨G', g1, k1, q⟩ => by
    refine q s1.gens g1 fun i gs e su => ?_
    have e' : (s.gens.map blank)[i]? = some (blank gs) := by rw [Array.getElem?_map, e]; rfl
    rw [(k1 i _ e' (blank_poi su)).2, e]
  exact wpAny_mono (wpAny_sw (s := wg s (s.gens.map blank)) (S := s.gens) (blank_gr s.gens) h) (fun _ _ x => fin x) fun _ _ x => fin x
end SL

set_option Elab.async false
set_option linter.all false
set_option maxRecDepth 100000
set_option maxHeartbeats 4000000
namespace BC
open PySem PySem.Spec PyProof.Rows L2 Evl RZ GenW
/-! ### for, in a generator's body -/
section
variable {prog : Program} {w : World} {A : Around} {R : GenEnd} {Y : Protocol} {n : Nat} {s₀ : Shared} {c : Code} {fs : List Frame} {s : Shared} {env : Env}
  {K : Flow → Sem PySem.Fin} {J : Value → Sem PySem.Fin} {gd : Bool → Bool} {lv : List Value → List Value}
theorem seg_ForG {target iter : Expr} {body : List Stmt} {pos : Pos}
    (h : wpAny (model prog w) (A.over c fs) (eval iter env) (fun x s1 => wpAny (model prog w) (A.over c fs) (pyIter x) (fun it s2 =>
      ∀ p l, Seg (model prog w) A R Y n s₀ (.forLoop target it body [] env) ((model prog w).den (.forLoop target it body [] env))
      (.ret (fun r => ((match r with | .ok f => (.pure f : Sem Flow) | .error e => .raise e).onRaise (cameBack env)).wrap K J gd lv) none (gd false) l c p [] :: fs) s2)
      (fun x s' => Seg (model prog w) A R Y n s₀ c (J x) fs s') s1) (fun x s' => Seg (model prog w) A R Y n s₀ c (J x) fs s') s)
    (hs : ∀ x, foldedSetIterable iter env x = pure x := by intro _; rfl) :
    Seg (model prog w) A R Y n s₀ c ((exec (.For target iter body [] pos) env).wrap K J gd lv) fs s := by
  rw [exec_For]
  refine seg_bind_wrap (wpAny_standAt ?_)
  refine seg_bind_wrap (wpAny_mono h (fun x s1 h1 => ?_) fun _ _ q => q)
  refine seg_bind_wrap (wpAny_of_eq (hs x) ?_)
  refine seg_bind_wrap (wpAny_standAt ?_)
  refine seg_bind_wrap (wpAny_holding (wpAny_mono h1 (fun it s2 h2 => ?_) fun _ _ q => q))
  exact seg_call fun p => h2 p _
abbrev NotedSeg (M : Model) (A : Around) (R : GenEnd) (Y : Protocol) (n : Nat) (s₀ : Shared) (c : Code) (fs : List Frame) (env : Env) (x : Value) (s : Shared) : Prop :=
  Seg M A R Y n s₀ c ((do noteFrame x env; theTreesLotGoes x : Sem Unit).wrap (fun _ => .raise x) .raise id id) fs s
theorem seg_forLoop {target : Expr} {it : Value} {body : List Stmt}
    (h : wpAny (model prog w) (A.over (.forLoop target it body [] env) fs) (pyNext it) (fun r s1 => match r with
      | none => Seg (model prog w) A R Y n s₀ (.forLoop target it body [] env) (.pure (.again (.block [] env))) fs s1
      | some v => wpAny (model prog w) (A.over (.forLoop target it body [] env) fs) (letOwnedTupleGo target it v) (fun _ s2 =>
          wpAny (model prog w) (A.over (.forLoop target it body [] env) fs) (assign target env v) (fun _ s3 =>
            Seg (model prog w) A R Y n s₀ (.forLoop target it body [] env) ((execs body env).wrap (fun f => match f with
              | .next | .cont => .pure (.again (.forLoop target it body [] env))
              | .brk => .pure (.done .next)
              | .ret v => .pure (.done (.ret v))) (fun e => (do noteFrame e env; theTreesLotGoes e : Sem Unit).wrap (fun _ => .raise e) .raise id id) id id) fs s3)
            (NotedSeg (model prog w) A R Y n s₀ (.forLoop target it body [] env) fs env) s2)
          (NotedSeg (model prog w) A R Y n s₀ (.forLoop target it body [] env) fs env) s1)
      (NotedSeg (model prog w) A R Y n s₀ (.forLoop target it body [] env) fs env) s) :
    Seg (model prog w) A R Y n s₀ (.forLoop target it body [] env) ((model prog w).den (.forLoop target it body [] env)) fs s := by
  show Seg _ A R Y n s₀ _ ((forTurn target it body [] env).onRaise (fun x => do noteFrame x env; theTreesLotGoes x)) fs s
  unfold forTurn
  rw [Sem.onRaise_eq_wrap]
  have ej : ∀ x s', NotedSeg (model prog w) A R Y n s₀ (.forLoop target it body [] env) fs env x s' → Seg (model prog w) A R Y n s₀ (.forLoop target it body [] env) ((do noteFrame x env; theTreesLotGoes x : Sem Unit).bind (fun _ => .raise x)) fs s' := fun x s' q => by
    rw [Sem.bind_eq_wrap]; exact q
  refine seg_bind_wrap (wpAny_standAt ?_)
  refine seg_bind_wrap (wpAny_onRaise (wpAny_mono h (fun r s1 h1 => ?_) fun x s' hx => wpAny_standAt ?_))
  · cases r with
    | none => exact h1
    | some v =>
      refine seg_bind_wrap (wpAny_mono h1 (fun _ s2 h2 => ?_) fun x s' hx => ?_)
      · refine seg_bind_wrap (wpAny_mono h2 (fun _ s3 h3 => ?_) fun x s' hx => ?_)
        · rw [Sem.bind_eq_wrap', Sem.wrap_wrap]
          rw [Sem.wrap_congr (execs body env) _ _ (K' := fun f => match f with
            | .next | .cont => .pure (.again (.forLoop target it body [] env))
            | .brk => .pure (.done .next)
            | .ret v => .pure (.done (.ret v))) (H' := (fun e => (do noteFrame e env; theTreesLotGoes e : Sem Unit).wrap (fun _ => .raise e) .raise id id))
            (fun f => by cases f <;> rfl) (fun e => by first | exact Sem.bind_eq_wrap _ _ | (show (do noteFrame e env; theTreesLotGoes e : Sem Unit).bind (fun _ => .raise e) = _; rw [Sem.bind_eq_wrap]))]
          exact h3
        · exact ej x s' hx
      · exact ej x s' hx
  · exact ej x s' hx
theorem seg_blockNil (h : Seg (model prog w) A R Y n s₀ (.block [] env) (.pure (.done .next)) fs s) :
    Seg (model prog w) A R Y n s₀ c (.pure (.again (.block [] env))) fs s := by
  refine seg_again rfl ?_
  show Seg _ A R Y n s₀ _ (do return Fin.done (← (execs [] env).onRaise (fun x => do noteFrame x env; theTreesLotGoes x))) fs s
  exact h
end
section
variable {X : Cx} {tg iter : Expr} {body : List Stmt} {wi : TI} {g : TG} {tb : TGn} {pos : Pos}
/-- W: the invariant by the turn, a measure and what is out; N: what the body is to reach -/
def tGFor (wi : TI) (g : TG) (tb : TGn) : TGn := fun D ys σ H => wi σ H fun J H1 => ∃ W : Nat → Nat → List V → L2.St → Hp → Prop, (∃ m, W 0 m ys σ H1) ∧ ∀ i m ys σ H, W i m ys σ H →
  (J.stop i H ∧ D.nx ys σ H) ∨ (J.go i H ∧ ∃ N : List V → L2.St → Hp → Prop, (∀ ys' σ' H', N ys' σ' H' → ∃ m', m' < m ∧ W (i + 1) m' ys' σ' H') ∧ ∀ x H', J.yld i H x H' → g x σ H' fun σ2 H2 => tb { D with nx := N, ct := N, bk := D.nx } ys σ2 H2)
theorem gs_for (hp : PassesOwn (model X.prog X.w) X.A X.env X.xe) (hc : X.calm = true) (hi : PI X tg iter wi) (hg : PG X tg g) (hb : GSs X body tb)
    (hs : ∀ x, foldedSetIterable iter X.env x = pure x := by intro _; rfl) : GS X (.For tg iter body [] pos) (tGFor wi g tb) := by
  refine ⟨fun A S ip R n ys s₀ c fs K J gd lv s σ H D gc hn k hI ht => ?_⟩
  obtain ⟨acc0, cc0, r0, I0⟩ := hI
  refine seg_ForG ?_ hs
  rw [gc.over]
  refine wpAny_mono (hi.run ((S, lstObj acc0 cc0) :: ip) s σ H _ I0 ht) (fun v s1 h1 => wpAny_mono h1 (fun itv s2 h2 p l => ?_) fun x s' hx => k.exc n s₀ x s' hx) fun x s' hx => k.exc n s₀ x s' hx
  obtain ⟨it, fp, tn, J', H2, e, I2, T, st2, f2, W, ⟨m0, w0⟩, turn⟩ := h2
  subst e
  have gl := fun (kk : Result → Sem PySem.Fin) => gc_loop (k := kk) (c' := .forLoop tg (.ref it) body [] X.env) (l := l) (kp := []) (p := p) gc rfl rfl
  have stat : ∀ {H' : Hp} {acc : Array Value} {cc : Nat}, (∀ b ∈ fp, H' b = none) → ∀ b ∈ fp, FpOk X ((S, lstObj acc cc) :: ip) H' b := fun {H' acc cc} hn b hb => by
    obtain ⟨f0, f1, f2', f3, f4, f5⟩ := f2 b hb
    refine ⟨hn b hb, f1, f2', f3, f4, fun q hq => ?_⟩
    rcases List.mem_append.mp hq with z | z
    · exact f5 q (List.mem_append_left _ z)
    · rcases List.mem_cons.mp z with z | z
      · rw [z]; exact f5 (S, lstObj acc0 cc0) (List.mem_append_right _ List.mem_cons_self)
      · exact f5 q (List.mem_append_right _ (List.mem_cons_of_mem _ z))
  have ee : ∀ (n : Nat) (s₀ : Shared) (x : Value) (s' : Shared), X.xe x s' → NotedSeg (model X.prog X.w) A R (GY X S) n s₀ (.forLoop tg (.ref it) body [] X.env)
      (.ret (fun r => ((match r with | .ok f => (.pure f : Sem Flow) | .error e => .raise e).onRaise (cameBack X.env)).wrap K J gd lv) none (gd false) l c p [] :: fs) X.env x s' := fun n s₀ x s' hx => by
    refine seg_wrap ?_
    rw [(gl _).over]
    refine wpAny_bind (wpAny_mono (hp x s' hx) (fun _ s'' hcb => wpAny_theTreesLotGoes ?_) fun y s'' hcb => ?_)
    · exact seg_leaf (.error x) (seg_cameBack gc k hcb)
    · exact seg_leaf (.error y) (seg_cameBack gc k hcb)
  have unp : ∀ {pl : List (Addr × Obj)} {ys : List V} {σ : L2.St} {H : Hp} {s : Shared}, GI X S (ip ++ pl) ys σ H s → GI X S ip ys σ H s := fun {pl ys σ H s} G => by
    obtain ⟨acc, cc, r, I⟩ := G
    exact ⟨acc, cc, r, Inv.unpinned (pins := (S, lstObj acc cc) :: ip) (pl := pl) I⟩
  have loop : ∀ (m n i : Nat) (ys : List V) (s₀ s : Shared) (σ : L2.St) (H : Hp), n + ys.length = sizeLine → W i m ys σ H → GI X S ip ys σ H s → tn i s.heap → (∀ b ∈ fp, H b = none) →
      Seg (model X.prog X.w) A R (GY X S) n s₀ (.forLoop tg (.ref it) body [] X.env) ((model X.prog X.w).den (.forLoop tg (.ref it) body [] X.env))
        (.ret (fun r => ((match r with | .ok f => (.pure f : Sem Flow) | .error e => .raise e).onRaise (cameBack X.env)).wrap K J gd lv) none (gd false) l c p [] :: fs) s := by
    intro m
    induction m using Nat.strongRecOn with
    | ind m ih =>
      intro n i ys s₀ s σ H hn w hI st fr
      refine seg_forLoop ?_
      rw [(gl _).over]
      obtain ⟨acc, cc, r, I⟩ := hI
      rcases turn i m ys σ H w with ⟨stop, qn⟩ | ⟨go, N, hN, step⟩
      · refine wpAny_mono (T.done X rfl rfl rfl hc i ((S, lstObj acc cc) :: ip) s σ H X.xe I (stat fr) st stop) (fun r' s4 h4 => ?_) fun x s' hx => ee n s₀ x s' hx
        obtain ⟨hr, I4⟩ := h4
        subst hr
        exact seg_blockNil (seg_leaf (.ok .next) (k.ok n ys s₀ s4 .next hn ⟨σ, H, ⟨acc, cc, r, I4⟩, qn⟩))
      · refine wpAny_mono (T.item X rfl rfl rfl hc i ((S, lstObj acc cc) :: ip) s σ H X.xe I (stat fr) st go) (fun r' s4 h4 => ?_) fun x s' hx => ee n s₀ x s' hx
        obtain ⟨u, hr, h4⟩ := h4
        subst hr
        refine wpAny_mono h4 (fun _ s5 h5 => ?_) fun x s' hx => ee n s₀ x s' hx
        obtain ⟨x, H5, I5, r5, y5, st5, fr5⟩ := h5
        have I5' : Inv X ((S, lstObj acc cc) :: (ip ++ pinsAt fp s5.heap)) σ H5 s5 := I5.pinned (stat fr5) (T.obj _ _ st5)
        refine wpAny_mono (hg.run _ s5 σ H5 x u _ I5' r5 (step x H5 y5)) (fun _ s6 h6 => ?_) fun x s' hx => ee n s₀ x s' hx
        obtain ⟨σ6, H6, I6, q6⟩ := h6
        have gi : ∀ q ∈ ip ++ pinsAt fp s5.heap, q.1 ≠ S := fun q hq => by
          rcases List.mem_append.mp hq with z | z
          · exact gc.ip q z
          · exact fun e => (f2 q.1 (of_pinsAt z).1).2.2.2.2.2 (S, lstObj acc0 cc0) (List.mem_append_right _ List.mem_cons_self) e.symm
        refine hb.run A S (ip ++ pinsAt fp s5.heap) R n ys s₀ _ _ _ _ id id s6 σ6 H6 { D with nx := N, ct := N, bk := D.nx } { gl _ with ip := gi } hn ⟨fun n' ys' s₀' s7 f hn' hs => ?_, fun n' s₀' x s3 hx => ee n' s₀' x s3 hx⟩ ⟨acc, cc, r, I6⟩ q6
        have again : ∀ {σ7 : L2.St} {H7 : Hp}, GI X S (ip ++ pinsAt fp s5.heap) ys' σ7 H7 s7 → N ys' σ7 H7 → Seg (model X.prog X.w) A R (GY X S) n' s₀' (.forLoop tg (.ref it) body [] X.env) (.pure (.again (.forLoop tg (.ref it) body [] X.env)))
            (.ret (fun r => ((match r with | .ok f => (.pure f : Sem Flow) | .error e => .raise e).onRaise (cameBack X.env)).wrap K J gd lv) none (gd false) l c p [] :: fs) s7 := fun {σ7 H7} G7 n7 => by
          obtain ⟨m', hm, w7⟩ := hN ys' σ7 H7 n7
          have G8 := unp G7
          obtain ⟨acc7, cc7, r7, I7⟩ := G7
          refine seg_again rfl (ih m' hm n' (i + 1) ys' s₀' s7 σ7 H7 hn' w7 G8 (T.keep _ _ _ st5 fun b hb o e => ?_) fun b hb => ?_)
          · exact (I7.pin (b, o) (List.mem_append_right _ (List.mem_cons_of_mem _ (List.mem_append_right _ (mem_pinsAt hb e))))).1
          · obtain ⟨o, e, d⟩ := T.obj _ _ st5 b hb
            exact (I7.pin (b, o) (List.mem_append_right _ (List.mem_cons_of_mem _ (List.mem_append_right _ (mem_pinsAt hb e))))).2.1
        cases f with
        | next => obtain ⟨σ7, H7, G7, n7⟩ := hs; exact again G7 n7
        | cont => obtain ⟨σ7, H7, G7, n7⟩ := hs; exact again G7 n7
        | brk =>
          obtain ⟨σ7, H7, G7, n7⟩ := hs
          exact seg_leaf (.ok .next) (k.ok n' ys' s₀' s7 .next hn' ⟨σ7, H7, unp G7, n7⟩)
        | ret v =>
          obtain ⟨x7, σ7, H7, G7, r7, n7⟩ := hs
          exact seg_leaf (.ok (.ret v)) (k.ok n' ys' s₀' s7 (.ret v) hn' ⟨x7, σ7, H7, unp G7, r7, n7⟩)
  exact loop m0 n 0 ys s₀ s2 σ H2 (by assumption) w0 ⟨acc0, cc0, r0, I2⟩ st2 fun b hb => (f2 b hb).1
end
/-! ### a generator def of the text -/
theorem Fun.gok {P : Program} {w : World} {K : PySem.W.Frag} {mg : Str → Option Value} {base : Heap} {x qual : Str} {st : Stmt} {f : Addr} {fd : FuncData} {N ps : List Str} {k : Nat} {sp : SpG} (F : Fun K x qual st f fd) (S : GScope N ps (defScope st)) (len : ∀ vs H Q E, sp vs H Q E → vs.length = ps.length)
    (hbody : ∀ (cdv : Value) (A : Around) (outer : List Env) (s : Shared) (H : Hp) (vs : List V) (Q : List V → Hp → Prop) (E : XK) (pn : List (Addr × Obj)), Room k (A.deeper (envOfC qual (defScope st) s.heap.objs.size f cdv)) → sp vs H Q E →
      ∃ t, GSs (gcxOf P w K mg base N qual (defScope st) f cdv A outer s H E pn) (defBody st) t ∧ t { nx := fun ys _ H' => Q ys H', rt := fun ys v H' => v = .non ∧ Q ys H' } [] (start N vs) H) : GFn P w K mg base (k + 1) f fd ps sp := by
  obtain ⟨oc, od, kV, doc, pm, an, cdv, ct, osl, rfl, lk, hcd⟩ := F.ex
  exact gfn_of lk hcd S len fun A outer s H vs Q E pn hr hsp => hbody cdv A outer s H vs Q E pn hr hsp
theorem noStop0 {K : PySem.W.Frag} : NoStop K E0 := fun _ _ _ h => h.elim
theorem passX0 {P : Program} {w : World} {X : Cx} : Passes (L2.CX P w) X E0 := fun _ _ _ _ _ _ _ h => by
  obtain ⟨_, _, _, _, _, _, _, _, _, _, _, _, hW⟩ := h
  exact hW.elim
theorem pe_listG0 {X : Cx} {k : Nat} {e : Expr} {tg : TGen} {nm : Str} {p pos : Pos} (h : PGen X k e tg E0) (hr : Room (k + 3) X.A) (hg : Gl X nm) (hmg : X.mg nm = none) (hv : bootBuiltins nm = some (.type "list")) (hnm : nm ≠ "__name__" := by decide) (hdb : (nm == ("__debug__" : Str)) = false := by decide)
    (he : starEach [e] X.env = (false, eval e X.env) :: starEach [] X.env := by rfl) : PE X (.Call (.Name nm p) [e] [] pos) (tListG tg) := pe_listG h passX0 noStop0 hr hg hmg hv hnm hdb he
/-! ### readings -/
def LoopGG (J : It) (g : TG) (tb : TGn) (D : GEnds) (ys : List V) (σ : L2.St) (H1 : Hp) : Prop := ∃ W : Nat → Nat → List V → L2.St → Hp → Prop, (∃ m, W 0 m ys σ H1) ∧ ∀ i m ys σ H, W i m ys σ H →
  (J.stop i H ∧ D.nx ys σ H) ∨ (J.go i H ∧ ∃ N : List V → L2.St → Hp → Prop, (∀ ys' σ' H', N ys' σ' H' → ∃ m', m' < m ∧ W (i + 1) m' ys' σ' H') ∧ ∀ x H', J.yld i H x H' → g x σ H' fun σ2 H2 => tb { D with nx := N, ct := N, bk := D.nx } ys σ2 H2)
section
variable {ys : List V} {σ : L2.St} {H : Hp} {Q : VK} {D : GEnds}
theorem x_gfor {wi : TI} {g : TG} {tb : TGn} : tGFor wi g tb D ys σ H = wi σ H fun J H1 => LoopGG J g tb D ys σ H1 := rfl
theorem x_gplain {t : TS} : tPlain t D ys σ H = t { nx := D.nx ys, rt := D.rt ys, bk := D.bk ys, ct := D.ct ys } σ H := rfl
theorem x_gthen {t u : TGn} : tGThen t u D ys σ H = t { D with nx := fun ys' σ' H' => u D ys' σ' H' } ys σ H := rfl
theorem x_g0 : tG0 D ys σ H = D.nx ys σ H := rfl
theorem x_gyield {te : TE} : tGYield te D ys σ H = (ys.length < sizeLine ∧ te σ H fun x H1 => D.nx (ys ++ [x]) σ H1) := rfl
theorem x_gwhile {c : TT} {tb : TGn} : tGWhile c tb D ys σ H = ∃ W : Nat → List V → L2.St → Hp → Prop, (∃ m, W m ys σ H) ∧ ∀ m ys σ H, W m ys σ H →
  c σ H fun b H1 => if b = true then ∃ N : List V → L2.St → Hp → Prop, (∀ ys' σ' H', N ys' σ' H' → ∃ m', m' < m ∧ W m' ys' σ' H') ∧ tb { D with nx := N, ct := N, bk := D.nx } ys σ H1 else D.nx ys σ H1 := rfl
theorem x_listG {tg : TGen} : tListG tg σ H Q = tg σ H fun out H2 => ∀ p, H2 p = none → Q (.ref p) (upd H2 p (.lst out)) := rfl
theorem x_callG {sp : SpG} {dvs : List V} {E : XK} {t : TA} {cont : List V → Hp → Prop} : tCallG sp dvs E t σ H cont = t σ H fun vs H1 => sp (vs ++ dvs) H1 cont E := rfl
end
theorem lgg_list {K : PySem.W.Frag} {a : Addr} {xs : List V} {g : TG} {tb : TGn} {D : GEnds} {ys : List V} {σ : L2.St} {H : Hp} (Pv : Nat → List V → L2.St → Hp → Prop) (h0 : Pv 0 ys σ H) (hl : ∀ i ys σ H, i ≤ xs.length → Pv i ys σ H → SqL K H a xs)
    (hs : ∀ i v ys σ H, xs[i]? = some v → Pv i ys σ H → g v σ H fun σ2 H2 => tb { D with nx := Pv (i + 1), ct := Pv (i + 1), bk := D.nx } ys σ2 H2) (hd : ∀ ys σ H, Pv xs.length ys σ H → D.nx ys σ H) :
    LoopGG (Itl K a) g tb D ys σ H := by
  refine ⟨fun i m ys σ H => m = xs.length - i ∧ i ≤ xs.length ∧ Pv i ys σ H, ⟨xs.length, by simp, Nat.zero_le _, h0⟩, ?_⟩
  rintro i m ys σ H ⟨rfl, hi, p⟩
  have q := hl i ys σ H hi p
  by_cases hlt : i < xs.length
  · refine .inr ⟨⟨xs, xs[i], q, by simp [hlt]⟩, Pv (i + 1), fun ys' σ' H' p' => ⟨xs.length - (i + 1), by omega, rfl, hlt, p'⟩, fun x H' y => ?_⟩
    obtain ⟨e, y⟩ := y
    subst e
    exact hs i x ys σ _ (y xs q) p
  · have e : i = xs.length := by omega
    subst e
    exact .inl ⟨⟨xs, q, Nat.le_refl _⟩, hd ys σ H p⟩
end BC

set_option Elab.async false
set_option linter.all false
set_option maxRecDepth 100000
set_option maxHeartbeats 4000000
/-! As GenY, for generators with cells: what a cell holds is forgotten at each yield. -/
namespace SL
open PySem PySem.Spec PyProof.Rows L2 GenW BC Evl

/-! ### the entry's heap, as it stands now -/
def cut (n : Nat) (h : Heap) : Heap := { h with objs := Array.ofFn (n := n) fun i => (h.objs[i.val]?).getD { cls := .none, dict := none, data := .freed, slots := #[] } }
theorem cut_size {n : Nat} {h : Heap} : (cut n h).objs.size = n := by unfold cut; simp
theorem cut_get {n : Nat} {h : Heap} {b : Addr} : (cut n h).get? b = if b < n then h.get? b else none := by
  unfold cut Heap.get?
  simp only [Array.getElem?_ofFn]
  by_cases hb : b < n
  · rw [dif_pos hb, if_pos hb]
    cases e : h.objs[b]? with
    | none => simp
    | some o => simp
  · rw [dif_neg hb, if_neg hb]
theorem of_cut {n : Nat} {h : Heap} {b : Addr} {o : Obj} (e : (cut n h).get? b = some o) : b < n ∧ h.get? b = some o := by
  rw [cut_get] at e
  by_cases hb : b < n
  · rw [if_pos hb] at e; exact ⟨hb, e⟩
  · rw [if_neg hb] at e; cases e
theorem cut_of {n : Nat} {h : Heap} {b : Addr} {o : Obj} (hb : b < n) (e : h.get? b = some o) : (cut n h).get? b = some o := by rw [cut_get, if_pos hb]; exact e
/-- the context with the present for its entry -/
abbrev gh (X : Cx) (s₀ : Shared) (Hr : Hp) : Cx := { X with s_0 := { s₀ with heap := cut X.s_0.heap.objs.size s₀.heap }, H_0 := Hr }
/-- the generator's own: its frame, its cells, what is pinned -/
def Own (X : Cx) (ip : List (Addr × Obj)) (b : Addr) : Prop := b = X.env.locals ∨ ∃ p ∈ X.pn ++ ip, p.1 = b
/-- the slots of what has a cell -/
def CellsIn (X : Cx) (ws : List Nat) : Prop := ∀ (i : Nat) (x : Str), X.N[i]? = some x → (∃ c, X.env.cells.lookup x = some c) → i ∈ ws
/-- how it may be woken -/
structure Wk (X : Cx) (ip : List (Addr × Obj)) (s s' : Shared) (H' : Hp) : Prop where
  bare : AllBare s'.gens
  bs : ∀ b o, X.base.get? b = some o → s'.heap.get? b = some o ∧ H' b = none
  funs : s'.heap.FunFrames X.base X.outer
  frf : ∀ b ∈ X.fs, H' b = none
  keep : ∀ b o, Own X ip b → s.heap.get? b = some o → s'.heap.get? b = some o
  free : ∀ b, Own X ip b → H' b = none
  cell : ∀ x c, X.env.cells.lookup x = some c → (∃ v, s'.heap.IsCell c v) ∧ H' c = none
  hok : HOk X.prog X.w H' s'.heap
theorem funs_cut {base h : Heap} {n : Nat} : ∀ {l : List Env}, h.FunFrames base l → (∀ b ∈ frs l, b < n) → (cut n h).FunFrames base l
  | [], _, _ => trivial
  | env :: r, hl, hs => by
    obtain ⟨hk, ⟨L, o, hf, hn, ho, hd⟩, hr⟩ := hl
    have hL : L ∈ frs (env :: r) := by unfold frs; rw [List.filterMap_cons, hf]; exact List.mem_cons_self
    refine ⟨hk, ⟨L, o, hf, hn, cut_of (hs L hL) ho, hd⟩, funs_cut hr fun b hb => hs b ?_⟩
    unfold frs; rw [List.filterMap_cons, hf]; exact List.mem_cons_of_mem _ hb
theorem frs_lt {X : Cx} (ok : X.Ok) : ∀ b ∈ X.fs, b < X.s_0.heap.objs.size := fun b hb => by
  obtain ⟨_, o, ho, _⟩ := ok.funs.mem hb
  exact Heap.lt_size ho
theorem gh_ok {X : Cx} (ok : X.Ok) {s' : Shared} {H' : Hp} (bs : ∀ b o, X.base.get? b = some o → s'.heap.get? b = some o ∧ H' b = none) (funs : s'.heap.FunFrames X.base X.outer) (frf : ∀ b ∈ X.fs, H' b = none) : (gh X s' H').Ok where
  mod := ok.mod
  kind := ok.kind
  glob := ok.glob
  blt := ok.blt
  above := by show (cut _ _).objs.size ≤ _; rw [cut_size]; exact ok.above
  inj := ok.inj
  has := ok.has
  cab := fun x c h1 h2 => by show (cut _ _).objs.size ≤ _; rw [cut_size]; exact ok.cab x c h1 h2
  hd := ok.hd
  frames := ok.frames
  stk := ok.stk
  exf := ok.exf
  bs := fun b o e => ⟨cut_of (Nat.lt_of_lt_of_le (Heap.lt_size e) ok.bsz) (bs b o e).1, (bs b o e).2⟩
  bsz := by show _ ≤ (cut _ _).objs.size; rw [cut_size]; exact ok.bsz
  noex := ok.noex
  exfs := ok.exfs
  funs := funs_cut funs (frs_lt ok)
  frf := frf
/-- it is woken -/
theorem reent {X : Cx} (ok : X.Ok) {s1 s s' : Shared} {H1 H H' : Hp} {ip : List (Addr × Obj)} {σ : L2.St} {ws : List Nat} (hws : CellsIn X ws) (I : Inv { X with s_0 := s1, H_0 := H1 } ip σ H s) (w : Wk X ip s s' H') : Inv (gh X s' H') ip (wipe σ ws) H' s' where
  ok := gh_ok ok w.bs w.funs w.frf
  os := rfl
  bare := w.bare
  base := Un.kept fun b u q => (of_cut q).2
  loc := by
    obtain ⟨m, hn, hl⟩ := I.loc
    obtain ⟨o, es, ep, ho, r⟩ := hn
    refine ⟨m, ⟨o, es, ep, w.keep _ _ (.inl rfl) ho, r⟩, fun i x v e1 e2 e3 => ?_⟩
    obtain ⟨e2, nws⟩ := wipe_some e2
    obtain ⟨u, ru, lk⟩ := hl i x v e1 e2 e3
    refine ⟨u, ru, ?_⟩
    rcases lk with lk | ⟨k, c, e, oc, hoc, hdc⟩
    · exact .inl lk
    · exact (nws (hws i x e1 ⟨c, e⟩)).elim
  cell := fun x c e => (w.cell x c e).1
  free := w.free _ (.inl rfl)
  freeC := fun x c e => (w.cell x c e).2
  pin := fun p hp => by
    obtain ⟨h1, h2, h3, h4, h5⟩ := I.pin p hp
    exact ⟨w.keep _ _ (.inr ⟨p, hp, rfl⟩) h1, w.free _ (.inr ⟨p, hp, rfl⟩), h3, h4, h5⟩
  hok := w.hok
  len := by rw [wipe_length]; exact I.len

/-- what is tracked stays tracked -/
def Dom (H H' : Hp) : Prop := ∀ b, H b ≠ none → H' b ≠ none
theorem Dom.refl {H : Hp} : Dom H H := fun _ h => h
theorem Dom.trans {H H1 H2 : Hp} (x : Dom H H1) (y : Dom H1 H2) : Dom H H2 := fun b h => y b (x b h)
theorem Dom.of {H H' : Hp} (e : Ex H H') : Dom H H' := fun b h => by
  cases q : H b with
  | none => exact (h q).elim
  | some o => rw [e b o q]; exact fun z => nomatch z
theorem Dom.fx {p : Addr} {o : HO} {H H' : Hp} (f : Fx p H H') (h : H' p = some o) : Dom H H' := fun b hb => by
  by_cases z : b = p
  · rw [z, h]; exact fun z => nomatch z
  · cases q : H b with
    | none => exact (hb q).elim
    | some u => rw [f b u z q]; exact fun z => nomatch z
theorem Dom.put {p : Addr} {o : HO} {H : Hp} : Dom H (upd H p o) := Dom.fx Fx.put upd_same
theorem Dom.none {H H' : Hp} {b : Addr} (d : Dom H H') (h : H' b = none) : H b = none := by
  cases q : H b with
  | none => rfl
  | some o => exact (d b (by rw [q]; exact fun z => nomatch z) h).elim

/-! ### the judgements -/
/-- what is wanted: at a yield (its number, the heap at the last waking, the value, the heap, the part of it that must stand), behind a statement -/
structure YE where
  yl : Nat → Hp → V → Hp → Hp → Prop
  nx : Nat → Hp → L2.St → Hp → Prop
  rt : Nat → Hp → VK
  bk : Nat → Hp → L2.St → Hp → Prop := fun _ _ _ _ => False
  ct : Nat → Hp → L2.St → Hp → Prop := fun _ _ _ _ => False
abbrev TY := YE → Nat → Hp → L2.St → Hp → Prop
def YE.at (D : YE) (i : Nat) (Hr : Hp) : Ends := { nx := D.nx i Hr, rt := D.rt i Hr, bk := D.bk i Hr, ct := D.ct i Hr }
abbrev CW := Nat → Shared → Hp → Prop
/-- the protocol: C holds of the state and the heap at each waking -/
def YP (X : Cx) (C : CW) (yl : Nat → Hp → V → Hp → Hp → Prop) : Protocol := fun n s₀ v s kap =>
  ∃ i x ip Hr σ H K, n + 1 + i = sizeLine ∧ RelV x v ∧ Inv (gh X s₀ Hr) ip σ H s ∧ C i s₀ Hr ∧ yl i Hr x H K ∧ ∀ s' H', Wk X ip s s' H' → C (i + 1) s' H' → Ex K H' → Dom H H' → kap (.send .none) s' ∧ kap (.send (.int 0 0)) s'
def YF (X : Cx) (C : CW) (z : Nat → Hp → Hp → Prop) (n : Nat) (s₀ s : Shared) : Prop := ∃ i Hr ip σ H, n + i = sizeLine ∧ Inv (gh X s₀ Hr) ip σ H s ∧ C i s₀ Hr ∧ z i Hr H
def YR (X : Cx) (C : CW) (z : Nat → Hp → Hp → Prop) : GenEnd := fun n s₀ r s => ((r = .ok (.ret .none) ∨ r = .ok .next) ∧ YF X C z n s₀ s) ∨ ∃ e, r = .error e ∧ False
structure YC (X : Cx) (A : Around) (c : Code) (fs : List Frame) (gd : Bool → Bool) : Prop where
  ok : X.Ok
  nox : ∀ e s, ¬ X.xe e s
  over : A.over c fs = X.A
  split : splitAtGen fs = none
  guard : fs.any Frame.guarded = false
  gd : gd false = false
def YSP (X : Cx) (s₀ : Shared) (Hr : Hp) (ip : List (Addr × Obj)) (D : YE) (i : Nat) (f : Flow) (s : Shared) : Prop := SP (gh X s₀ Hr) ip (D.at i Hr) f s
abbrev YK (X : Cx) (C : CW) (ip : List (Addr × Obj)) (A : Around) (R : GenEnd) (c : Code) (fs : List Frame) (Kc : Flow → Sem PySem.Fin) (D : YE) : Prop :=
  ∀ (n i : Nat) (s₀ : Shared) (Hr : Hp) (s : Shared) (f : Flow), n + i = sizeLine → C i s₀ Hr → YSP X s₀ Hr ip D i f s → Seg (model X.prog X.w) A R (YP X C D.yl) n s₀ c (Kc f) fs s
structure YS (X : Cx) (st : Stmt) (t : TY) : Prop where
  run : ∀ (A : Around) (ip : List (Addr × Obj)) (C : CW) (R : GenEnd) (n i : Nat) (s₀ : Shared) (Hr : Hp) (c : Code) (fs : List Frame) (Kc : Flow → Sem PySem.Fin) (J : Value → Sem PySem.Fin) (gd : Bool → Bool) (lv : List Value → List Value) (s : Shared) (σ : L2.St) (H : Hp) (D : YE),
    YC X A c fs gd → n + i = sizeLine → YK X C ip A R c fs Kc D → Inv (gh X s₀ Hr) ip σ H s → C i s₀ Hr → t D i Hr σ H →
    Seg (model X.prog X.w) A R (YP X C D.yl) n s₀ c ((exec st X.env).wrap Kc J gd lv) fs s
structure YSs (X : Cx) (st : List Stmt) (t : TY) : Prop where
  run : ∀ (A : Around) (ip : List (Addr × Obj)) (C : CW) (R : GenEnd) (n i : Nat) (s₀ : Shared) (Hr : Hp) (c : Code) (fs : List Frame) (Kc : Flow → Sem PySem.Fin) (J : Value → Sem PySem.Fin) (gd : Bool → Bool) (lv : List Value → List Value) (s : Shared) (σ : L2.St) (H : Hp) (D : YE),
    YC X A c fs gd → n + i = sizeLine → YK X C ip A R c fs Kc D → Inv (gh X s₀ Hr) ip σ H s → C i s₀ Hr → t D i Hr σ H →
    Seg (model X.prog X.w) A R (YP X C D.yl) n s₀ c ((execs st X.env).wrap Kc J gd lv) fs s

section
variable {X : Cx} {st : Stmt} {rest : List Stmt}
def tYPlain (t : TS) : TY := fun D i Hr σ H => t (D.at i Hr) σ H
theorem ys_ps {t : TS} (h : ∀ s₀ Hr, PS (gh X s₀ Hr) st t) : YS X st (tYPlain t) := by
  refine ⟨fun A ip C R n i s₀ Hr c fs Kc J gd lv s σ H D g hn k I hC ht => ?_⟩
  refine seg_wrap ?_
  rw [g.over]
  exact wpAny_mono ((h s₀ Hr).run _ s σ H (D.at i Hr) I ht) (fun f s' hs => k n i s₀ Hr s' f hn hC hs) fun x s' hx => (g.nox x s' hx).elim
theorem yss_pss {t : TS} (h : ∀ s₀ Hr, PSs (gh X s₀ Hr) rest t) : YSs X rest (tYPlain t) := by
  refine ⟨fun A ip C R n i s₀ Hr c fs Kc J gd lv s σ H D g hn k I hC ht => ?_⟩
  refine seg_wrap ?_
  rw [g.over]
  exact wpAny_mono ((h s₀ Hr).run _ s σ H (D.at i Hr) I ht) (fun f s' hs => k n i s₀ Hr s' f hn hC hs) fun x s' hx => (g.nox x s' hx).elim
def tY0 : TY := fun D i Hr σ H => D.nx i Hr σ H
theorem yss_nil : YSs X [] tY0 := by
  refine ⟨fun A ip C R n i s₀ Hr c fs Kc J gd lv s σ H D g hn k I hC ht => ?_⟩
  exact seg_execs_nil (k n i s₀ Hr s .next hn hC ⟨σ, H, I, ht⟩)
def tYThen (t u : TY) : TY := fun D i Hr σ H => t { D with nx := fun i' Hr' σ' H' => u D i' Hr' σ' H' } i Hr σ H
theorem yss_cons {t u : TY} (a : YS X st t) (b : YSs X rest u) : YSs X (st :: rest) (tYThen t u) := by
  refine ⟨fun A ip C R n i s₀ Hr c fs Kc J gd lv s σ H D g hn k I hC ht => ?_⟩
  refine seg_execs_cons ?_
  refine a.run A ip C R n i s₀ Hr c fs _ J gd lv s σ H { D with nx := fun i' Hr' σ' H' => u D i' Hr' σ' H' } g hn (fun n' i' s₀' Hr' s' f hn' hC' hs => ?_) I hC ht
  cases f with
  | next =>
    obtain ⟨σ', H', I', q⟩ := hs
    exact b.run A ip C R n' i' s₀' Hr' c fs Kc J gd lv s' σ' H' D g hn' k I' hC' q
  | brk => exact k n' i' s₀' Hr' s' .brk hn' hC' hs
  | cont => exact k n' i' s₀' Hr' s' .cont hn' hC' hs
  | ret u => exact k n' i' s₀' Hr' s' (.ret u) hn' hC' hs

/-! ### yield -/
def tYYield (ws : List Nat) (te : TE) : TY := fun D i Hr σ H => i < sizeLine ∧ te σ H fun x H1 => ∃ K, D.yl i Hr x H1 K ∧ ∀ H2, Ex K H2 → Dom H1 H2 → D.nx (i + 1) H2 (wipe σ ws) H2
theorem ys_yield {e : Expr} {yp pos : Pos} {te : TE} {ws : List Nat} (hws : CellsIn X ws) (he : ∀ s₀ Hr, PE (gh X s₀ Hr) e te) (hco : X.env.scope.isCoroutine = false := by rfl) (hi : interactive X.env = false := by rfl) : YS X (.Expr (.Yield (some e) yp) pos) (tYYield ws te) := by
  refine ⟨fun A ip C R n i s₀ Hr c fs Kc J gd lv s σ H D g hn k I hC ht => ?_⟩
  obtain ⟨hlt, ht⟩ := ht
  obtain ⟨n, rfl⟩ : ∃ m, n = m + 1 := ⟨n - 1, by omega⟩
  refine seg_Expr_Yield g.split g.gd g.guard ?_ hco hi
  rw [g.over]
  refine wpAny_mono ((he s₀ Hr).run _ s σ H _ I ht) (fun v s' hv => ?_) fun x s' hx => (g.nox x s' hx).elim
  obtain ⟨x, H1, I1, rv, K, hy, hk⟩ := hv
  intro kap hkap
  refine ⟨i, x, ip, Hr, σ, H1, K, by omega, rv, I1, hC, hy, fun s'' H2 w hC2 hK hD => ?_⟩
  have q := k n (i + 1) s'' H2 s'' .next (by omega) hC2 ⟨wipe σ ws, H2, reent g.ok hws I1 w, hk H2 hK hD⟩
  exact ⟨hkap .none s'' q, hkap (.int 0 0) s'' q⟩

/-! ### loops -/
theorem yc_loop {A : Around} {c c' : Code} {fs : List Frame} {gd : Bool → Bool} {k : Result → Sem PySem.Fin} {l kp : List Value} {p : Pos} (g : YC X A c fs gd) (hw : c'.weight = 0) (hu : c'.cUnits = 0) :
    YC X A c' (.ret k none (gd false) l c p kp :: fs) id where
  ok := g.ok
  nox := g.nox
  over := (over_loop hw hu).trans g.over
  split := by
    show (splitAtGen fs).map _ = none
    rw [g.split]; rfl
  guard := by
    show (gd false || fs.any Frame.guarded) = false
    rw [g.gd, g.guard]; rfl
  gd := rfl
def tYWhile (c : TT) (tb : TY) : TY := fun D i Hr σ H => ∃ W : Nat → Nat → Hp → L2.St → Hp → Prop, (∃ m, W m i Hr σ H) ∧ ∀ m i Hr σ H, W m i Hr σ H →
  c σ H fun b H1 => if b = true then ∃ N : Nat → Hp → L2.St → Hp → Prop, (∀ i' Hr' σ' H', N i' Hr' σ' H' → ∃ m', m' < m ∧ W m' i' Hr' σ' H') ∧ tb { D with nx := N, ct := N, bk := D.nx } i Hr σ H1 else D.nx i Hr σ H1
theorem ys_while {test : Expr} {body : List Stmt} {pos : Pos} {tc : TT} {tb : TY} (hc : ∀ s₀ Hr, PT (gh X s₀ Hr) test tc) (hb : YSs X body tb) : YS X (.While test body [] pos) (tYWhile tc tb) := by
  refine ⟨fun A ip C R n i s₀ Hr c fs Kc J gd lv s σ H D g hn k I hC ht => ?_⟩
  obtain ⟨W, ⟨m0, w0⟩, turn⟩ := ht
  refine seg_While fun p => ?_
  have gl := fun (kk : Result → Sem PySem.Fin) => yc_loop (k := kk) (c' := .whileLoop test body [] X.env) (l := lv []) (kp := []) (p := p) g rfl rfl
  have loop : ∀ (m n i : Nat) (s₀ : Shared) (Hr : Hp) (s : Shared) (σ : L2.St) (H : Hp), n + i = sizeLine → W m i Hr σ H → Inv (gh X s₀ Hr) ip σ H s → C i s₀ Hr →
      Seg (model X.prog X.w) A R (YP X C D.yl) n s₀ (.whileLoop test body [] X.env) ((model X.prog X.w).den (.whileLoop test body [] X.env))
        (.ret (fun r => ((match r with | .ok f => (.pure f : Sem Flow) | .error e => .raise e).onRaise (cameBack X.env)).wrap Kc J gd lv) none (gd false) (lv []) c p [] :: fs) s := by
    intro m
    induction m using Nat.strongRecOn with
    | ind m ih =>
      intro n i s₀ Hr s σ H hn w I hC
      refine seg_whileLoop ?_
      rw [(gl _).over]
      refine wpAny_mono ((hc s₀ Hr).run _ s σ H _ I (turn m i Hr σ H w)) (fun b s' hb' => ?_) fun x s' hx => (g.nox x s' hx).elim
      obtain ⟨H2, I2, q2⟩ := hb'
      cases b with
      | true =>
        obtain ⟨N, hN, q2⟩ := q2
        rw [if_pos rfl]
        refine hb.run A ip C R n i s₀ Hr _ _ _ _ id id s' σ H2 { D with nx := N, ct := N, bk := D.nx } (gl _) hn (fun n' i' s₀' Hr' s3 f hn' hC' hs => ?_) I2 hC q2
        cases f with
        | next =>
          obtain ⟨σ3, H3, I3, n3⟩ := hs
          obtain ⟨m', hm, w3⟩ := hN i' Hr' σ3 H3 n3
          exact seg_again rfl (ih m' hm n' i' s₀' Hr' s3 σ3 H3 hn' w3 I3 hC')
        | cont =>
          obtain ⟨σ3, H3, I3, n3⟩ := hs
          obtain ⟨m', hm, w3⟩ := hN i' Hr' σ3 H3 n3
          exact seg_again rfl (ih m' hm n' i' s₀' Hr' s3 σ3 H3 hn' w3 I3 hC')
        | brk => exact seg_leaf (.ok .next) (k n' i' s₀' Hr' s3 .next hn' hC' hs)
        | ret v => exact seg_leaf (.ok (.ret v)) (k n' i' s₀' Hr' s3 (.ret v) hn' hC' hs)
      | false =>
        rw [if_neg Bool.false_ne_true]
        refine seg_execs_nil ?_
        exact seg_leaf (.ok .next) (k n i s₀ Hr s' .next hn hC ⟨σ, H2, I2, q2⟩)
  exact loop m0 n i s₀ Hr s σ H hn w0 I hC
def tYFor (wi : TI) (g : TG) (tb : TY) : TY := fun D i Hr σ H => wi σ H fun J H1 => ∃ W : Nat → Nat → Nat → Hp → L2.St → Hp → Prop, (∃ m, W 0 m i Hr σ H1) ∧ ∀ j m i Hr σ H, W j m i Hr σ H →
  (J.stop j H ∧ D.nx i Hr σ H) ∨ (J.go j H ∧ ∃ N : Nat → Hp → L2.St → Hp → Prop, (∀ i' Hr' σ' H', N i' Hr' σ' H' → ∃ m', m' < m ∧ W (j + 1) m' i' Hr' σ' H') ∧ ∀ x H', J.yld j H x H' → g x σ H' fun σ2 H2 => tb { D with nx := N, ct := N, bk := D.nx } i Hr σ2 H2)
theorem ys_for {tg iter : Expr} {body : List Stmt} {wi : TI} {g : TG} {tb : TY} {pos : Pos} (hc : X.calm = true) (hi : ∀ s₀ Hr, PI (gh X s₀ Hr) tg iter wi) (hg : ∀ s₀ Hr, PG (gh X s₀ Hr) tg g) (hb : YSs X body tb)
    (hs : ∀ x, foldedSetIterable iter X.env x = pure x := by intro _; rfl) : YS X (.For tg iter body [] pos) (tYFor wi g tb) := by
  refine ⟨fun A ip C R n i s₀ Hr c fs Kc Jx gd lv s σ H D gc hn k I hC ht => ?_⟩
  refine seg_ForG ?_ hs
  rw [gc.over]
  refine wpAny_mono ((hi s₀ Hr).run ip s σ H _ I ht) (fun v s1 h1 => wpAny_mono h1 (fun itv s2 h2 p l => ?_) fun x s' hx => (gc.nox x s' hx).elim) fun x s' hx => (gc.nox x s' hx).elim
  obtain ⟨it, fp, tn, J', H2, e, I2, T, st2, f2, W, ⟨m0, w0⟩, turn⟩ := h2
  subst e
  have gl := fun (kk : Result → Sem PySem.Fin) => yc_loop (k := kk) (c' := .forLoop tg (.ref it) body [] X.env) (l := l) (kp := []) (p := p) gc rfl rfl
  have stat : ∀ {s₀' : Shared} {Hr' H' : Hp}, (∀ b ∈ fp, H' b = none) → ∀ b ∈ fp, FpOk (gh X s₀' Hr') ip H' b := fun {s₀' Hr' H'} hn b hb => by
    obtain ⟨f0, f1, f2', f3, f4, f5⟩ := f2 b hb
    refine ⟨hn b hb, f1, f2', ?_, f4, f5⟩
    have f3' : b ∈ X.ex ∨ (cut X.s_0.heap.objs.size s₀.heap).objs.size ≤ b := f3
    rw [cut_size] at f3'
    show b ∈ X.ex ∨ (cut X.s_0.heap.objs.size s₀'.heap).objs.size ≤ b
    rw [cut_size]; exact f3'
  have loop : ∀ (m n j i : Nat) (s₀ : Shared) (Hr : Hp) (s : Shared) (σ : L2.St) (H : Hp), n + i = sizeLine → W j m i Hr σ H → Inv (gh X s₀ Hr) ip σ H s → C i s₀ Hr → tn j s.heap → (∀ b ∈ fp, H b = none) →
      Seg (model X.prog X.w) A R (YP X C D.yl) n s₀ (.forLoop tg (.ref it) body [] X.env) ((model X.prog X.w).den (.forLoop tg (.ref it) body [] X.env))
        (.ret (fun r => ((match r with | .ok f => (.pure f : Sem Flow) | .error e => .raise e).onRaise (cameBack X.env)).wrap Kc Jx gd lv) none (gd false) l c p [] :: fs) s := by
    intro m
    induction m using Nat.strongRecOn with
    | ind m ih =>
      intro n j i s₀ Hr s σ H hn w I hC st fr
      refine seg_forLoop ?_
      rw [(gl _).over]
      rcases turn j m i Hr σ H w with ⟨stop, qn⟩ | ⟨go, N, hN, step⟩
      · refine wpAny_mono (T.done (gh X s₀ Hr) rfl rfl rfl hc j ip s σ H X.xe I (stat fr) st stop) (fun r' s4 h4 => ?_) fun x s' hx => (gc.nox x s' hx).elim
        obtain ⟨hr, I4⟩ := h4
        subst hr
        exact seg_blockNil (seg_leaf (.ok .next) (k n i s₀ Hr s4 .next hn hC ⟨σ, H, I4, qn⟩))
      · refine wpAny_mono (T.item (gh X s₀ Hr) rfl rfl rfl hc j ip s σ H X.xe I (stat fr) st go) (fun r' s4 h4 => ?_) fun x s' hx => (gc.nox x s' hx).elim
        obtain ⟨u, hr, h4⟩ := h4
        subst hr
        refine wpAny_mono h4 (fun _ s5 h5 => ?_) fun x s' hx => (gc.nox x s' hx).elim
        obtain ⟨x, H5, I5, r5, y5, st5, fr5⟩ := h5
        have I5' : Inv (gh X s₀ Hr) (ip ++ pinsAt fp s5.heap) σ H5 s5 := I5.pinned (stat fr5) (T.obj _ _ st5)
        refine wpAny_mono ((hg s₀ Hr).run _ s5 σ H5 x u _ I5' r5 (step x H5 y5)) (fun _ s6 h6 => ?_) fun x s' hx => (gc.nox x s' hx).elim
        obtain ⟨σ6, H6, I6, q6⟩ := h6
        refine hb.run A (ip ++ pinsAt fp s5.heap) C R n i s₀ Hr _ _ _ _ id id s6 σ6 H6 { D with nx := N, ct := N, bk := D.nx } (gl _) hn (fun n' i' s₀' Hr' s7 f hn' hC' hs => ?_) I6 hC q6
        have again : ∀ {σ7 : L2.St} {H7 : Hp}, Inv (gh X s₀' Hr') (ip ++ pinsAt fp s5.heap) σ7 H7 s7 → N i' Hr' σ7 H7 → Seg (model X.prog X.w) A R (YP X C D.yl) n' s₀' (.forLoop tg (.ref it) body [] X.env) (.pure (.again (.forLoop tg (.ref it) body [] X.env)))
            (.ret (fun r => ((match r with | .ok f => (.pure f : Sem Flow) | .error e => .raise e).onRaise (cameBack X.env)).wrap Kc Jx gd lv) none (gd false) l c p [] :: fs) s7 := fun {σ7 H7} I7 n7 => by
          obtain ⟨m', hm, w7⟩ := hN i' Hr' σ7 H7 n7
          refine seg_again rfl (ih m' hm n' (j + 1) i' s₀' Hr' s7 σ7 H7 hn' w7 I7.unpinned hC' (T.keep _ _ _ st5 fun b hb o e => ?_) fun b hb => ?_)
          · exact (I7.pin (b, o) (List.mem_append_right _ (List.mem_append_right _ (mem_pinsAt hb e)))).1
          · obtain ⟨o, e, d⟩ := T.obj _ _ st5 b hb
            exact (I7.pin (b, o) (List.mem_append_right _ (List.mem_append_right _ (mem_pinsAt hb e)))).2.1
        cases f with
        | next => obtain ⟨σ7, H7, I7, n7⟩ := hs; exact again I7 n7
        | cont => obtain ⟨σ7, H7, I7, n7⟩ := hs; exact again I7 n7
        | brk =>
          obtain ⟨σ7, H7, I7, n7⟩ := hs
          exact seg_leaf (.ok .next) (k n' i' s₀' Hr' s7 .next hn' hC' ⟨σ7, H7, I7.unpinned, n7⟩)
        | ret v =>
          obtain ⟨x7, σ7, H7, I7, r7, n7⟩ := hs
          exact seg_leaf (.ok (.ret v)) (k n' i' s₀' Hr' s7 (.ret v) hn' hC' ⟨x7, σ7, H7, I7.unpinned, r7, n7⟩)
  exact loop m0 n 0 i s₀ Hr s2 σ H2 (by assumption) w0 I2 hC st2 fun b hb => (f2 b hb).1
end
end SL

set_option Elab.async false
set_option linter.all false
set_option maxRecDepth 100000
set_option maxHeartbeats 4000000
/-! for x in g(..): the consumer's rule; a generator def's promise by its body. -/
namespace SL
open PySem PySem.Spec PyProof.Rows L2 GenW BC Evl

/-! ### exceptions, whatever sleeps -/
def XeOk (X : Cx) : Prop := ∀ (e : Value) (s : Shared) (G : Array GenState), GR s.gens G → X.xe e s → X.xe e (wg s G)
theorem xe_of {M : Model} {A : Around} {t : Sem Unit} {C D : Value → Shared → Prop} {e : Value} {s : Shared} {G : Array GenState} (hC : ∀ e s G, GR s.gens G → C e s → C e (wg s G)) (hD : ∀ e s G, GR s.gens G → D e s → D e (wg s G)) (g : GR s.gens G)
    (h : wpAny M A t (fun _ s' => C e s') (fun e' s' => D e' s') s) : wpAny M A t (fun _ s' => C e s') (fun e' s' => D e' s') (wg s G) :=
  wpAny_mono (wpAny_sw g h) (fun _ s' ⟨G', g', _, q⟩ => hC e (wg s' G') s'.gens g' q) fun e' s' ⟨G', g', _, q⟩ => hD e' (wg s' G') s'.gens g' q
theorem cx_sw {P : Program} {w : World} {outer : List Env} {H : Hp} {s0 : Shared} {E : XK} : ∀ e s G, GR s.gens G → L2.CX P w outer H s0 E e s → L2.CX P w outer H s0 E e (wg s G) := fun e s G g h => by
  obtain ⟨a, B, H', cls, d, z1, fl, z2, ub, z3, z4, z5, z6⟩ := h
  exact ⟨a, B, H', cls, d, z1, fl, z2, ub, z3, z4, g.bare z5, z6⟩
theorem xeok_cx {P : Program} {w : World} {K : PySem.W.Frag} {mg : Str → Option Value} {base : Heap} {N : List Str} {qual : Str} {scope : Scope} {f : Addr} {cd : Value} {A : Around} {outer : List Env} {s : Shared} {H : Hp} {E : XK} : XeOk (cxOf (L2.CX P w) P w K mg base N qual scope f cd A outer s H E) := fun e s' G g h => xe_of cx_sw cx_sw g h
theorem xeok_cx0 {P : Program} {w : World} {K : PySem.W.Frag} {mg : Str → Option Value} {base : Heap} {N : List Str} {qual : Str} {scope : Scope} {f : Addr} {cd : Value} {A : Around} {outer : List Env} {s : Shared} {H : Hp} {E : XK} : XeOk (cxOf L2.CX0 P w K mg base N qual scope f cd A outer s H E) := fun e s' G g h => xe_of (fun _ _ _ _ q => q) (fun _ _ _ _ q => q) g h
theorem Inv.gens {X : Cx} {pins : List (Addr × Obj)} {σ : L2.St} {H : Hp} {s : Shared} {G : Array GenState} (I : Inv X pins σ H s) (h : AllBare G) : Inv X pins σ H (wg s G) :=
  ⟨I.ok, I.os, h, I.base, I.loc, I.cell, I.free, I.freeC, I.pin, I.hok, I.len⟩

/-! ### the consumer's heap, and the generator's view of it: without its cells -/
def isC (c : Addr) : HO := .ext fun h => ∃ v, h.IsCell c v
theorem isC_ok {P : Program} {w : World} {H : Hp} {h : Heap} {c : Addr} (e : ∃ v, h.IsCell c v) : ObjOk P w H h c (isC c) := by
  refine ⟨e, ?_, fun h1 h2 ⟨v, o, ho, hd⟩ k => ⟨v, o, k o ho, hd⟩⟩
  obtain ⟨v, o, ho, _⟩ := e
  exact ⟨o, ho⟩
structure Vw (Cs : Addr → Prop) (Hr Hc : Hp) : Prop where
  on : ∀ b, Cs b → Hr b = none ∧ Hc b = some (isC b)
  off : ∀ b, ¬ Cs b → Hr b = Hc b
open Classical in
noncomputable def add (Cs : Addr → Prop) (H : Hp) : Hp := fun b => if Cs b then some (isC b) else H b
open Classical in
noncomputable def del (Cs : Addr → Prop) (H : Hp) : Hp := fun b => if Cs b then none else H b
/-- the consumer's heaps Hc, H1c and the generator's views Hr, H1 of them -/
def Lk (Hr H1 Hc H1c : Hp) : Prop := ∀ b o, Hc b = some o → (Hr b = some o ∧ ∀ u, H1 b = some u → H1c b = some u) ∨ H1c b = some o
section
variable {P : Program} {w : World} {Cs : Addr → Prop} {H Hr Hc H1 H1c : Hp} {h : Heap}
theorem vw_add (hn : ∀ b, Cs b → H b = none) : Vw Cs H (add Cs H) := ⟨fun b c => ⟨hn b c, by unfold add; rw [if_pos c]⟩, fun b c => by unfold add; rw [if_neg c]⟩
theorem vw_del (hn : ∀ b, Cs b → H b = some (isC b)) : Vw Cs (del Cs H) H := ⟨fun b c => ⟨by unfold del; rw [if_pos c], hn b c⟩, fun b c => by unfold del; rw [if_neg c]⟩
theorem Vw.no (v : Vw Cs Hr Hc) {b : Addr} {o : HO} (e : Hr b = some o) : ¬ Cs b := fun c => by rw [(v.on b c).1] at e; cases e
theorem Vw.no' (v : Vw Cs Hr Hc) {b : Addr} {o : HO} (e : Hc b = some o) (n : ∀ φ, o ≠ .ext φ) : ¬ Cs b := fun c => by rw [(v.on b c).2] at e; exact n _ (Option.some.inj e).symm
theorem Vw.none (v : Vw Cs Hr Hc) {b : Addr} (e : Hc b = none) : Hr b = none := by
  by_cases c : Cs b
  · exact (v.on b c).1
  · rw [v.off b c]; exact e
theorem Vw.up (v : Vw Cs Hr Hc) : Ex Hr Hc := fun b o e => by rw [← v.off b (v.no e)]; exact e
theorem Vw.ex (v : Vw Cs Hr Hc) (v1 : Vw Cs H1 H1c) (e : Ex Hr H1) : Ex Hc H1c := fun b o q => by
  by_cases c : Cs b
  · rw [(v.on b c).2] at q; rw [(v1.on b c).2]; exact q
  · rw [← v1.off b c]; exact e b o (by rw [v.off b c]; exact q)
theorem Vw.lk (v : Vw Cs Hr Hc) (v1 : Vw Cs H1 H1c) : Lk Hr H1 Hc H1c := fun b o q => by
  by_cases c : Cs b
  · rw [(v.on b c).2] at q
    exact .inr (by rw [(v1.on b c).2]; exact q)
  · exact .inl ⟨by rw [v.off b c]; exact q, fun u e => v1.up _ _ e⟩
theorem Vw.okUp (v : Vw Cs H Hc) (ok : HOk P w H h) (hc : ∀ b, Cs b → ∃ v, h.IsCell b v) : HOk P w Hc h := fun a o e => by
  by_cases c : Cs a
  · rw [(v.on a c).2] at e
    cases e
    exact isC_ok (hc a c)
  · rw [← v.off a c] at e
    exact (ok a o e).stay (fun _ _ _ q => q) (fun b q => v.up _ _ q) fun b xs q => v.up _ _ q
theorem Vw.okDown (v : Vw Cs H Hc) (ok : HOk P w Hc h) : HOk P w H h := fun a o e =>
  (ok a o (v.up _ _ e)).stay (fun _ _ _ q => q) (fun b q => by rw [v.off b (v.no' q fun φ z => nomatch z)]; exact q) fun b xs q => by rw [v.off b (v.no' q fun φ z => nomatch z)]; exact q
end

/-! ### a generator def's promise -/
/-- the context of its body -/
abbrev gcxY (P : Program) (w : World) (K : PySem.W.Frag) (mg : Str → Option Value) (base : Heap) (N : List Str) (qual : Str) (scope : Scope) (f : Addr) (cd : Value) (A : Around) (outer : List Env) (s : Shared) (H : Hp) (pn : List (Addr × Obj)) : Cx :=
  { cxOf (L2.CX P w) P w K mg base N qual scope f cd A outer s H E0 with pn := pn, xe := fun _ _ => False }
abbrev SpY := List V → Hp → (Nat → Hp → V → Hp → Hp → Prop) → (Nat → Hp → Hp → Prop) → Prop
/-- a generator that has not begun -/
def GMadeY (P : Program) (w : World) (K : PySem.W.Frag) (mg : Str → Option Value) (base : Heap) (k : Nat) (outer : List Env) (H : Hp) (s : Shared) (yl : Nat → Hp → V → Hp → Hp → Prop) (z : Nat → Hp → Hp → Prop) (u : Value) (s' : Shared) : Prop :=
  ∃ (a : Addr) (g : Nat) (c : Code) (N : List Str) (qual : Str) (scope : Scope) (f : Addr) (cd : Value) (go : Obj), u = .ref a ∧ s.heap.objs.size ≤ a ∧ (∀ h : Heap, h.get? a = some go → h.IsGen a g) ∧ s'.heap.get? a = some go ∧
    s'.gens[g]? = some (.fresh c) ∧ s'.os = s.os ∧ AllBare s'.gens ∧ s'.heap.NoLimit ∧ (∀ b o, s.heap.get? b = some o → s'.heap.get? b = some o) ∧ (∀ x c, (cellsFrom (s.heap.objs.size + 1) scope.names []).lookup x = some c → s.heap.objs.size ≤ c ∧ ∃ v, s'.heap.IsCell c v) ∧
    ∀ (A : Around) (C : CW) (s2 : Shared), Room k A → A.frames = some outer → (∀ b o, s'.heap.get? b = some o → s2.heap.get? b = some o) → s2.os = s.os → AllBare s2.gens → C 0 s2 H →
      (gcxY P w K mg base N qual scope f cd A outer s H [(a, go)]).Ok ∧ Seg (model P w) A (YR (gcxY P w K mg base N qual scope f cd A outer s H [(a, go)]) C z) (YP (gcxY P w K mg base N qual scope f cd A outer s H [(a, go)]) C yl) sizeLine s2 c ((model P w).den c) [] s2
structure GFnY (P : Program) (w : World) (K : PySem.W.Frag) (mg : Str → Option Value) (base : Heap) (k : Nat) (f : Addr) (fd : FuncData) (ps : List Str) (sp : SpY) : Prop where
  len : ∀ vs H yl z, sp vs H yl z → vs.length = ps.length
  run : ∀ (A : Around) (outer : List Env) (s : Shared) (H : Hp) (args : Args) (us : List Value) (vs : List V) (yl : Nat → Hp → V → Hp → Hp → Prop) (z : Nat → Hp → Hp → Prop), Room k A → Env0 P w K mg base A outer s H → BindsTo s fd args (ps.zip us) → Vals vs us → sp vs H yl z →
    codeAny (model P w) A (.call (.ref f) args) (fun r s' => match r with | .ok (.ret u) => GMadeY P w K mg base k outer H s yl z u s' | _ => False) s

/-! ### the consumer's heap behind a turn of the generator -/
theorem sync {Xc X : Cx} {pins ip : List (Addr × Obj)} {σc σ : L2.St} {Hr Hc H Hn : Hp} {Cs : Addr → Prop} {s₀ s : Shared} (Ic : Inv Xc pins σc Hc s₀) (Ig : Inv (gh X s₀ Hr) ip σ H s) (v0 : Vw Cs Hr Hc) (v1 : Vw Cs H Hn) (ho : X.outer = Xc.stack) (hex : X.ex = []) (hok : HOk Xc.prog Xc.w Hn s.heap)
    (b0 : Xc.s_0.heap.objs.size ≤ X.s_0.heap.objs.size) (b1 : Xc.env.locals < X.s_0.heap.objs.size) (b2 : ∀ x c, Xc.env.cells.lookup x = some c → c < X.s_0.heap.objs.size) (b3 : ∀ p ∈ Xc.pn ++ pins, p.1 < X.s_0.heap.objs.size) : Inv Xc pins σc Hn s := by
  have young : ∀ {b}, b ∈ (List.range s₀.heap.objs.size).filter (fun b => decide (X.s_0.heap.objs.size ≤ b)) → X.s_0.heap.objs.size ≤ b := fun h => of_decide_eq_true (List.mem_filter.mp h).2
  have old : ∀ {b o}, s₀.heap.get? b = some o → b ∉ (List.range s₀.heap.objs.size).filter (fun b => decide (X.s_0.heap.objs.size ≤ b)) → b < X.s_0.heap.objs.size := fun {b o} e h => by
    by_cases z : X.s_0.heap.objs.size ≤ b
    · exact (h (List.mem_filter.mpr ⟨List.mem_range.mpr (Heap.lt_size e), decide_eq_true z⟩)).elim
    · exact Nat.lt_of_not_le z
  have nx : ∀ b, b ∉ X.ex := fun b h => by rw [hex] at h; cases h
  refine Ic.call' (ch := (List.range s₀.heap.objs.size).filter fun b => decide (X.s_0.heap.objs.size ≤ b)) Ig.os ⟨fun b o e n hb hx => ?_, fun b o e n hb hx => ?_, fun b o e n hx => ?_, fun b o e hx => ?_, fun b xs q => v1.up _ _ (Ig.base.tups b xs (show Hr b = _ by rw [v0.off b (v0.no' q fun φ z => nomatch z)]; exact q)), fun b o u q => v1.up _ _ (Ig.base.frzs b o u (show Hr b = _ by rw [v0.off b (v0.no' q fun φ z => nomatch z)]; exact q)),
    fun b ps q => let ⟨more, e⟩ := Ig.base.tbls b ps (show Hr b = _ by rw [v0.off b (v0.no' q fun φ z => nomatch z)]; exact q); ⟨more, v1.up _ _ e⟩⟩ hok Ig.bare fun b hb => ?_
  · exact Ig.base.keep b o (cut_of (old e hx) e) (v0.none n) (by show b ∉ frs X.outer; rw [ho]; exact hb) (nx b)
  · exact Ig.base.slot b o (cut_of (old e hx) e) (v0.none n) (by show b ∈ frs X.outer; rw [ho]; exact hb) (nx b)
  · have nc : ¬ Cs b := fun c => by rw [(v0.on b c).2] at n; cases n
    rw [← v1.off b nc]
    exact Ig.base.free b o (cut_of (old e hx) e) (v0.none n) (nx b)
  · exact Ig.base.there b o (cut_of (old e hx) e) (nx b)
  · have y := young hb
    refine ⟨.inr (Nat.le_trans b0 y), Nat.ne_of_gt (Nat.lt_of_lt_of_le b1 y), fun x c e => Nat.ne_of_lt (Nat.lt_of_lt_of_le (b2 x c e) y), fun p hp => Nat.ne_of_lt (Nat.lt_of_lt_of_le (b3 p hp) y)⟩
/-- the generator's own things, pinned while it sleeps -/
def gpins (X : Cx) (ip : List (Addr × Obj)) (h : Heap) : List (Addr × Obj) := pinsAt (X.env.locals :: (X.pn ++ ip).map (·.1)) h
theorem gpins_ok {Xc X : Cx} {ip : List (Addr × Obj)} {σ : L2.St} {Hr H : Hp} {s₀ s : Shared} (Ig : Inv (gh X s₀ Hr) ip σ H s) (ok : X.Ok) (ho : X.outer = Xc.stack) (hs : Xc.stack = Xc.env :: Xc.outer) (hf : Xc.env.frame = some Xc.env.locals) (b1 : Xc.env.locals < X.s_0.heap.objs.size) :
    ∀ p ∈ gpins X ip s.heap, s.heap.get? p.1 = some p.2 ∧ H p.1 = none ∧ p.1 ≠ Xc.env.locals ∧ p.1 ∉ Xc.fs ∧ ∀ v, p.2.data ≠ .cell v := fun p hp => by
  obtain ⟨hm, e⟩ := of_pinsAt hp
  have sub : ∀ b ∈ Xc.fs, b ∈ X.fs := fun b hb => by
    show b ∈ frs X.outer
    rw [ho, hs]
    unfold frs
    rw [List.filterMap_cons, hf]
    exact List.mem_cons_of_mem _ hb
  have own : Xc.env.locals ∈ X.fs := by
    show _ ∈ frs X.outer
    rw [ho, hs]
    unfold frs
    rw [List.filterMap_cons, hf]
    exact List.mem_cons_self
  rcases List.mem_cons.mp hm with z | z
  · obtain ⟨m, ⟨o, es, ep, hos, hd, _⟩, _⟩ := Ig.loc
    have hos : s.heap.get? X.env.locals = some o := hos
    rw [← z, e] at hos; cases hos
    refine ⟨e, by rw [z]; exact Ig.free, by rw [z]; exact Nat.ne_of_gt (Nat.lt_of_lt_of_le b1 ok.above), fun hb => ?_, fun v q => by rw [hd] at q; cases q⟩
    have := frs_lt ok _ (sub _ hb)
    rw [z] at this
    exact absurd (Nat.lt_of_lt_of_le this ok.above) (Nat.lt_irrefl _)
  · obtain ⟨q, hq, eq⟩ := List.mem_map.mp z
    obtain ⟨h1, h2, h3, h4, h5⟩ := Ig.pin q hq
    have e2 : q.2 = p.2 := by
      rw [← eq, h1] at e
      exact Option.some.inj e
    rw [← e2, ← eq]
    exact ⟨h1, h2, fun y => h4 (y ▸ own), fun hb => h4 (sub _ hb), h5⟩

/-! ### the rule -/
abbrev TGY := L2.St → Hp → (Nat → Hp → V → Hp → Hp → Prop) → (Nat → Hp → Hp → Prop) → (Hp → Prop) → Prop
structure PGenY (X : Cx) (k : Nat) (e : Expr) (tg : TGY) : Prop where
  run : ∀ (pins : List (Addr × Obj)) (s : Shared) (σ : L2.St) (H : Hp) (yl : Nat → Hp → V → Hp → Hp → Prop) (z : Nat → Hp → Hp → Prop) (start : Hp → Prop), Inv X pins σ H s → tg σ H yl z start → wpAny (model X.prog X.w) X.A (eval e X.env)
    (fun u s' => ∃ H1 sc, Inv X pins σ H1 sc ∧ GMadeY X.prog X.w X.K X.mg X.base k X.stack H1 sc yl z u s' ∧ start H1) X.xe s
def tForY (tgY : TGY) (g : TG) (tb : TS) : TS := fun D σ H => ∃ W : Nat → L2.St → Hp → Prop,
  tgY σ H (fun i Hr x H1 K => Ex K H1 ∧ ∀ σ Hc H1c K', W i σ Hc → Ex H1 H1c → Lk Hr H1 Hc H1c → Ex K' H1c → (∀ b o, K' b = some o → K b = some o ∨ (H1 b = none ∧ ∃ φ, o = .ext φ)) →
      g x σ H1c fun σ2 H2 => tb { D with nx := fun σ3 H3 => W (i + 1) σ3 H3 ∧ Ex K' H3 ∧ Dom H1c H3, ct := fun σ3 H3 => W (i + 1) σ3 H3 ∧ Ex K' H3 ∧ Dom H1c H3, bk := D.nx } σ2 H2)
    (fun i Hr H1 => ∀ σ Hc H1c, W i σ Hc → Ex H1 H1c → Lk Hr H1 Hc H1c → D.nx σ H1c) (fun H1 => ∀ Hc, Ex H1 Hc → W 0 σ Hc)
theorem ps_forY {X : Cx} {k : Nat} {tg iter : Expr} {body : List Stmt} {tgY : TGY} {g : TG} {tb : TS} {pos : Pos} (hp : PassesOwn (model X.prog X.w) X.A X.env X.xe) (hx : XeOk X) (hc : X.calm = true) (hst : X.stack = X.env :: X.outer) (hfr : X.env.frame = some X.env.locals) (hr : Room (k + 1) X.A)
    (hi : PGenY X k iter tgY) (hg : PG X tg g) (hb : PSs X body tb) (hs : ∀ x, foldedSetIterable iter X.env x = pure x := by intro _; rfl) : PS X (.For tg iter body [] pos) (tForY tgY g tb) := by
  refine ⟨fun pins s σ H D I h => ?_⟩
  obtain ⟨W, h⟩ := h
  refine wpAny_For (thn (hi.run pins s σ H _ _ _ I h) fun u s1 h1 => ?_) hs
  obtain ⟨H1, sc, Isc, ⟨a, gn, c, N, qual, scope, f, cd, go, rfl, ha, hgo, hea, hgs, hos, hba, hl, hkp, hcell, wake⟩, w0⟩ := h1
  refine wpAny_pyIter_gen (hgo _ hea) ?_
  -- what is older than the generator
  have b0 := Isc.sz
  have b1 := Isc.lt
  have b2 : ∀ x c, X.env.cells.lookup x = some c → c < sc.heap.objs.size := fun x c e => by
    obtain ⟨v, q⟩ := Isc.cell x c e
    exact q.lt
  have b3 : ∀ p ∈ X.pn ++ pins, p.1 < sc.heap.objs.size := fun p hp => Heap.lt_size (Isc.pin p hp).1
  -- the generator's cells, tracked
  let Cs : Addr → Prop := fun b => ∃ x, (cellsFrom (sc.heap.objs.size + 1) scope.names []).lookup x = some b
  have hCs : ∀ b, Cs b → H1 b = none := fun b ⟨x, e⟩ => Isc.hok.fresh (hcell x b e).1
  have v1 : Vw Cs H1 (add Cs H1) := vw_add hCs
  have hcs : ∀ b, Cs b → ∃ v, s1.heap.IsCell b v := fun b ⟨x, e⟩ => (hcell x b e).2
  have I1 : Inv X pins σ (add Cs H1) s1 := Isc.call' (ch := []) hos ⟨fun b o e _ _ _ => hkp b o e, fun b o e _ _ _ => ⟨o.slots, hkp b o e⟩, fun b o e n _ => by
      have nc : ¬ Cs b := fun ⟨x, c⟩ => absurd (Nat.lt_of_lt_of_le (Heap.lt_size e) (hcell x b c).1) (Nat.lt_irrefl _)
      rw [← v1.off b nc]
      exact n, fun b o e _ => ⟨o, hkp b o e⟩, fun b xs e => v1.up _ _ e, fun b o u e => v1.up _ _ e, fun b ps e => ⟨#[], by rw [v1.up _ _ e]; simp⟩⟩ (v1.okUp (Isc.hok.kept hkp) hcs) hba fun b hb => by cases hb
  -- what holds at each waking
  let C : CW := fun i s H => s.heap.get? a = some go ∧ ∃ σ Hc, Inv X pins σ Hc s ∧ W i σ Hc ∧ Vw Cs H Hc
  have C0 : C 0 (s1.setGen gn .running) H1 := ⟨hea, σ, add Cs H1, Inv.gens (G := (s1.setGen gn .running).gens) I1 (allBare_setGen hba rfl), w0 _ v1.up, v1⟩
  obtain ⟨okX, seg⟩ := wake X.A.in1 C (s1.setGen gn .running) (Room.in1 hr) Isc.ok.frames (fun _ _ e => e) hos (allBare_setGen hba rfl) C0
  generalize eX : gcxY X.prog X.w X.K X.mg X.base N qual scope f cd X.A.in1 X.stack sc H1 [(a, go)] = Xg at okX seg
  have n0 : Xg.s_0.heap.objs.size = sc.heap.objs.size := by subst eX; rfl
  have ho : Xg.outer = X.stack := by subst eX; rfl
  have hex : Xg.ex = [] := by subst eX; rfl
  have hbs : Xg.base = X.base := by subst eX; rfl
  have hpn : Xg.pn = [(a, go)] := by subst eX; rfl
  have hcl : ∀ b, Cs b ↔ ∃ x, Xg.env.cells.lookup x = some b := fun b => by subst eX; exact Iff.rfl
  have hok : ∀ {s₀ : Shared} {Hr H : Hp} {ip : List (Addr × Obj)} {σ : L2.St} {s : Shared}, Inv (gh Xg s₀ Hr) ip σ H s → HOk X.prog X.w H s.heap := fun I => by
    have q := I.hok
    subst eX
    exact q
  have hhk : ∀ {H : Hp} {h : Heap}, HOk X.prog X.w H h → HOk Xg.prog Xg.w H h := fun q => by subst eX; exact q
  have b0' : X.s_0.heap.objs.size ≤ Xg.s_0.heap.objs.size := by rw [n0]; exact b0
  have b1' : X.env.locals < Xg.s_0.heap.objs.size := by rw [n0]; exact b1
  have b2' : ∀ x c, X.env.cells.lookup x = some c → c < Xg.s_0.heap.objs.size := fun x c e => by rw [n0]; exact b2 x c e
  have b3' : ∀ p ∈ X.pn ++ pins, p.1 < Xg.s_0.heap.objs.size := fun p hp => by rw [n0]; exact b3 p hp
  let Zn : Nat → Hp → Hp → Prop := fun i Hr H1 => ∀ σ Hc H1c, W i σ Hc → Ex H1 H1c → Lk Hr H1 Hc H1c → D.nx σ H1c
  let Yn : Nat → Hp → V → Hp → Hp → Prop := fun i Hr x H1 K => Ex K H1 ∧ ∀ σ Hc H1c K', W i σ Hc → Ex H1 H1c → Lk Hr H1 Hc H1c → Ex K' H1c → (∀ b o, K' b = some o → K b = some o ∨ (H1 b = none ∧ ∃ φ, o = .ext φ)) →
      g x σ H1c fun σ2 H2 => tb { D with nx := fun σ3 H3 => W (i + 1) σ3 H3 ∧ Ex K' H3 ∧ Dom H1c H3, ct := fun σ3 H3 => W (i + 1) σ3 H3 ∧ Ex K' H3 ∧ Dom H1c H3, bk := D.nx } σ2 H2
  refine codeAny_forLoop_any (fun m s' => ∃ i σ' H' gs, Inv X pins σ' H' s' ∧ W i σ' H' ∧ s'.heap.get? a = some go ∧ s'.gens[gn]? = some gs ∧
    gs.Goes (model X.prog X.w) X.A.in1 (YR Xg C Zn) (YP Xg C Yn) m (.send .none) (s'.setGen gn .running)) ?_ sizeLine
    ⟨0, σ, add Cs H1, _, I1, w0 _ v1.up, hea, hgs, rfl, seg⟩
  rintro m s3 ⟨i3, σ3, H3, gs, I3, w3, ea3, eg3, go3⟩
  have hgl : gn < s3.gens.size := (Array.getElem?_eq_some_iff.mp eg3).1
  have hdp : X.A.depth < recursionLimit := by have := hr.dp; omega
  refine wpAny_gsz (n := gn + 1) hgl (next_genG (F := fun n s₀ s => YF Xg C Zn n s₀ s) (Er := fun _ _ => False) (n := m) (I3.ok.hd hc) I3.nolimit hdp (hgo _ ea3) eg3 go3 (fun v s₁ gs' hbare hv hsz => ?_) (fun s₁ hf h' hk hsz => ?_) fun _ _ q => q.elim)
  · -- an item
    obtain ⟨i, x, ip, Hr, σg, H4, Kp, hn, rv, Ig, ⟨ea4, σ4, Hc, I4, w4, vc⟩, ⟨hKp, hy⟩, hw⟩ := hv
    have hn4 : ∀ b, Cs b → H4 b = none := fun b c => let ⟨x, e⟩ := (hcl b).mp c; Ig.freeC x b e
    have hc4 : ∀ b, Cs b → ∃ v, s₁.heap.IsCell b v := fun b c => let ⟨x, e⟩ := (hcl b).mp c; Ig.cell x b e
    have v4 : Vw Cs H4 (add Cs H4) := vw_add hn4
    have hKn : ∀ b, Cs b → Kp b = none := fun b c => by
      cases q : Kp b with
      | none => rfl
      | some o => have := hKp b o q; rw [hn4 b c] at this; cases this
    have vK : Vw Cs Kp (add Cs Kp) := vw_add hKn
    have Is : Inv X pins σ4 (add Cs H4) s₁ := sync I4 Ig vc v4 ho hex (v4.okUp (hok Ig) hc4) b0' b1' b2' b3'
    have ea5 : s₁.heap.get? a = some go := (Ig.pin (a, go) (List.mem_append_left _ (by show _ ∈ Xg.pn; rw [hpn]; exact List.mem_singleton.mpr rfl))).1
    have Ip : Inv X (pins ++ gpins Xg ip s₁.heap) σ4 (add Cs H4) s₁ := Is.pins_of fun p hp => (List.mem_append.mp hp).elim (fun z => Is.pin p (List.mem_append_right _ z)) fun z => by
      obtain ⟨g1, g2, g3, g4, g5⟩ := gpins_ok Ig okX ho hst hfr b1' p z
      refine ⟨g1, ?_, g3, g4, g5⟩
      rw [← v4.off p.1 fun c => ?_]
      · exact g2
      · obtain ⟨v, o, e1, e2⟩ := hc4 _ c
        rw [g1] at e1
        cases e1
        exact g5 _ e2
    have Ip' : Inv X (pins ++ gpins Xg ip s₁.heap) σ4 (add Cs H4) (s₁.setGen gn gs') := Inv.gens (G := (s₁.setGen gn gs').gens) Ip (allBare_setGen Ig.bare hbare)
    obtain ⟨go1, nm, qn, ho1, hc1, hd1, hs1⟩ := hgo _ ea5
    refine wpAny_passesOwn hp (go_of (o := go1) (n := "generator") ho1 hc1 hd1 (by decide) ?_)
    -- the way back
    have mem : ∀ {b : Addr}, Own Xg ip b → b ∈ Xg.env.locals :: (Xg.pn ++ ip).map (·.1) := fun {b} h => by
      rcases h with h | ⟨q, hq, h⟩
      · rw [h]; exact List.mem_cons_self
      · exact List.mem_cons_of_mem _ (List.mem_map.mpr ⟨q, hq, h⟩)
    have there : ∀ {b : Addr}, Own Xg ip b → ∃ o, s₁.heap.get? b = some o := fun {b} h => by
      rcases h with h | ⟨q, hq, h⟩
      · obtain ⟨_, ⟨o, _, _, e, _⟩, _⟩ := Ig.loc
        exact ⟨o, by rw [h]; exact e⟩
      · exact ⟨q.2, by rw [← h]; exact (Ig.pin q hq).1⟩
    have finN : ∀ {σ7 : L2.St} {H7 : Hp} {s7 : Shared}, Inv X (pins ++ gpins Xg ip s₁.heap) σ7 H7 s7 → (W (i + 1) σ7 H7 ∧ Ex (add Cs Kp) H7 ∧ Dom (add Cs H4) H7) → (Susp gs' → s7.gens[gn]? = some gs') → ∃ m', m' < m ∧ ∃ i σ' H' gs, Inv X pins σ' H' s7 ∧ W i σ' H' ∧ s7.heap.get? a = some go ∧ s7.gens[gn]? = some gs ∧
        gs.Goes (model X.prog X.w) X.A.in1 (YR Xg C Zn) (YP Xg C Yn) m' (.send .none) (s7.setGen gn .running) := fun {σ7 H7 s7} I7 hW hS => by
      have pinned : ∀ {b o}, Own Xg ip b → s₁.heap.get? b = some o → s7.heap.get? b = some o ∧ H7 b = none := fun {b o} h e => by
        obtain ⟨q1, q2, _⟩ := I7.pin (b, o) (List.mem_append_right _ (List.mem_append_right _ (mem_pinsAt (mem h) e)))
        exact ⟨q1, q2⟩
      have h7c : ∀ b, Cs b → H7 b = some (isC b) := fun b c => hW.2.1 b _ (vK.on b c).2
      have v7 : Vw Cs (del Cs H7) H7 := vw_del h7c
      have hwk : Wk Xg ip s₁ (s7.setGen gn .running) (del Cs H7) := by
        refine ⟨allBare_setGen I7.bare rfl, fun b o e => let ⟨q1, q2⟩ := I7.bs b o (by rw [← hbs]; exact e); ⟨q1, v7.none q2⟩, ?_, fun b hb => v7.none (I7.stkFree b (by rw [← ho]; exact hb)), fun b o h e => (pinned h e).1, fun b h => ?_, fun x c e => ?_, hhk (v7.okDown I7.hok)⟩
        · rw [hbs, ho]; exact I7.stack
        · obtain ⟨o, e⟩ := there h
          exact v7.none (pinned h e).2
        · have cc : Cs c := (hcl c).mpr ⟨x, e⟩
          have q : ObjOk X.prog X.w H7 s7.heap c (isC c) := I7.hok c _ (h7c c cc)
          exact ⟨q.1, (v7.on c cc).1⟩
      have oa : Own Xg ip a := .inr ⟨(a, go), List.mem_append_left _ (by rw [hpn]; exact List.mem_singleton.mpr rfl), rfl⟩
      have ea7 := (pinned oa ea5).1
      have I7u : Inv X pins σ7 H7 s7 := I7.unpinned
      have hK7 : Ex Kp (del Cs H7) := fun b o e => by
        have nc : ¬ Cs b := fun c => by rw [hKn b c] at e; cases e
        rw [v7.off b nc]
        exact hW.2.1 b o (vK.up _ _ e)
      have hD7 : Dom H4 (del Cs H7) := fun b e => by
        have nc : ¬ Cs b := fun c => e (hn4 b c)
        rw [v7.off b nc]
        exact hW.2.2 b (by rw [← v4.off b nc]; exact e)
      obtain ⟨k1, k2⟩ := hw (s7.setGen gn .running) (del Cs H7) hwk ⟨ea7, σ7, H7, Inv.gens (G := (s7.setGen gn .running).gens) I7u (allBare_setGen I7.bare rfl), hW.1, v7⟩ hK7 hD7
      cases m with
      | zero => exact k1.elim
      | succ m =>
        have sus : Susp gs' := by
          cases gs' with
          | fresh c' => exact absurd k2.1 (by intro q; injection q with q; cases q)
          | suspended _ _ _ _ _ _ => trivial
          | running => exact k1.elim
          | finished => exact k1.elim
        exact ⟨m, Nat.lt_succ_self m, i + 1, σ7, H7, gs', I7u, hW.1, ea7, hS sus, k1⟩
    have body : ∀ (s6 : Shared) (σ6 : L2.St) (H6 : Hp), Inv X (pins ++ gpins Xg ip s₁.heap) σ6 H6 s6 → (Susp gs' → s6.gens[gn]? = some gs') → tb { D with nx := fun σ3 H3 => W (i + 1) σ3 H3 ∧ Ex (add Cs Kp) H3 ∧ Dom (add Cs H4) H3, ct := fun σ3 H3 => W (i + 1) σ3 H3 ∧ Ex (add Cs Kp) H3 ∧ Dom (add Cs H4) H3, bk := D.nx } σ6 H6 →
        wpAny (model X.prog X.w) X.A (execs body X.env) (fun fl s7 => SP X (pins ++ gpins Xg ip s₁.heap) { D with nx := fun σ3 H3 => W (i + 1) σ3 H3 ∧ Ex (add Cs Kp) H3 ∧ Dom (add Cs H4) H3, ct := fun σ3 H3 => W (i + 1) σ3 H3 ∧ Ex (add Cs Kp) H3 ∧ Dom (add Cs H4) H3, bk := D.nx } fl s7 ∧ (Susp gs' → s7.gens[gn]? = some gs')) X.xe s6 := fun s6 σ6 H6 I6 hS q6 =>
      wpAny_sleep (wpAny_mono (hb.run _ (wg s6 (s6.gens.map blank)) σ6 H6 _ (Inv.gens I6 (allBare_blank I6.bare)) q6) (fun fl s7 h7 G2 gr2 ks2 => by
        refine ⟨?_, fun su => ks2 gn gs' (hS su) su⟩
        cases fl with
        | next => obtain ⟨σ7, H7, I7, q7⟩ := h7; exact ⟨σ7, H7, Inv.gens I7 (gr2.bare I7.bare), q7⟩
        | cont => obtain ⟨σ7, H7, I7, q7⟩ := h7; exact ⟨σ7, H7, Inv.gens I7 (gr2.bare I7.bare), q7⟩
        | brk => obtain ⟨σ7, H7, I7, q7⟩ := h7; exact ⟨σ7, H7, Inv.gens I7 (gr2.bare I7.bare), q7⟩
        | ret v => obtain ⟨x7, σ7, H7, I7, r7, q7⟩ := h7; exact ⟨x7, σ7, H7, Inv.gens I7 (gr2.bare I7.bare), r7, q7⟩) fun e s' hxe G1 gr _ => hx e s' G1 gr hxe)
    have hKd : ∀ b o, add Cs Kp b = some o → Kp b = some o ∨ (H4 b = none ∧ ∃ φ, o = .ext φ) := fun b o e => by
      by_cases c : Cs b
      · rw [(vK.on b c).2] at e
        exact .inr ⟨hn4 b c, _, (Option.some.inj e).symm⟩
      · rw [← vK.off b c] at e
        exact .inl e
    have hat : (s₁.setGen gn gs').gens[gn]? = some gs' := setGen_at (by rw [setGen_size] at hsz; exact hsz)
    refine wpAny_passesOwn hp (wpAny_sleep (wpAny_mono (hg.run _ (wg (s₁.setGen gn gs') ((s₁.setGen gn gs').gens.map blank)) σ4 (add Cs H4) x v _ (Inv.gens Ip' (allBare_blank Ip'.bare)) rv (hy σ4 Hc (add Cs H4) (add Cs Kp) w4 v4.up (vc.lk v4) (vK.ex v4 hKp) hKd)) (fun _ s6 h6 G1 gr ks => ?_) fun e s' hxe G1 gr _ => hx e s' G1 gr hxe))
    obtain ⟨σ6, H6, I6, q6⟩ := h6
    refine wpAny_passesOwn hp (wpAny_mono (body (wg s6 G1) σ6 H6 (Inv.gens I6 (gr.bare I6.bare)) (fun su => ks gn gs' hat su) q6) (fun fl s7 ⟨h7, hS⟩ => ?_) fun _ _ q => q)
    cases fl with
    | next => obtain ⟨σ7, H7, I7, q7⟩ := h7; exact finN I7 q7 hS
    | cont => obtain ⟨σ7, H7, I7, q7⟩ := h7; exact finN I7 q7 hS
    | brk => obtain ⟨σ7, H7, I7, q7⟩ := h7; exact ⟨σ7, H7, I7.unpinned, q7⟩
    | ret v => obtain ⟨x7, σ7, H7, I7, r7, q7⟩ := h7; exact ⟨x7, σ7, H7, I7.unpinned, r7, q7⟩
  · -- the end
    obtain ⟨i, Hr, ip, σg, H4, hn, Ig, ⟨ea4, σ4, Hc, I4, w4, vc⟩, hz⟩ := hf
    have hn4 : ∀ b, Cs b → H4 b = none := fun b c => let ⟨x, e⟩ := (hcl b).mp c; Ig.freeC x b e
    have hc4 : ∀ b, Cs b → ∃ v, s₁.heap.IsCell b v := fun b c => let ⟨x, e⟩ := (hcl b).mp c; Ig.cell x b e
    have v4 : Vw Cs H4 (add Cs H4) := vw_add hn4
    have Is : Inv X pins σ4 (add Cs H4) s₁ := sync I4 Ig vc v4 ho hex (v4.okUp (hok Ig) hc4) b0' b1' b2' b3'
    have Ie : Inv X pins σ4 (add Cs H4) { s₁.setGen gn .finished with heap := h' } := Is.call' (ch := []) rfl (Un.kept hk) (Is.hok.kept hk) (allBare_setGen Is.bare rfl) fun b hb => by cases hb
    exact wpAny_execs_nil ⟨σ4, add Cs H4, Ie, hz σ4 Hc _ w4 v4.up (vc.lk v4)⟩
end SL

set_option Elab.async false
set_option linter.all false
set_option maxRecDepth 100000
set_option maxHeartbeats 4000000
/-! A generator def's promise for any consumer, by its body; its calls. -/
namespace SL
open PySem PySem.Spec PyProof.Rows L2 GenW BC Evl

/-- what is wanted of exceptions plays no part in the invariant -/
theorem reXe {X : Cx} {xe : Value → Shared → Prop} {pins : List (Addr × Obj)} {σ : L2.St} {H : Hp} {s : Shared} (I : Inv X pins σ H s) : Inv { X with xe := xe } pins σ H s :=
  ⟨⟨I.ok.mod, I.ok.kind, I.ok.glob, I.ok.blt, I.ok.above, I.ok.inj, I.ok.has, I.ok.cab, I.ok.hd, I.ok.frames, I.ok.stk, I.ok.exf, I.ok.bs, I.ok.bsz, I.ok.noex, I.ok.exfs, I.ok.funs, I.ok.frf⟩,
    I.os, I.bare, I.base, I.loc, I.cell, I.free, I.freeC, I.pin, I.hok, I.len⟩
/-- its own present as its entry -/
theorem rebase {X : Cx} {ip : List (Addr × Obj)} {σ : L2.St} {H : Hp} {s : Shared} (I : Inv X ip σ H s) (hf : ∀ b ∈ X.fs, H b = none) : Inv (gh X s H) ip σ H s where
  ok := gh_ok I.ok (fun b o e => I.bs b o e) I.funs hf
  os := rfl
  bare := I.bare
  base := Un.kept fun b u q => (of_cut q).2
  loc := I.loc
  cell := I.cell
  free := I.free
  freeC := I.freeC
  pin := I.pin
  hok := I.hok
  len := I.len
section
variable {P : Program} {w : World} {K : PySem.W.Frag} {mg : Str → Option Value} {base : Heap} {k : Nat}
theorem gfnY_of {f : Addr} {name qual : Str} {params : Arguments} {body : List Stmt} {scope : Scope} {dV kV doc pm cdv ct oc : Value} {an od : Option Addr} {osl : Array (Option Value)} {N ps : List Str} {sp : SpY}
    (lk : K.lookup f = some ⟨oc, od, .func (PySem.W.fnOf name qual params body scope dV kV doc pm an cdv ct), osl⟩) (hcd : PySem.W.codeIn K cdv qual = true) (S : GScope N ps scope)
    (len : ∀ vs H yl z, sp vs H yl z → vs.length = ps.length)
    (hbody : ∀ (A : Around) (outer : List Env) (s : Shared) (H : Hp) (vs : List V) (yl : Nat → Hp → V → Hp → Hp → Prop) (z : Nat → Hp → Hp → Prop) (pn : List (Addr × Obj)), Room k (A.deeper (envOfC qual scope s.heap.objs.size f cdv)) → sp vs H yl z →
      ∃ t, YSs (gcxY P w K mg base N qual scope f cdv A outer s H pn) body t ∧ t { yl := yl, nx := fun i Hr _ H' => z i Hr H', rt := fun i Hr v H' => v = .non ∧ z i Hr H' } 0 H (start N vs) H) :
    GFnY P w K mg base (k + 1) f (PySem.W.fnOf name qual params body scope dV kV doc pm an cdv ct) ps sp := by
  refine ⟨len, fun A outer s H args us vs yl z hr e0 hb r hsp => ?_⟩
  have hl := len _ _ _ _ hsp
  have kinS : K.In s.heap := e0.mod.kin.keeps (fun b o e => (e0.bs b o e).1)
  have limS : s.heap.NoLimit := e0.mod.nolimit.keeps (fun b o e => (e0.bs b o e).1)
  have kinds : ∀ y ∈ ps.zip us, scope.names.lookup y.1 = some .local ∨ (scope.names.lookup y.1 = some .cell ∧ ((cellsFrom (s.heap.objs.size + 1) scope.names []).lookup y.1).isSome = true) := by
    rintro ⟨n, v⟩ hy
    have hn := (List.of_mem_zip hy).1
    rcases S.par n hn with q | q
    · exact Or.inl q
    · exact Or.inr ⟨q, PySem.W.cellsFrom_some _ _ _ (Or.inl q)⟩
  refine codeAny_call_generator hr.depth (kinS _ _ lk) rfl S.co S.gen rfl (PySem.W.codeRec_of kinS hcd) (hb _ _ _ _ ?_)
  refine wpAny_newFunctionEnv_cells S.kind kinds (fun env he s1 x => ?_)
  subst he
  have x0 := x
  refine ⟨limS.keeps x.toInCall.keep, ?_⟩
  have kp1 : ∀ b o, s.heap.get? b = some o → s1.heap.get? b = some o := x.toInCall.keep
  obtain ⟨h1, tk, es1, _⟩ := x.done
  have os1 : s1.os = s.os := by rw [es1]
  have gen1 : s1.gens = s.gens := by rw [es1]
  have lt1 : s.heap.objs.size < s1.heap.objs.size := x.toInCall.ns.lt
  have bare1 : AllBare s1.gens := by rw [gen1]; exact e0.bare
  have main : ∀ (go : Obj) (nm qn : Value) (tk2 : Nat), go.cls = .type "generator" → go.data = .fields #[.int s1.gens.size 0, nm, qn] → go.slots = #[] → (∀ h : Heap, (h.push go).get? h.objs.size = some go) →
      GMadeY P w K mg base (k + 1) outer H s yl z (.ref s1.heap.objs.size) { s1 with gens := s1.gens.push (.fresh (.func body (envOfC qual scope s.heap.objs.size f cdv))), toks := tk2, heap := s1.heap.push go } := by
    intro go nm qn tk2 c1 c2 c3 c4
    have old : ∀ b o, s1.heap.get? b = some o → (s1.heap.push go).get? b = some o := fun b o e => Heap.get?_push_of_some _ e
    have bare2 : AllBare (s1.gens.push (.fresh (.func body (envOfC qual scope s.heap.objs.size f cdv)))) := AllBare.push bare1 rfl
    refine ⟨s1.heap.objs.size, s1.gens.size, _, N, qual, scope, f, cdv, go, rfl, Nat.le_of_lt lt1, fun h e => ⟨go, nm, qn, e, c1, c2, c3⟩, c4 _, Array.getElem?_push_size .., os1, bare2, (limS.keeps kp1).keeps old, fun b o e => old b o (kp1 b o e), fun x c e => ?_, ?_⟩
    · obtain ⟨ob, e1, e2⟩ := x0.cell x c e
      exact ⟨Nat.le_of_lt (x0.above x c (PySem.W.mem_lookup e)), _, ob, old _ _ e1, e2⟩
    intro Aw C s2 hrw hfr kp2 hos hba hC
    have e1 : Env0 P w K mg base Aw outer s H := ⟨hfr, e0.mod, e0.bs, e0.bsz, e0.funs, e0.frf, e0.hok, e0.bare⟩
    have I1 : Inv (gcxOf P w K mg base N qual scope f cdv Aw outer s H E0 []) [] (start N vs) H s1 := inv_startG S hrw.hd e1 hl r x
    have I2 : Inv (gcxOf P w K mg base N qual scope f cdv Aw outer s H E0 []) [] (start N vs) H s2 := by
      have all : ∀ b o, s1.heap.get? b = some o → s2.heap.get? b = some o := fun b o e => kp2 b o (old b o e)
      exact I1.call' (ch := []) (hos.trans os1.symm) (Un.kept all) (I1.hok.kept all) hba (fun b hb => by cases hb)
    have hgo : s2.heap.get? s1.heap.objs.size = some go := kp2 _ _ (c4 _)
    have I3 : Inv (gcxOf P w K mg base N qual scope f cdv Aw outer s H E0 [(s1.heap.objs.size, go)]) [] (start N vs) H s2 := Inv.pinnedG I2 (fun p hp => by
      have hp' : p = (s1.heap.objs.size, go) := by
        rcases List.mem_append.mp hp with q | q
        · exact List.mem_singleton.mp q
        · cases q
      subst hp'
      exact ⟨hgo, I1.hok.fresh (Nat.le_refl _), Nat.ne_of_gt lt1, I1.nofs (Nat.le_refl _), fun v q => by rw [c2] at q; cases q⟩)
    have I4 : Inv (gcxY P w K mg base N qual scope f cdv Aw outer s H [(s1.heap.objs.size, go)]) [] (start N vs) H s2 := reXe I3
    have I5 := rebase I4 e0.frf
    refine ⟨I4.ok, ?_⟩
    obtain ⟨t, ht, hq⟩ := hbody Aw outer s H vs yl z [(s1.heap.objs.size, go)] (hrw.deeper _) hsp
    refine seg_func ?_
    refine ht.run Aw [] C _ sizeLine 0 s2 H _ [] _ _ id id s2 (start N vs) H _ ⟨I4.ok, fun _ _ q => q, over_func, rfl, rfl, rfl⟩ (Nat.add_zero _) (fun n i s₀ Hr s' fl hn hC' hs => ?_) I5 hC hq
    cases fl with
    | brk => obtain ⟨_, _, _, q⟩ := hs; exact False.elim q
    | cont => obtain ⟨_, _, _, q⟩ := hs; exact False.elim q
    | next =>
      obtain ⟨σ', H', I', q⟩ := hs
      exact seg_end (.ok (.ret .none)) (.inl ⟨.inl rfl, i, Hr, [], σ', H', hn, I', hC', q⟩)
    | ret u =>
      obtain ⟨v, σ', H', I', rv, ev, q⟩ := hs
      subst ev
      obtain rfl : u = Value.none := rv
      exact seg_end (.ok (.ret .none)) (.inl ⟨.inl rfl, i, Hr, [], σ', H', hn, I', hC', q⟩)
  exact main _ _ _ _ rfl rfl rfl (fun h => Heap.get?_push_size _ rfl)

theorem Fun.yok {x qual : Str} {st : Stmt} {f : Addr} {fd : FuncData} {N ps : List Str} {sp : SpY} (F : Fun K x qual st f fd) (S : GScope N ps (defScope st)) (len : ∀ vs H yl z, sp vs H yl z → vs.length = ps.length)
    (hbody : ∀ (cdv : Value) (A : Around) (outer : List Env) (s : Shared) (H : Hp) (vs : List V) (yl : Nat → Hp → V → Hp → Hp → Prop) (z : Nat → Hp → Hp → Prop) (pn : List (Addr × Obj)), Room k (A.deeper (envOfC qual (defScope st) s.heap.objs.size f cdv)) → sp vs H yl z →
      ∃ t, YSs (gcxY P w K mg base N qual (defScope st) f cdv A outer s H pn) (defBody st) t ∧ t { yl := yl, nx := fun i Hr _ H' => z i Hr H', rt := fun i Hr v H' => v = .non ∧ z i Hr H' } 0 H (start N vs) H) : GFnY P w K mg base (k + 1) f fd ps sp := by
  obtain ⟨oc, od, kV, doc, pm, an, cdv, ct, osl, rfl, lk, hcd⟩ := F.ex
  exact gfnY_of lk hcd S len (fun A outer s H vs yl z pn hr hsp => hbody cdv A outer s H vs yl z pn hr hsp)
end
section
variable {X : Cx} {k : Nat} {f : Addr} {fd : FuncData} {ps ks : List Str} {sp : SpY} {dvs : List V} {ds : List Value} {x : Str} {p pos : Pos}
def tCallY (sp : SpY) (dvs : List V) (t : TA) : TGY := fun σ H yl z st => t σ H fun vs H1 => sp (vs ++ dvs) H1 yl z ∧ st H1
theorem pgy_call {e : Expr} {es : List Expr} {t : TA} (F : GFnY X.prog X.w X.K X.mg X.base k f fd ps sp) (hr : Room k X.A) (hg : Gl X x) (hm : X.mg x = some (.ref f)) (hk : PySem.W.keepIn X.K (.ref f) = true) (hb : Binds X.K fd ps ds) (hd : Vals dvs ds)
    (ha : PA X (e :: es) t) (hdb : (x == ("__debug__" : Str)) = false := by decide) (he : starEach (e :: es) X.env = (false, eval e X.env) :: starEach es X.env := by rfl) (hpl : (backTo pos (starEach es X.env)).any (·.1) = false := by rfl) :
    PGenY X k (.Call (.Name x p) (e :: es) [] pos) (tCallY sp dvs t) := by
  refine ⟨fun pins s σ H yl z start I h => ?_⟩
  refine wpAny_Call_Name_kw (ld_glob I hg hm ?_ hdb)
  refine PySem.W.callWith_K (h₀ := X.base) I.ok.mod.kin hk (thn (ha.run pos pins s σ H _ I h) (fun us s1 hh => ?_)) he hpl
  obtain ⟨vs, H1, I1, r, q, q0⟩ := hh
  refine ⟨I1.kIn, ?_⟩
  have r2 : Vals (vs ++ dvs) (us ++ ds) := Vals.append r hd
  have sz : (us ++ ds).length = ps.length := by rw [← r2.length]; exact F.len _ _ _ _ q
  refine wpAny_call (codeAny_mono (F.run X.A X.stack s1 H1 ⟨us, []⟩ (us ++ ds) (vs ++ dvs) yl z hr I1.env0 (hb s1 us I1.kIn sz) r2 q) (fun r s' hq => ?_))
  cases r with
  | error e => exact False.elim hq
  | ok fl => cases fl with
    | ret u => exact ⟨H1, s1, I1, hq, q0⟩
    | next => exact False.elim hq
    | brk => exact False.elim hq
    | cont => exact False.elim hq
/-- g(name = e, ..): keywords alone -/
def tCallYK (sp : SpY) (gV : List V → List V → List V) (tk : TA) : TGY := fun σ H yl z st => tk σ H fun zs H1 => sp (gV [] zs) H1 yl z ∧ st H1
theorem pgy_callK {kws : List Keyword} {tk : TA} {g : List Value → List Value → List Value} {gV : List V → List V → List V} (F : GFnY X.prog X.w X.K X.mg X.base k f fd ps sp) (hr : Room k X.A) (hg : Gl X x) (hm : X.mg x = some (.ref f)) (hk : PySem.W.keepIn X.K (.ref f) = true) (hb : KBinds X.K fd ps ks g gV)
    (hkw : PK X kws tk) (hall : (backToKw pos (keywordEach kws X.env)).all (·.1.isSome) = true := by rfl) (hks : (backToKw pos (keywordEach kws X.env)).filterMap (·.1) = ks := by rfl)
    (hdb : (x == ("__debug__" : Str)) = false := by decide)
    (hpl : ((backTo pos (starEach [] X.env)).any (·.1) || (backToKw pos (keywordEach kws X.env)).any (·.1.isNone)) = false := by rfl) :
    PGenY X k (.Call (.Name x p) [] kws pos) (tCallYK sp gV tk) := by
  refine ⟨fun pins s σ H yl z start I h => ?_⟩
  refine wpAny_Call_Name_kw (ld_glob I hg hm ?_ hdb)
  refine PySem.W.callWith_KW0 (h₀ := X.base) I.ok.mod.kin hk hall (thn (hkw.run pos pins s σ H _ I h) (fun ws s2 hh => ?_)) hpl
  obtain ⟨zs, H2, I2, rz, q, q0⟩ := hh
  refine ⟨I2.kIn, ?_⟩
  rw [hks]
  have r2 := hb.rel (us := []) (vs := []) .nil rz
  have sz : (g [] ws).length = ps.length := by rw [← r2.length]; exact F.len _ _ _ _ q
  refine wpAny_call (codeAny_mono (F.run X.A X.stack s2 H2 ⟨[], ks.zip ws⟩ (g [] ws) (gV [] zs) yl z hr I2.env0 (hb.to s2 [] ws I2.kIn sz) r2 q) (fun r s' hq => ?_))
  cases r with
  | error e => exact False.elim hq
  | ok fl => cases fl with
    | ret u => exact ⟨H2, s2, I2, hq, q0⟩
    | next => exact False.elim hq
    | brk => exact False.elim hq
    | cont => exact False.elim hq
end
/-! ### the part of a heap that must stand -/
def part (L : List Addr) (H : Hp) : Hp := fun b => if b ∈ L then H b else none
theorem part_ex {L : List Addr} {H : Hp} : Ex (part L H) H := fun b o h => by
  unfold part at h
  by_cases z : b ∈ L
  · rw [if_pos z] at h; exact h
  · rw [if_neg z] at h; cases h
theorem part_at {L : List Addr} {H : Hp} {b : Addr} {o : HO} (m : b ∈ L) (h : H b = some o) : part L H b = some o := by
  unfold part
  rw [if_pos m]; exact h
theorem of_part {L : List Addr} {H : Hp} {b : Addr} {o : HO} (h : part L H b = some o) : b ∈ L ∧ H b = some o := by
  unfold part at h
  by_cases z : b ∈ L
  · rw [if_pos z] at h; exact ⟨z, h⟩
  · rw [if_neg z] at h; cases h
/-! ### readings -/
def LoopY (J : It) (g : TG) (tb : TY) (D : YE) (i : Nat) (Hr : Hp) (σ : L2.St) (H1 : Hp) : Prop := ∃ W : Nat → Nat → Nat → Hp → L2.St → Hp → Prop, (∃ m, W 0 m i Hr σ H1) ∧ ∀ j m i Hr σ H, W j m i Hr σ H →
  (J.stop j H ∧ D.nx i Hr σ H) ∨ (J.go j H ∧ ∃ N : Nat → Hp → L2.St → Hp → Prop, (∀ i' Hr' σ' H', N i' Hr' σ' H' → ∃ m', m' < m ∧ W (j + 1) m' i' Hr' σ' H') ∧ ∀ x H', J.yld j H x H' → g x σ H' fun σ2 H2 => tb { D with nx := N, ct := N, bk := D.nx } i Hr σ2 H2)
section
variable {i : Nat} {Hr : Hp} {σ : L2.St} {H : Hp} {Q : VK} {D : YE} {Dp : Ends} {yl : Nat → Hp → V → Hp → Hp → Prop} {z : Nat → Hp → Hp → Prop} {st : Hp → Prop}
theorem x_yfor {wi : TI} {g : TG} {tb : TY} : tYFor wi g tb D i Hr σ H = wi σ H fun J H1 => LoopY J g tb D i Hr σ H1 := rfl
theorem x_yplain {t : TS} : tYPlain t D i Hr σ H = t { nx := D.nx i Hr, rt := D.rt i Hr, bk := D.bk i Hr, ct := D.ct i Hr } σ H := rfl
theorem x_ythen {t u : TY} : tYThen t u D i Hr σ H = t { D with nx := fun i' Hr' σ' H' => u D i' Hr' σ' H' } i Hr σ H := rfl
theorem x_y0 : tY0 D i Hr σ H = D.nx i Hr σ H := rfl
theorem x_yyield {ws : List Nat} {te : TE} : tYYield ws te D i Hr σ H = (i < sizeLine ∧ te σ H fun x H1 => ∃ K, D.yl i Hr x H1 K ∧ ∀ H2, Ex K H2 → Dom H1 H2 → D.nx (i + 1) H2 (wipe σ ws) H2) := rfl
theorem x_ywhile {c : TT} {tb : TY} : tYWhile c tb D i Hr σ H = ∃ W : Nat → Nat → Hp → L2.St → Hp → Prop, (∃ m, W m i Hr σ H) ∧ ∀ m i Hr σ H, W m i Hr σ H →
  c σ H fun b H1 => if b = true then ∃ N : Nat → Hp → L2.St → Hp → Prop, (∀ i' Hr' σ' H', N i' Hr' σ' H' → ∃ m', m' < m ∧ W m' i' Hr' σ' H') ∧ tb { D with nx := N, ct := N, bk := D.nx } i Hr σ H1 else D.nx i Hr σ H1 := rfl
theorem x_callY {sp : SpY} {dvs : List V} {t : TA} : tCallY sp dvs t σ H yl z st = t σ H fun vs H1 => sp (vs ++ dvs) H1 yl z ∧ st H1 := rfl
theorem x_callYK {sp : SpY} {gV : List V → List V → List V} {tk : TA} : tCallYK sp gV tk σ H yl z st = tk σ H fun zs H1 => sp (gV [] zs) H1 yl z ∧ st H1 := rfl
end
theorem lgy_list {K : PySem.W.Frag} {a : Addr} {xs : List V} {g : TG} {tb : TY} {D : YE} {i : Nat} {Hr : Hp} {σ : L2.St} {H : Hp} (Pv : Nat → Nat → Hp → L2.St → Hp → Prop) (h0 : Pv 0 i Hr σ H) (hl : ∀ j i Hr σ H, j ≤ xs.length → Pv j i Hr σ H → SqL K H a xs)
    (hs : ∀ j v i Hr σ H, xs[j]? = some v → Pv j i Hr σ H → g v σ H fun σ2 H2 => tb { D with nx := Pv (j + 1), ct := Pv (j + 1), bk := D.nx } i Hr σ2 H2) (hd : ∀ i Hr σ H, Pv xs.length i Hr σ H → D.nx i Hr σ H) :
    LoopY (Itl K a) g tb D i Hr σ H := by
  refine ⟨fun j m i Hr σ H => m = xs.length - j ∧ j ≤ xs.length ∧ Pv j i Hr σ H, ⟨xs.length, by simp, Nat.zero_le _, h0⟩, ?_⟩
  rintro j m i Hr σ H ⟨rfl, hj, p⟩
  have q := hl j i Hr σ H hj p
  by_cases hlt : j < xs.length
  · refine .inr ⟨⟨xs, xs[j], q, by simp [hlt]⟩, Pv (j + 1), fun i' Hr' σ' H' p' => ⟨xs.length - (j + 1), by omega, rfl, hlt, p'⟩, fun x H' y => ?_⟩
    obtain ⟨e, y⟩ := y
    subst e
    exact hs j x i Hr σ _ (y xs q) p
  · have e : j = xs.length := by omega
    subst e
    exact .inl ⟨⟨xs, q, Nat.le_refl _⟩, hd i Hr σ H p⟩
/-! ### the cells' slots -/
theorem cells_mem {x : Str} {c : Addr} : ∀ (names : List (Str × NameKind)) (n : Nat) (acc : List (Str × Addr)), (x, c) ∈ cellsFrom n names acc → (x, c) ∈ acc ∨ (x, NameKind.cell) ∈ names
  | [], _, _, h => .inl h
  | (nm, k) :: r, n, acc, h => by
    unfold cellsFrom at h
    by_cases hk : k = .cell
    · subst hk
      rw [if_pos (by decide)] at h
      rcases cells_mem r _ _ h with q | q
      · rcases List.mem_cons.mp q with e | q
        · cases e
          exact .inr List.mem_cons_self
        · exact .inl q
      · exact .inr (List.mem_cons_of_mem _ q)
    · rw [if_neg (by simpa using hk)] at h
      exact (cells_mem r _ _ h).imp id (List.mem_cons_of_mem _)
theorem cellsIn_by {P : Program} {w : World} {K : PySem.W.Frag} {mg : Str → Option Value} {base : Heap} {N : List Str} {qual : Str} {scope : Scope} {f : Addr} {cd : Value} {A : Around} {outer : List Env} {s : Shared} {H : Hp} {pn : List (Addr × Obj)} {ws : List Nat}
    (h : (N.zipIdx.all fun p => !(scope.names.any fun y => decide (y.1 = p.1) && decide (y.2 = NameKind.cell)) || ws.contains p.2) = true) : CellsIn (gcxY P w K mg base N qual scope f cd A outer s H pn) ws := by
  rintro i x hx ⟨c, hc⟩
  have m := PySem.W.mem_lookup (show (cellsFrom (s.heap.objs.size + 1) scope.names []).lookup x = some c from hc)
  rcases cells_mem _ _ _ m with q | q
  · cases q
  · have a := List.all_eq_true.mp h (x, i) (List.mem_zipIdx_iff_getElem?.mpr hx)
    rcases Bool.or_eq_true_iff.mp a with b | b
    · exfalso
      have : (scope.names.any fun y => decide (y.1 = x) && decide (y.2 = NameKind.cell)) = true := List.any_eq_true.mpr ⟨_, q, by simp⟩
      rw [this] at b
      cases b
    · simpa using b
end SL

set_option Elab.async false
set_option linter.all false
set_option maxRecDepth 100000
set_option maxHeartbeats 4000000
/-! the trails from a page in list order, and how many they are (orders.py, plain) -/
namespace TF
open BC
/-- the pages that can come next -/
def kids (G : Grid) (t : List Nat) : List Nat := (row G (lst t)).filter fun u => decide (u ∉ t)
/-- .. behind one of them -/
def later (G : Grid) (q : List Nat) (x : Nat) : List Nat := (row G (lst q)).filter fun u => decide (x < u) && decide (u ∉ q)
/-- what waits when t was taken, the next one first; t turned round -/
def restR (G : Grid) : List Nat → List (List Nat)
  | [] => []
  | [_] => []
  | x :: y :: r => ((later G (y :: r).reverse x).map fun u => (y :: r).reverse ++ [u]) ++ restR G (y :: r)
def rest (G : Grid) (t : List Nat) : List (List Nat) := restR G t.reverse
def stk (G : Grid) (t : List Nat) : List (List Nat) := ((kids G t).map fun u => t ++ [u]) ++ rest G t
def Asc (G : Grid) : Prop := ∀ i, (row G i).Pairwise (· < ·)
theorem rest_one (G : Grid) (p : Nat) : rest G [p] = [] := rfl
theorem rest_snoc {G : Grid} {q : List Nat} (hq : q ≠ []) (x : Nat) : rest G (q ++ [x]) = ((later G q x).map fun u => q ++ [u]) ++ rest G q := by
  unfold rest
  rw [List.reverse_append, List.reverse_singleton, List.singleton_append]
  obtain ⟨y, r, e⟩ : ∃ y r, q.reverse = y :: r := by
    cases h : q.reverse with
    | nil => exact absurd (List.reverse_eq_nil_iff.mp h) hq
    | cons y r => exact ⟨y, r, rfl⟩
  rw [e]
  show ((later G (y :: r).reverse x).map fun u => (y :: r).reverse ++ [u]) ++ restR G (y :: r) = _
  rw [← e, List.reverse_reverse]
/-- filtering an ascending list behind its first kept element -/
theorem filter_tail {l us : List Nat} {P : Nat → Bool} {u : Nat} (ha : l.Pairwise (· < ·)) (h : l.filter P = u :: us) : l.filter (fun y => decide (u < y) && P y) = us := by
  induction l with
  | nil => cases h
  | cons a l ih =>
    obtain ⟨h1, h2⟩ := List.pairwise_cons.mp ha
    cases c : P a with
    | true =>
      rw [List.filter_cons_of_pos c] at h
      obtain ⟨rfl, rfl⟩ := List.cons.inj h
      rw [List.filter_cons_of_neg (by simp)]
      refine List.filter_congr fun y hy => ?_
      rw [decide_eq_true (h1 y hy), Bool.true_and]
    | false =>
      rw [List.filter_cons_of_neg (by rw [c]; decide)] at h
      rw [List.filter_cons_of_neg (by rw [c]; simp)]
      exact ih h2 h
theorem later_kids {G : Grid} (ha : Asc G) {t : List Nat} {u : Nat} {us : List Nat} (h : kids G t = u :: us) : later G t u = us := filter_tail (ha _) h
theorem later_later {G : Grid} (ha : Asc G) {q : List Nat} {x u : Nat} {us : List Nat} (h : later G q x = u :: us) : later G q u = us := by
  have h1 := filter_tail (ha _) h
  unfold later
  rw [← h1]
  refine List.filter_congr fun y _ => ?_
  have hx : x < u := by
    have m : u ∈ later G q x := by rw [h]; exact List.mem_cons_self
    unfold later at m
    have := (List.mem_filter.mp m).2
    rw [Bool.and_eq_true, decide_eq_true_eq] at this
    exact this.1
  by_cases c : u < y
  · rw [decide_eq_true c, decide_eq_true (show x < y by omega), Bool.true_and, Bool.true_and]
  · rw [decide_eq_false c, Bool.false_and, Bool.false_and]
/-- the head's own rest is the tail -/
theorem rest_head {G : Grid} (ha : Asc G) : ∀ (n : Nat) {t u : List Nat} {R : List (List Nat)}, t.length ≤ n → rest G t = u :: R → rest G u = R
  | 0, t, u, R, hn, h => by
    have : t = [] := List.length_eq_zero_iff.mp (by omega)
    subst this
    cases h
  | n + 1, t, u, R, hn, h => by
    by_cases ht : t = []
    · subst ht; cases h
    obtain ⟨q, x, rfl⟩ : ∃ q x, t = q ++ [x] := ⟨_, _, (List.dropLast_concat_getLast ht).symm⟩
    rw [List.length_append, List.length_singleton] at hn
    by_cases hq : q = []
    · subst hq; cases h
    rw [rest_snoc hq] at h
    cases c : later G q x with
    | nil =>
      rw [c] at h
      exact rest_head ha n (by omega) h
    | cons y ys =>
      rw [c, List.map_cons, List.cons_append] at h
      obtain ⟨rfl, rfl⟩ := List.cons.inj h
      rw [rest_snoc hq, later_later ha c]
theorem stk_head {G : Grid} (ha : Asc G) {t u : List Nat} {R : List (List Nat)} (ht : t ≠ []) (h : stk G t = u :: R) : rest G u = R := by
  unfold stk at h
  cases c : kids G t with
  | nil =>
    rw [c] at h
    exact rest_head ha _ (Nat.le_refl _) h
  | cons y ys =>
    rw [c, List.map_cons, List.cons_append] at h
    obtain ⟨rfl, rfl⟩ := List.cons.inj h
    rw [rest_snoc ht, later_kids ha c]
/-- one trail behind another -/
def nxt (G : Grid) (t : List Nat) : Option (List Nat) := (stk G t).head?
/-- the first one that waits -/
def climb (G : Grid) (t : List Nat) : Option (List Nat) := (rest G t).head?
theorem climb_one (G : Grid) (p : Nat) : climb G [p] = none := rfl
theorem climb_snoc {G : Grid} {q : List Nat} (hq : q ≠ []) (x : Nat) : climb G (q ++ [x]) = match later G q x with
    | u :: _ => some (q ++ [u])
    | [] => climb G q := by
  unfold climb
  rw [rest_snoc hq]
  cases later G q x with
  | nil => rfl
  | cons u us => rfl
theorem nxt_eq (G : Grid) (t : List Nat) : nxt G t = match kids G t with
    | u :: _ => some (t ++ [u])
    | [] => climb G t := by
  unfold nxt stk
  cases kids G t with
  | nil => rfl
  | cons u us => rfl
/-! how many -/
/-- descendants so deep -/
def lev (G : Grid) : Nat → List Nat → Nat
  | 0, _ => 1
  | j + 1, t => ((kids G t).map fun u => lev G j (t ++ [u])).sum
def size (G : Grid) (n : Nat) (t : List Nat) : Nat := ((List.range (n + 1)).map fun j => lev G j t).sum
structure TrOk (G : Grid) (t : List Nat) : Prop where
  ne : t ≠ []
  nd : t.Nodup
  lt : ∀ x ∈ t, x < G.length
theorem TrOk.len {G : Grid} {t : List Nat} (h : TrOk G t) : t.length ≤ G.length := nodup_lt _ h.nd h.lt
theorem TrOk.kid {G : Grid} (hG : SiteOk G) {t : List Nat} (h : TrOk G t) {u : Nat} (hu : u ∈ kids G t) : TrOk G (t ++ [u]) := by
  have h1 := (List.mem_filter.mp hu).1
  have h2 := of_decide_eq_true (List.mem_filter.mp hu).2
  refine ⟨by simp, ?_, fun x hx => ?_⟩
  · rw [List.nodup_append]
    refine ⟨h.nd, by simp, fun a ha b hb e => ?_⟩
    rw [List.mem_singleton.mp hb] at e
    subst e
    exact h2 ha
  · rcases List.mem_append.mp hx with m | m
    · exact h.lt x m
    · rw [List.mem_singleton.mp m]; exact hG.rlt h1
theorem kids_asc {G : Grid} (ha : Asc G) (t : List Nat) : (kids G t).Pairwise (· < ·) := (ha _).filter _
theorem kids_len {G : Grid} (hG : SiteOk G) (ha : Asc G) {t : List Nat} (h : TrOk G t) : (kids G t).length + t.length ≤ G.length := by
  have hnd : (kids G t ++ t).Nodup := by
    rw [List.nodup_append]
    refine ⟨asc_nodup (kids_asc ha t), h.nd, fun a hA b hB e => ?_⟩
    subst e
    exact of_decide_eq_true (List.mem_filter.mp hA).2 hB
  have := nodup_lt G.length hnd fun x hx => by
    rcases List.mem_append.mp hx with m | m
    · exact hG.rlt (List.mem_filter.mp m).1
    · exact h.lt x m
  rw [List.length_append] at this
  exact this
theorem lev_zero {G : Grid} (hG : SiteOk G) : ∀ (j : Nat) {t : List Nat}, TrOk G t → G.length < t.length + j → lev G j t = 0
  | 0, t, h, hj => by have := h.len; omega
  | j + 1, t, h, hj => by
    show ((kids G t).map fun u => lev G j (t ++ [u])).sum = 0
    have : ∀ u ∈ kids G t, lev G j (t ++ [u]) = 0 := fun u hu => lev_zero hG j (h.kid hG hu) (by rw [List.length_append, List.length_singleton]; omega)
    rw [List.map_congr_left this]
    exact sum_zeros _
theorem size_succ (G : Grid) (n : Nat) (t : List Nat) : size G (n + 1) t = 1 + ((kids G t).map fun u => size G n (t ++ [u])).sum := by
  unfold size
  rw [List.range_succ_eq_map, List.map_cons, List.sum_cons, List.map_map]
  show 1 + _ = 1 + _
  congr 1
  have h : ∀ l : List Nat, ((List.range (n + 1)).map ((fun j => lev G j t) ∘ Nat.succ)) = (List.range (n + 1)).map fun j => ((kids G t).map fun u => lev G j (t ++ [u])).sum := fun _ => rfl
  rw [h []]
  generalize kids G t = ks
  clear h
  induction ks with
  | nil => exact sum_zeros _
  | cons u us ih =>
    simp only [List.map_cons, List.sum_cons]
    rw [← ih]
    generalize List.range (n + 1) = L
    induction L with
    | nil => rfl
    | cons a L ihL => simp only [List.map_cons, List.sum_cons]; omega
/-- all of them below t, t itself with them -/
def big (G : Grid) (t : List Nat) : Nat := size G (G.length - t.length) t
theorem big_eq {G : Grid} (hG : SiteOk G) {t : List Nat} (h : TrOk G t) : big G t = 1 + ((kids G t).map fun u => big G (t ++ [u])).sum := by
  unfold big
  have hl := h.len
  by_cases c : t.length < G.length
  · obtain ⟨n, hn⟩ : ∃ n, G.length - t.length = n + 1 := ⟨G.length - t.length - 1, by omega⟩
    rw [hn, size_succ]
    congr 2
    refine List.map_congr_left fun u hu => ?_
    rw [List.length_append, List.length_singleton, show G.length - (t.length + 1) = n by omega]
  · have e : G.length - t.length = 0 := by omega
    have k0 : kids G t = [] := by
      cases hk : kids G t with
      | nil => rfl
      | cons u us =>
        have := (h.kid hG (by rw [hk]; exact List.mem_cons_self)).len
        rw [List.length_append, List.length_singleton] at this
        omega
    rw [e, k0]
    rfl
/-- what is still to come when t was taken -/
def left (G : Grid) (t : List Nat) : Nat := ((stk G t).map (big G)).sum
theorem left_step {G : Grid} (hG : SiteOk G) (ha : Asc G) {t u : List Nat} {R : List (List Nat)} (ht : t ≠ []) (hu : TrOk G u) (h : stk G t = u :: R) : left G t = left G u + 1 := by
  have h1 := stk_head ha ht h
  unfold left
  rw [h, List.map_cons, List.sum_cons, big_eq hG hu]
  unfold stk
  rw [h1, List.map_append, List.sum_append, List.map_map]
  show 1 + ((kids G u).map fun v => big G (u ++ [v])).sum + _ = ((kids G u).map fun v => big G (u ++ [v])).sum + _ + 1
  omega
/-- everything that waits is a trail -/
theorem later_sub {G : Grid} {q : List Nat} {x u : Nat} (h : u ∈ later G q x) : u ∈ kids G q := by
  obtain ⟨h1, h2⟩ := List.mem_filter.mp h
  rw [Bool.and_eq_true] at h2
  exact List.mem_filter.mpr ⟨h1, h2.2⟩
theorem rest_ok {G : Grid} (hG : SiteOk G) : ∀ (n : Nat) {t : List Nat}, t.length ≤ n → TrOk G t → ∀ v ∈ rest G t, TrOk G v
  | 0, t, hn, h, _, _ => absurd (List.length_eq_zero_iff.mp (by omega)) h.ne
  | n + 1, t, hn, h, v, hv => by
    obtain ⟨q, x, rfl⟩ : ∃ q x, t = q ++ [x] := ⟨_, _, (List.dropLast_concat_getLast h.ne).symm⟩
    rw [List.length_append, List.length_singleton] at hn
    by_cases hq : q = []
    · subst hq; cases hv
    have okq : TrOk G q := ⟨hq, (List.nodup_append.mp h.nd).1, fun y hy => h.lt y (List.mem_append_left _ hy)⟩
    rw [rest_snoc hq] at hv
    rcases List.mem_append.mp hv with m | m
    · obtain ⟨u, hu, rfl⟩ := List.mem_map.mp m
      exact okq.kid hG (later_sub hu)
    · exact rest_ok hG n (by omega) okq v m
theorem stk_ok {G : Grid} (hG : SiteOk G) {t : List Nat} (h : TrOk G t) : ∀ v ∈ stk G t, TrOk G v := fun v hv => by
  rcases List.mem_append.mp hv with m | m
  · obtain ⟨u, hu, rfl⟩ := List.mem_map.mp m
    exact h.kid hG hu
  · exact rest_ok hG _ (Nat.le_refl _) h v m
/-- the trails from t on -/
def run (G : Grid) : Nat → List Nat → List (List Nat)
  | 0, t => [t]
  | n + 1, t => t :: (match nxt G t with
    | none => []
    | some u => run G n u)
def all (G : Grid) (p : Nat) : List (List Nat) := run G (left G [p]) [p]
end TF

set_option Elab.async false
set_option linter.all false
set_option maxRecDepth 100000
set_option maxHeartbeats 4000000
/-! the trails from a page: their order, how many at most, and count_trails' layers (plain) -/
namespace TF
open BC
/-! list order -/
theorem nz_append (a b : List Nat) : nz (a ++ b) = nz a ++ nz b := List.map_append
theorem lt_more : ∀ (t : List Int) (x : Int) (s : List Int), t < t ++ x :: s
  | [], _, _ => List.Lex.nil
  | a :: t, x, s => List.Lex.cons (lt_more t x s)
theorem lt_at {x y : Int} (h : x < y) : ∀ (q r s : List Int), q ++ x :: r < q ++ y :: s
  | [], _, _ => List.Lex.rel h
  | a :: q, r, s => List.Lex.cons (lt_at h q r s)
theorem later_lt {G : Grid} {q : List Nat} {x u : Nat} (h : u ∈ later G q x) : x < u := by
  have h2 := (List.mem_filter.mp h).2
  rw [Bool.and_eq_true, decide_eq_true_eq] at h2
  exact h2.1
theorem climb_lt {G : Grid} : ∀ (n : Nat) {t u : List Nat}, t.length ≤ n → climb G t = some u → ∀ s : List Nat, nz (t ++ s) < nz u
  | 0, t, u, hn, h, _ => by
    have : t = [] := List.length_eq_zero_iff.mp (by omega)
    subst this
    cases h
  | n + 1, t, u, hn, h, s => by
    by_cases ht : t = []
    · subst ht; cases h
    obtain ⟨q, x, rfl⟩ : ∃ q x, t = q ++ [x] := ⟨_, _, (List.dropLast_concat_getLast ht).symm⟩
    rw [List.length_append, List.length_singleton] at hn
    by_cases hq : q = []
    · subst hq; cases h
    rw [climb_snoc hq] at h
    rw [List.append_assoc]
    cases c : later G q x with
    | nil =>
      rw [c] at h
      exact climb_lt n (by omega) h _
    | cons y ys =>
      rw [c] at h
      obtain rfl : q ++ [y] = u := Option.some.inj h
      have hx : x < y := later_lt (G := G) (q := q) (by rw [c]; exact List.mem_cons_self)
      rw [nz_append, nz_append, nz_append]
      show nz q ++ (x : Int) :: nz s < nz q ++ (y : Int) :: nz []
      exact lt_at (show (x : Int) < (y : Int) by omega) _ _ _
theorem nxt_lt {G : Grid} {t u : List Nat} (h : nxt G t = some u) : nz t < nz u := by
  rw [nxt_eq] at h
  cases c : kids G t with
  | nil =>
    rw [c] at h
    have := climb_lt _ (Nat.le_refl _) h []
    rw [List.append_nil] at this
    exact this
  | cons y ys =>
    rw [c] at h
    obtain rfl : t ++ [y] = u := Option.some.inj h
    rw [nz_append]
    exact lt_more _ _ _
theorem run_asc {G : Grid} : ∀ (n : Nat) (t : List Nat), (run G n t).Pairwise (fun a b => nz a < nz b) ∧ ∀ v ∈ run G n t, v = t ∨ nz t < nz v
  | 0, t => ⟨List.pairwise_singleton _ _, fun v hv => .inl (List.mem_singleton.mp hv)⟩
  | n + 1, t => by
    unfold run
    cases c : nxt G t with
    | none => exact ⟨List.pairwise_singleton _ _, fun v hv => .inl (List.mem_singleton.mp hv)⟩
    | some u =>
      have hu := nxt_lt c
      obtain ⟨h1, h2⟩ := run_asc n u
      have hv : ∀ v ∈ run G n u, nz t < nz v := fun v hv => by
        rcases h2 v hv with rfl | h
        · exact hu
        · exact List.lt_trans hu h
      exact ⟨List.pairwise_cons.mpr ⟨hv, h1⟩, fun v hv' => (List.mem_cons.mp hv').imp id (hv v)⟩
/-! one behind the other -/
theorem big_pos {G : Grid} (hG : SiteOk G) {t : List Nat} (h : TrOk G t) : 0 < big G t := by rw [big_eq hG h]; omega
theorem left_zero {G : Grid} (hG : SiteOk G) {t : List Nat} (h : TrOk G t) (e : left G t = 0) : stk G t = [] := by
  cases c : stk G t with
  | nil => rfl
  | cons u R =>
    have := big_pos hG (stk_ok hG h u (by rw [c]; exact List.mem_cons_self))
    unfold left at e
    rw [c, List.map_cons, List.sum_cons] at e
    omega
theorem nxt_stk {G : Grid} {t u : List Nat} (h : nxt G t = some u) : ∃ R, stk G t = u :: R := by
  unfold nxt at h
  cases c : stk G t with
  | nil => rw [c] at h; cases h
  | cons v R => rw [c] at h; exact ⟨R, by rw [Option.some.inj h]⟩
theorem run_zero {G : Grid} (n : Nat) (t : List Nat) : (run G n t)[0]? = some t := by cases n <;> rfl
theorem run_next {G : Grid} (hG : SiteOk G) (ha : Asc G) : ∀ (n : Nat) {t : List Nat}, left G t ≤ n → TrOk G t → ∀ {i : Nat} {v : List Nat}, (run G n t)[i]? = some v → TrOk G v ∧ (run G n t)[i + 1]? = nxt G v
  | 0, t, hn, h, i, v, e => by
    have s0 := left_zero hG h (by omega)
    match i, e with
    | 0, e =>
      obtain rfl : t = v := Option.some.inj e
      refine ⟨h, ?_⟩
      show none = (stk G t).head?
      rw [s0]
      rfl
  | n + 1, t, hn, h, i, v, e => by
    unfold run at e ⊢
    cases c : nxt G t with
    | none =>
      rw [c] at e
      match i, e with
      | 0, e =>
        obtain rfl : t = v := Option.some.inj e
        exact ⟨h, c.symm⟩
    | some u =>
      rw [c] at e
      obtain ⟨R, hR⟩ := nxt_stk c
      have hu := stk_ok hG h u (by rw [hR]; exact List.mem_cons_self)
      have hl := left_step hG ha h.ne hu hR
      match i, e with
      | 0, e =>
        obtain rfl : t = v := Option.some.inj e
        exact ⟨h, by rw [c]; exact run_zero n u⟩
      | i + 1, e => exact run_next hG ha n (by omega) hu e
theorem run_len {G : Grid} (hG : SiteOk G) (ha : Asc G) : ∀ (n : Nat) {t : List Nat}, left G t = n → TrOk G t → (run G n t).length = n + 1
  | 0, t, hn, h => rfl
  | n + 1, t, hn, h => by
    unfold run
    cases c : nxt G t with
    | none =>
      exfalso
      have : stk G t = [] := by
        unfold nxt at c
        cases e : stk G t with
        | nil => rfl
        | cons a b => rw [e] at c; cases c
      unfold left at hn
      rw [this] at hn
      cases hn
    | some u =>
      obtain ⟨R, hR⟩ := nxt_stk c
      have hu := stk_ok hG h u (by rw [hR]; exact List.mem_cons_self)
      have hl := left_step hG ha h.ne hu hR
      show (run G n u).length + 1 = n + 1 + 1
      rw [run_len hG ha n (by omega) hu]
theorem one_ok {G : Grid} {p : Nat} (hp : p < G.length) : TrOk G [p] := ⟨by simp, by simp, fun x hx => by rw [List.mem_singleton.mp hx]; exact hp⟩
theorem left_one {G : Grid} (hG : SiteOk G) {p : Nat} (hp : p < G.length) : left G [p] + 1 = big G [p] := by
  rw [big_eq hG (one_ok hp)]
  unfold left stk
  rw [rest_one, List.append_nil, List.map_map]
  show ((kids G [p]).map fun u => big G ([p] ++ [u])).sum + 1 = _
  omega
theorem all_len {G : Grid} (hG : SiteOk G) (ha : Asc G) {p : Nat} (hp : p < G.length) : (all G p).length = big G [p] := by
  unfold all
  rw [run_len hG ha _ rfl (one_ok hp), left_one hG hp]
theorem all_next {G : Grid} (hG : SiteOk G) (ha : Asc G) {p : Nat} (hp : p < G.length) {i : Nat} {v : List Nat} (h : (all G p)[i]? = some v) : TrOk G v ∧ (all G p)[i + 1]? = nxt G v :=
  run_next hG ha _ (Nat.le_refl _) (one_ok hp) h
theorem all_zero {G : Grid} {p : Nat} : (all G p)[0]? = some [p] := run_zero _ _
theorem all_asc (G : Grid) (p : Nat) : (all G p).Pairwise (fun a b => nz a < nz b) := (run_asc _ _).1
/-! how many at most -/
def bnd : Nat → Nat
  | 0 => 1
  | r + 1 => 1 + (r + 1) * bnd r
theorem big_le {G : Grid} (hG : SiteOk G) (ha : Asc G) : ∀ (r : Nat) {t : List Nat}, TrOk G t → G.length ≤ t.length + r → big G t ≤ bnd r
  | 0, t, h, hr => by
    have := kids_len hG ha h
    have k0 : kids G t = [] := List.length_eq_zero_iff.mp (by omega)
    rw [big_eq hG h, k0]
    exact Nat.le_refl _
  | r + 1, t, h, hr => by
    have hk := kids_len hG ha h
    rw [big_eq hG h]
    show _ ≤ 1 + (r + 1) * bnd r
    have h1 : ((kids G t).map fun u => big G (t ++ [u])).sum ≤ (kids G t).length * bnd r := sum_le fun u hu => big_le hG ha r (h.kid hG hu) (by rw [List.length_append, List.length_singleton]; omega)
    have h2 : (kids G t).length * bnd r ≤ (r + 1) * bnd r := Nat.mul_le_mul_right _ (by omega)
    omega
theorem all_le {G : Grid} (hG : SiteOk G) (ha : Asc G) {p : Nat} (hp : p < G.length) (h6 : G.length ≤ 6) : (all G p).length ≤ 326 := by
  rw [all_len hG ha hp]
  exact big_le hG ha 5 (one_ok hp) (by rw [List.length_singleton]; omega)
/-! sets of pages as numbers -/
def hb (b x : Nat) : Bool := decide (b / 2 ^ x % 2 = 1)
def bits (t : List Nat) : Nat := (t.map (2 ^ ·)).sum
theorem hb_zero (y : Nat) : hb 0 y = false := by
  unfold hb
  rw [Nat.zero_div]
  rfl
theorem hb_add {b a : Nat} (h : hb b a = false) (y : Nat) : hb (b + 2 ^ a) y = (decide (y = a) || hb b y) := by
  have h0 : b / 2 ^ a % 2 = 0 := by
    have := of_decide_eq_false h
    omega
  unfold hb
  rcases Nat.lt_trichotomy y a with c | c | c
  · rw [decide_eq_false (show ¬ y = a by omega), Bool.false_or]
    obtain ⟨d, rfl⟩ : ∃ d, a = y + 1 + d := ⟨a - y - 1, by omega⟩
    have e : 2 ^ (y + 1 + d) = 2 ^ y * (2 * 2 ^ d) := by rw [Nat.pow_add, Nat.pow_succ, Nat.mul_assoc]
    rw [e, Nat.add_mul_div_left _ _ (Nat.two_pow_pos y), Nat.add_mul_mod_self_left]
  · subst c
    rw [decide_eq_true rfl, Bool.true_or, Nat.add_div_right _ (Nat.two_pow_pos y)]
    exact decide_eq_true (by omega)
  · rw [decide_eq_false (show ¬ y = a by omega), Bool.false_or]
    obtain ⟨d, rfl⟩ : ∃ d, y = a + 1 + d := ⟨y - a - 1, by omega⟩
    have e : (b + 2 ^ a) / 2 ^ (a + 1) = b / 2 ^ (a + 1) := by
      rw [Nat.pow_succ, ← Nat.div_div_eq_div_mul, ← Nat.div_div_eq_div_mul, Nat.add_div_right _ (Nat.two_pow_pos a)]
      omega
    rw [Nat.pow_add, ← Nat.div_div_eq_div_mul, ← Nat.div_div_eq_div_mul, e]
theorem bits_snoc (t : List Nat) (x : Nat) : bits (t ++ [x]) = bits t + 2 ^ x := by
  unfold bits
  rw [List.map_append, List.sum_append]
  show _ + (2 ^ x + 0) = _
  omega
theorem hb_bits : ∀ (n : Nat) {t : List Nat}, t.length ≤ n → t.Nodup → ∀ y, hb (bits t) y = decide (y ∈ t)
  | 0, t, hn, _, y => by
    have : t = [] := List.length_eq_zero_iff.mp (by omega)
    subst this
    exact hb_zero y
  | n + 1, t, hn, nd, y => by
    by_cases ht : t = []
    · subst ht; exact hb_zero y
    obtain ⟨q, x, rfl⟩ : ∃ q x, t = q ++ [x] := ⟨_, _, (List.dropLast_concat_getLast ht).symm⟩
    rw [List.length_append, List.length_singleton] at hn
    obtain ⟨n1, _, n3⟩ := List.nodup_append.mp nd
    have ih := hb_bits n (by omega) n1
    have hx : hb (bits q) x = false := by
      rw [ih]
      exact decide_eq_false fun m => n3 x m x (List.mem_singleton.mpr rfl) rfl
    rw [bits_snoc, hb_add hx, ih]
    by_cases c : y = x
    · subst c; simp
    · simp [c]
/-! numbers by keys -/
abbrev KD := List ((Nat × Nat) × Nat)
def get2 (L : KD) (k : Nat × Nat) : Nat := ((L.find? fun p => decide (p.1 = k)).map (·.2)).getD 0
def put2 (L : KD) (k : Nat × Nat) (n : Nat) : KD := if (L.any fun p => decide (p.1 = k)) = true then L.map (fun p => if p.1 = k then (p.1, n) else p) else L ++ [(k, n)]
def add2 (L : KD) (k : Nat × Nat) (n : Nat) : KD := put2 L k (get2 L k + n)
def wsum (F : Nat × Nat → Nat) (L : KD) : Nat := (L.map fun e => e.2 * F e.1).sum
theorem put2_keys (L : KD) (k : Nat × Nat) (n : Nat) : (put2 L k n).map (·.1) = if k ∈ L.map (·.1) then L.map (·.1) else L.map (·.1) ++ [k] := by
  unfold put2
  have e : (L.any fun p => decide (p.1 = k)) = decide (k ∈ L.map (·.1)) := by
    rw [Bool.eq_iff_iff, List.any_eq_true, decide_eq_true_eq, List.mem_map]
    constructor
    · rintro ⟨p, hp, h⟩; exact ⟨p, hp, of_decide_eq_true h⟩
    · rintro ⟨p, hp, h⟩; exact ⟨p, hp, decide_eq_true h⟩
  rw [e]
  by_cases c : k ∈ L.map (·.1)
  · rw [if_pos (decide_eq_true c), if_pos c, List.map_map]
    refine List.map_congr_left fun p _ => ?_
    show (if p.1 = k then (p.1, n) else p).1 = p.1
    split <;> rfl
  · rw [if_neg (by rw [decide_eq_false c]; decide), if_neg c, List.map_append]
    rfl
theorem put2_nodup {L : KD} {k : Nat × Nat} {n : Nat} (h : (L.map (·.1)).Nodup) : ((put2 L k n).map (·.1)).Nodup := by
  rw [put2_keys]
  split
  · exact h
  · rename_i c
    rw [List.nodup_append]
    refine ⟨h, by simp, fun a ha b hb e => ?_⟩
    rw [List.mem_singleton.mp hb] at e
    subst e
    exact c ha
theorem wsum_add {F : Nat × Nat → Nat} {n : Nat} {k : Nat × Nat} : ∀ {L : KD}, (L.map (·.1)).Nodup → wsum F (add2 L k n) = wsum F L + n * F k
  | [], _ => by
    show (0 + n) * F k + 0 = 0 + n * F k
    rw [Nat.zero_add, Nat.zero_add, Nat.add_zero]
  | p :: L, h => by
    obtain ⟨h1, h2⟩ := List.nodup_cons.mp h
    by_cases c : p.1 = k
    · have e : add2 (p :: L) k n = (p.1, p.2 + n) :: L := by
        have f1 : (p :: L).find? (fun q => decide (q.1 = k)) = some p := List.find?_cons_of_pos (decide_eq_true c)
        unfold add2 put2 get2
        rw [List.any_cons, decide_eq_true c, Bool.true_or, if_pos rfl, f1, List.map_cons, if_pos c]
        show (p.1, p.2 + n) :: _ = _
        congr 1
        conv => rhs; rw [← List.map_id L]
        refine List.map_congr_left fun q hq => ?_
        rw [if_neg fun e => h1 (show p.1 ∈ L.map (·.1) by rw [c, ← e]; exact List.mem_map.mpr ⟨q, hq, rfl⟩)]
        rfl
      rw [e]
      unfold wsum
      rw [List.map_cons, List.sum_cons, List.map_cons, List.sum_cons]
      show (p.2 + n) * F p.1 + (L.map fun e => e.2 * F e.1).sum = p.2 * F p.1 + (L.map fun e => e.2 * F e.1).sum + n * F k
      rw [c, Nat.add_mul, Nat.add_right_comm]
    · have e : add2 (p :: L) k n = p :: add2 L k n := by
        have f2 : (p :: L).find? (fun q => decide (q.1 = k)) = L.find? (fun q => decide (q.1 = k)) := List.find?_cons_of_neg (by simpa using c)
        unfold add2 put2 get2
        rw [List.any_cons, decide_eq_false c, Bool.false_or, f2, List.map_cons, if_neg c]
        split <;> rfl
      rw [e]
      have ih := wsum_add (F := F) (n := n) (k := k) h2
      unfold wsum at ih ⊢
      rw [List.map_cons, List.sum_cons, List.map_cons, List.sum_cons, ih, Nat.add_assoc]
theorem put2_mem {L : KD} {k : Nat × Nat} {n : Nat} {e : (Nat × Nat) × Nat} (h : e ∈ put2 L k n) : (e = (k, n)) ∨ e ∈ L := by
  unfold put2 at h
  split at h
  · obtain ⟨p, hp, he⟩ := List.mem_map.mp h
    split at he
    · rename_i c
      exact .inl (by rw [← he, c])
    · exact .inr (by rw [← he]; exact hp)
  · rcases List.mem_append.mp h with m | m
    · exact .inr m
    · exact .inl (List.mem_singleton.mp m)
/-- what a dict of numbers stands for -/
structure Lr (L : KD) (T : List (List Nat)) : Prop where
  nd : (L.map (·.1)).Nodup
  pos : ∀ e ∈ L, 0 < e.2
  keys : ∀ e ∈ L, ∃ t ∈ T, (bits t, lst t) = e.1
  sum : ∀ F : Nat × Nat → Nat, wsum F L = (T.map fun t => F (bits t, lst t)).sum
theorem Lr.nil : Lr [] [] := ⟨by simp, by simp, by simp, fun _ => rfl⟩
theorem Lr.one (p : Nat) : Lr [((2 ^ p, p), 1)] [[p]] := ⟨by simp, by simp, fun e he => ⟨[p], by simp, by
  rw [List.mem_singleton.mp he]
  show ((2 ^ p + 0), p) = (2 ^ p, p)
  rw [Nat.add_zero]⟩, fun F => by
  show 1 * F (2 ^ p, p) + 0 = F (2 ^ p + 0, p) + 0
  rw [Nat.one_mul, Nat.add_zero (2 ^ p)]⟩
theorem Lr.one_all {L : KD} {T : List (List Nat)} (h : Lr L T) : (L.map (·.2)).sum = T.length := by
  have e := h.sum fun _ => 1
  unfold wsum at e
  simp only [Nat.mul_one] at e
  rw [e]
  clear e h
  induction T with
  | nil => rfl
  | cons a T ih => rw [List.map_cons, List.sum_cons, ih, List.length_cons]; omega
theorem Lr.empty {L : KD} {T : List (List Nat)} (h : Lr L T) : L = [] ↔ T = [] := by
  have e := h.one_all
  constructor
  · intro c
    rw [c] at e
    exact List.length_eq_zero_iff.mp e.symm
  · intro c
    cases L with
    | nil => rfl
    | cons p L =>
      have := h.pos p List.mem_cons_self
      rw [c, List.map_cons, List.sum_cons] at e
      simp only [List.length_nil] at e
      omega
/-- one more trail, n times -/
theorem mem_sum {x : Nat} : ∀ {l : List Nat}, x ∈ l → x ≤ l.sum
  | a :: l, h => by
    rw [List.sum_cons]
    rcases List.mem_cons.mp h with rfl | h
    · omega
    · have := mem_sum h; omega
theorem Lr.le {L : KD} {T : List (List Nat)} (h : Lr L T) : ∀ e ∈ L, e.2 ≤ T.length := fun e he => by
  rw [← h.one_all]
  exact mem_sum (List.mem_map.mpr ⟨e, he, rfl⟩)
/-- the dict that longer_ways makes; the inner loop, then the outer one -/
def ext1 (G : Grid) (f : KD) (e : (Nat × Nat) × Nat) (xs : List Nat) : KD := xs.foldl (fun f x => if hb e.1.1 x then f else add2 f (e.1.1 + 2 ^ x, x) e.2) f
def longer (G : Grid) (f : KD) (L : KD) : KD := L.foldl (fun f e => ext1 G f e (row G e.1.2)) f
/-- what the dict is while it is made -/
structure Mid (P : Nat × Nat → Prop) (W : (Nat × Nat → Nat) → Nat) (f : KD) : Prop where
  nd : (f.map (·.1)).Nodup
  pos : ∀ e ∈ f, 0 < e.2
  keys : ∀ e ∈ f, P e.1
  sum : ∀ F : Nat × Nat → Nat, wsum F f = W F
theorem Mid.add {P : Nat × Nat → Prop} {W : (Nat × Nat → Nat) → Nat} {f : KD} (h : Mid P W f) {k : Nat × Nat} {n : Nat} (hk : P k) (hn : 0 < n) : Mid P (fun F => W F + n * F k) (add2 f k n) :=
  ⟨put2_nodup h.nd, fun e he => (put2_mem he).elim (fun c => by rw [c]; show 0 < get2 f k + n; omega) (h.pos e), fun e he => (put2_mem he).elim (fun c => by rw [c]; exact hk) (h.keys e), fun F => by rw [wsum_add h.nd, h.sum]⟩
theorem Mid.ext {P : Nat × Nat → Prop} {G : Grid} {e : (Nat × Nat) × Nat} (hn : 0 < e.2) : ∀ {xs : List Nat} {W : (Nat × Nat → Nat) → Nat} {f : KD}, Mid P W f → (∀ x ∈ xs, hb e.1.1 x = false → P (e.1.1 + 2 ^ x, x)) →
    Mid P (fun F => W F + e.2 * ((xs.filter fun x => !hb e.1.1 x).map fun x => F (e.1.1 + 2 ^ x, x)).sum) (ext1 G f e xs)
  | [], W, f, h, _ => ⟨h.nd, h.pos, h.keys, fun F => by rw [show ext1 G f e [] = f from rfl, h.sum]; simp⟩
  | x :: xs, W, f, h, hP => by
    unfold ext1
    rw [List.foldl_cons]
    cases c : hb e.1.1 x with
    | true =>
      rw [if_pos rfl, List.filter_cons_of_neg (by rw [c]; decide)]
      exact Mid.ext (G := G) hn h fun y hy => hP y (List.mem_cons_of_mem _ hy)
    | false =>
      rw [if_neg (by decide), List.filter_cons_of_pos (by rw [c]; decide)]
      have := Mid.ext (G := G) hn (h.add (hP x List.mem_cons_self c) hn) fun y hy => hP y (List.mem_cons_of_mem _ hy)
      refine ⟨this.nd, this.pos, this.keys, fun F => ?_⟩
      have e1 := this.sum F
      unfold ext1 at e1
      rw [e1, List.map_cons, List.sum_cons, Nat.mul_add]
      omega
theorem Mid.longer {P : Nat × Nat → Prop} {G : Grid} : ∀ {L : KD} {W : (Nat × Nat → Nat) → Nat} {f : KD}, (∀ e ∈ L, 0 < e.2 ∧ ∀ x ∈ row G e.1.2, hb e.1.1 x = false → P (e.1.1 + 2 ^ x, x)) → Mid P W f →
    Mid P (fun F => W F + wsum (fun k => (((row G k.2).filter fun x => !hb k.1 x).map fun x => F (k.1 + 2 ^ x, x)).sum) L) (longer G f L)
  | [], W, f, _, h => ⟨h.nd, h.pos, h.keys, fun F => by rw [show TF.longer G f [] = f from rfl, h.sum]; rfl⟩
  | e :: L, W, f, hL, h => by
    obtain ⟨hn, hx⟩ := hL e List.mem_cons_self
    have := Mid.longer (G := G) (fun e he => hL e (List.mem_cons_of_mem _ he)) (Mid.ext (G := G) hn h hx)
    unfold TF.longer at this ⊢
    rw [List.foldl_cons]
    refine ⟨this.nd, this.pos, this.keys, fun F => ?_⟩
    rw [this.sum F]
    unfold wsum
    rw [List.map_cons, List.sum_cons]
    exact Nat.add_assoc _ _ _
/-- one page longer -/
def exts (G : Grid) (T : List (List Nat)) : List (List Nat) := T.flatMap fun t => (kids G t).map fun u => t ++ [u]
theorem lst_snoc (t : List Nat) (u : Nat) : lst (t ++ [u]) = u := by
  unfold lst
  rw [List.getLast?_append]
  rfl
theorem kids_hb {G : Grid} {t : List Nat} (h : TrOk G t) : kids G t = (row G (lst t)).filter fun x => !hb (bits t) x := by
  unfold kids
  refine List.filter_congr fun x _ => ?_
  rw [hb_bits _ (Nat.le_refl _) h.nd, decide_not]
theorem Lr.step {G : Grid} {L : KD} {T : List (List Nat)} (h : Lr L T) (hT : ∀ t ∈ T, TrOk G t) : Lr (longer G [] L) (exts G T) := by
  have M : Mid (fun k => ∃ t ∈ exts G T, (bits t, lst t) = k) (fun _ => 0) ([] : KD) := ⟨by simp, by simp, by simp, fun _ => rfl⟩
  have key : ∀ t u : Nat, True := fun _ _ => trivial
  have := Mid.longer (G := G) (L := L) (fun e he => ⟨h.pos e he, fun x hx hn => by
    obtain ⟨t, ht, ek⟩ := h.keys e he
    refine ⟨t ++ [x], List.mem_flatMap.mpr ⟨t, ht, List.mem_map.mpr ⟨x, ?_, rfl⟩⟩, ?_⟩
    · rw [kids_hb (hT t ht)]
      rw [← ek] at hx hn
      exact List.mem_filter.mpr ⟨hx, by rw [hn]; rfl⟩
    · rw [bits_snoc, lst_snoc, ← ek]⟩) M
  refine ⟨this.nd, this.pos, this.keys, fun F => ?_⟩
  rw [this.sum F, h.sum, Nat.zero_add]
  unfold exts
  clear this M key h
  induction T with
  | nil => rfl
  | cons t T ih =>
    rw [List.map_cons, List.sum_cons, ih fun t ht => hT t (List.mem_cons_of_mem _ ht), List.flatMap_cons, List.map_append, List.sum_append, List.map_map]
    congr 2
    rw [kids_hb (hT t List.mem_cons_self)]
    refine List.map_congr_left fun x _ => ?_
    show F (bits t + 2 ^ x, x) = F (bits (t ++ [x]), lst (t ++ [x]))
    rw [bits_snoc, lst_snoc]
/-! layer by layer -/
def lay (G : Grid) (p : Nat) : Nat → List (List Nat)
  | 0 => [[p]]
  | k + 1 => exts G (lay G p k)
def dct (G : Grid) (p : Nat) : Nat → KD
  | 0 => [((2 ^ p, p), 1)]
  | k + 1 => longer G [] (dct G p k)
theorem lay_ok {G : Grid} (hG : SiteOk G) {p : Nat} (hp : p < G.length) : ∀ (k : Nat), ∀ t ∈ lay G p k, TrOk G t
  | 0, t, ht => by rw [List.mem_singleton.mp ht]; exact one_ok hp
  | k + 1, t, ht => by
    obtain ⟨q, hq, m⟩ := List.mem_flatMap.mp ht
    obtain ⟨u, hu, rfl⟩ := List.mem_map.mp m
    exact (lay_ok hG hp k q hq).kid hG hu
theorem dct_ok {G : Grid} (hG : SiteOk G) {p : Nat} (hp : p < G.length) : ∀ (k : Nat), Lr (dct G p k) (lay G p k)
  | 0 => Lr.one p
  | k + 1 => (dct_ok hG hp k).step (lay_ok hG hp k)
/-- descendants so deep -/
def dep (G : Grid) : Nat → List (List Nat) → List (List Nat)
  | 0, T => T
  | k + 1, T => dep G k (exts G T)
theorem dep_lev (G : Grid) : ∀ (k : Nat) (T : List (List Nat)), (dep G k T).length = (T.map fun t => lev G k t).sum
  | 0, T => by
    show T.length = (T.map fun _ => 1).sum
    induction T with
    | nil => rfl
    | cons a T ih => rw [List.map_cons, List.sum_cons, ← ih, List.length_cons]; omega
  | k + 1, T => by
    show (dep G k (exts G T)).length = _
    rw [dep_lev G k]
    unfold exts
    induction T with
    | nil => rfl
    | cons t T ih =>
      rw [List.flatMap_cons, List.map_append, List.sum_append, ih, List.map_cons, List.sum_cons, List.map_map]
      rfl
theorem dep_out (G : Grid) : ∀ (k : Nat) (T : List (List Nat)), dep G (k + 1) T = exts G (dep G k T)
  | 0, T => rfl
  | k + 1, T => dep_out G k (exts G T)
theorem lay_dep (G : Grid) (p : Nat) : ∀ k, lay G p k = dep G k [[p]]
  | 0 => rfl
  | k + 1 => by rw [dep_out, ← lay_dep G p k]; rfl
theorem lay_len (G : Grid) (p k : Nat) : (lay G p k).length = lev G k [p] := by
  rw [lay_dep, dep_lev]
  rfl
def cum (G : Grid) (p : Nat) : Nat → Nat
  | 0 => 0
  | i + 1 => cum G p i + (lay G p i).length
theorem cum_size (G : Grid) (p : Nat) : ∀ n, cum G p (n + 1) = size G n [p] := by
  have : ∀ n, cum G p n = ((List.range n).map fun j => lev G j [p]).sum := by
    intro n
    induction n with
    | zero => rfl
    | succ n ih =>
      rw [List.range_succ, List.map_append, List.sum_append, ← ih]
      show cum G p n + _ = cum G p n + (lev G n [p] + 0)
      rw [lay_len]
      rfl
  exact fun n => this (n + 1)
theorem lay_end {G : Grid} (hG : SiteOk G) {p : Nat} (hp : p < G.length) : lay G p G.length = [] := by
  refine List.length_eq_zero_iff.mp ?_
  rw [lay_len]
  exact lev_zero hG _ (one_ok hp) (by rw [List.length_singleton]; omega)
theorem lay_stay {G : Grid} {p m : Nat} (h : lay G p m = []) : ∀ d, lay G p (m + d) = []
  | 0 => h
  | d + 1 => by
    show exts G (lay G p (m + d)) = []
    rw [lay_stay h d]
    rfl
theorem cum_stay {G : Grid} {p m : Nat} (h : lay G p m = []) : ∀ d, cum G p (m + d) = cum G p m
  | 0 => rfl
  | d + 1 => by
    show cum G p (m + d) + (lay G p (m + d)).length = _
    rw [lay_stay h d, cum_stay h d]
    rfl
/-- count_trails' number -/
theorem cum_end {G : Grid} (hG : SiteOk G) (ha : Asc G) {p m : Nat} (hp : p < G.length) (hm : m ≤ G.length) (h : lay G p m = []) : cum G p m = (all G p).length := by
  rw [all_len hG ha hp]
  obtain ⟨d, hd⟩ : ∃ d, G.length = m + d := ⟨G.length - m, by omega⟩
  have e := cum_stay h d
  rw [← e, ← hd]
  obtain ⟨n, hn⟩ : ∃ n, G.length = n + 1 := ⟨G.length - 1, by omega⟩
  unfold big
  rw [List.length_singleton, hn, cum_size, Nat.add_sub_cancel]
theorem lay_lt {G : Grid} (hG : SiteOk G) {p k : Nat} (hp : p < G.length) (h : lay G p k ≠ []) : k < G.length := by
  rcases Nat.lt_or_ge k G.length with c | c
  · exact c
  · exfalso
    obtain ⟨d, hd⟩ : ∃ d, k = G.length + d := ⟨k - G.length, by omega⟩
    rw [hd] at h
    exact h (lay_stay (lay_end hG hp) d)
theorem cum_mono (G : Grid) (p : Nat) : ∀ (i d : Nat), cum G p i ≤ cum G p (i + d)
  | i, 0 => Nat.le_refl _
  | i, d + 1 => Nat.le_trans (cum_mono G p i d) (Nat.le_add_right _ _)
theorem lay_le {G : Grid} (hG : SiteOk G) (ha : Asc G) {p : Nat} (hp : p < G.length) (h6 : G.length ≤ 6) (k : Nat) : (lay G p k).length ≤ 326 := by
  by_cases c : lay G p k = []
  · rw [c]; exact Nat.zero_le _
  · have hk := lay_lt hG hp c
    have h1 : cum G p (k + 1) ≤ cum G p G.length := by
      obtain ⟨d, hd⟩ : ∃ d, G.length = k + 1 + d := ⟨G.length - (k + 1), by omega⟩
      rw [hd]
      exact cum_mono G p _ d
    rw [cum_end hG ha hp (Nat.le_refl _) (lay_end hG hp)] at h1
    have h2 := all_le hG ha hp h6
    have h3 : cum G p (k + 1) = cum G p k + (lay G p k).length := rfl
    omega
end TF

set_option Elab.async false
set_option linter.all false
set_option maxRecDepth 100000
set_option maxHeartbeats 4000000
/-! dicts: readings, loops over keys, keys that are texts of lists of digits -/
namespace BC
open PySem PySem.Spec PyProof.Rows L2 Evl
section
variable {K : PySem.W.Frag} {σ : L2.St} {H : Hp} {Q : VK} {QT : Bool → Hp → Prop} {td ty tv tx : TE} {D : Ends} {g : TG} {tb : TS} {c : TE}
theorem x_dnewK : tDNewK σ H Q = ∀ p, H p = none → Q (.ref p) (upd H p (.dK [])) := rfl
theorem x_dnewT : tDNewT σ H Q = ∀ p, H p = none → Q (.ref p) (upd H p (.dT [])) := rfl
theorem x_dget : tDGet td ty σ H Q = td σ H (fun x H1 => ty σ H1 fun y H2 => ∃ a v, x = .ref a ∧ DGet H2 a y (some v) ∧ Q v H2) := rfl
theorem x_dget1 : tDGet1 td ty σ H Q = td σ H (fun x H1 => ∃ a, x = .ref a ∧ IsD H1 a ∧ ty σ H1 fun y H2 => ∃ o, DGet H2 a y o ∧ Q (o.getD .non) H2) := rfl
theorem x_dget2 : tDGet2 td ty tx σ H Q = td σ H (fun x H1 => ∃ a, x = .ref a ∧ IsD H1 a ∧ ty σ H1 fun y H2 => tx σ H2 fun z H3 => ∃ o, DGet H3 a y o ∧ Q (o.getD z) H3) := rfl
theorem x_din : tDIn ty td σ H Q = ty σ H (fun y H1 => td σ H1 fun x H2 => ∃ a o, x = .ref a ∧ DGet H2 a y o ∧ Q (.bl o.isSome) H2) := rfl
theorem x_dnotin : tDNotIn ty td σ H Q = ty σ H (fun y H1 => td σ H1 fun x H2 => ∃ a o, x = .ref a ∧ DGet H2 a y o ∧ Q (.bl (!o.isSome)) H2) := rfl
theorem x_dput : sDPut td ty tv D σ H = tv σ H (fun v H1 => td σ H1 fun x H2 => ty σ H2 fun y H3 => ∃ a H4, x = .ref a ∧ DPut H3 a y v H4 ∧ D.nx σ H4) := rfl
theorem x_ikeys {R : It → Hp → Prop} : iKeys td σ H R = td σ H (fun x H1 => ∃ d o, x = .ref d ∧ ((∃ kvs, H1 d = some (.frz o (.dK kvs)) ∧ R (Itk d o kvs) H1) ∨ ∃ kvs, H1 d = some (.frz o (.dT kvs)) ∧ R (Itkt d o kvs) H1)) := rfl
/-- the keys of a locked dict -/
theorem lg_keys {d : Addr} {o : Obj} {kvs : List (Key × V)} (Pv : Nat → L2.St → Hp → Prop) (h0 : Pv 0 σ H) (hl : ∀ i σ H, i ≤ kvs.length → Pv i σ H → H d = some (.frz o (.dK kvs)))
    (hs : ∀ i k v σ H, kvs[i]? = some (k, v) → Pv i σ H → g (kV k) σ H fun σ2 H2 => tb { D with nx := Pv (i + 1), ct := Pv (i + 1), bk := D.nx } σ2 H2) (hd : ∀ σ H, Pv kvs.length σ H → D.nx σ H) : LoopG (Itk d o kvs) g tb D σ H := by
  refine ⟨fun i m σ H => m = kvs.length - i ∧ i ≤ kvs.length ∧ Pv i σ H, ⟨kvs.length, by simp, Nat.zero_le _, h0⟩, ?_⟩
  rintro i m σ H ⟨rfl, hi, p⟩
  have q := hl i σ H hi p
  by_cases hlt : i < kvs.length
  · refine .inr ⟨⟨q, hlt⟩, Pv (i + 1), fun σ' H' p' => ⟨kvs.length - (i + 1), by omega, rfl, hlt, p'⟩, fun x H' y => ?_⟩
    obtain ⟨rfl, k, v, e, rfl⟩ := y
    exact hs i k v σ _ e p
  · have e : i = kvs.length := by omega
    subst e
    exact .inl ⟨⟨q, Nat.le_refl _⟩, hd σ H p⟩
end
theorem frz_ex {H H' : Hp} {d : Addr} {u x : HO} (h : H d = some u) (e : Ex (upd H d x) H') : Ex H (upd H' d u) := fun a o ho => by
  by_cases q : a = d
  · subst q
    rw [upd_same]
    rw [h] at ho
    exact ho
  · rw [upd_ne q]
    exact e a o (by rw [upd_ne q]; exact ho)
theorem ex_frz {H H' : Hp} {d a : Addr} {o : HO} {x : HO} (q : a ≠ d) (ho : H a = some o) (e : Ex (upd H d x) H') : H' a = some o := e a o (by rw [upd_ne q]; exact ho)
/-! ### lists of digits, shown -/
def Dg (t : List Int) : Prop := ∀ n ∈ t, 0 ≤ n ∧ n < 10
def digL (cs : List Nat) : List Int := (cs.filter fun c => decide (48 ≤ c) && decide (c < 58)).map fun c : Nat => (c : Int) - 48
theorem digL_append (a b : List Nat) : digL (a ++ b) = digL a ++ digL b := by
  unfold digL
  rw [List.filter_append, List.map_append]
theorem digL_one : ∀ k : Fin 10, digL (Str.ofString (toString ((k.val : Nat) : Int))).cps.toList = [((k.val : Nat) : Int)] := by decide +kernel
theorem digL_int {n : Int} (h0 : 0 ≤ n) (h1 : n < 10) : digL (Str.ofString (toString n)).cps.toList = [n] := by
  have h := digL_one ⟨n.toNat, by omega⟩
  rw [show ((n.toNat : Nat) : Int) = n by omega] at h
  exact h
theorem digL_join : ∀ ns : List Int, Dg ns → digL (Str.join ", " (ns.map fun n => ((toString n : String) : Str))).cps.toList = ns
  | [], _ => by decide +kernel
  | [n], h => by
    obtain ⟨h0, h1⟩ := h n List.mem_cons_self
    exact digL_int h0 h1
  | n :: m :: ns, h => by
    obtain ⟨h0, h1⟩ := h n List.mem_cons_self
    have ih := digL_join (m :: ns) fun x hx => h x (List.mem_cons_of_mem _ hx)
    show digL ((((toString n : String) : Str) ++ ", " ++ Str.join ", " ((m :: ns).map fun n => ((toString n : String) : Str))).cps.toList) = _
    rw [cps_toList_append, cps_toList_append, digL_append, digL_append, ih, digL_int h0 h1, signs_sep]
    rfl
theorem digL_shown {ns : List Int} (h : Dg ns) : digL (shInts ns).cps.toList = ns := by
  unfold shInts
  rw [PyData.shown_list, PyData.shownAll_ints, cps_toList_append, cps_toList_append, digL_append, digL_append, digL_join ns h, signs_lbrack, signs_rbrack]
  show [] ++ ns ++ [] = ns
  simp
theorem shInts_inj {a b : List Int} (ha : Dg a) (hb : Dg b) (e : shInts a = shInts b) : a = b := by
  rw [← digL_shown ha, ← digL_shown hb, e]
/-! ### dicts by such texts -/
section
variable {α : Type} {f : α → V}
def kx (t : List Int) : Key := Sum.inr (shInts t)
theorem kx_inj {a b : List Int} (ha : Dg a) (hb : Dg b) : kx a = kx b ↔ a = b := ⟨fun e => shInts_inj ha hb (Sum.inr.inj e), fun e => by rw [e]⟩
def ren (f : α → V) (L : List (List Int × α)) : List (Key × V) := L.map fun p => (kx p.1, f p.2)
def getA (L : List (List Int × α)) (t : List Int) : Option α := (L.find? fun p => decide (p.1 = t)).map (·.2)
def putA (L : List (List Int × α)) (t : List Int) (a : α) : List (List Int × α) := if (L.any fun p => decide (p.1 = t)) = true then L.map (fun p => if p.1 = t then (p.1, a) else p) else L ++ [(t, a)]
theorem ren_val (t : List Int) (ht : Dg t) : ∀ L : List (List Int × α), (∀ p ∈ L, Dg p.1) → valV (ren f L) (kx t) = (getA L t).map f
  | [], _ => rfl
  | p :: L, h => by
    have ih := ren_val t ht L fun q hq => h q (List.mem_cons_of_mem _ hq)
    have hp := h p List.mem_cons_self
    show valV ((kx p.1, f p.2) :: ren f L) (kx t) = _
    by_cases e : p.1 = t
    · rw [valV_pos (by show kx p.1 = kx t; rw [e])]
      simp [getA, e]
    · rw [valV_neg (by show ¬ kx p.1 = kx t; rw [kx_inj hp ht]; exact e), ih]
      simp [getA, e]
theorem ren_any (t : List Int) (ht : Dg t) : ∀ L : List (List Int × α), (∀ p ∈ L, Dg p.1) → ((ren f L).any fun kv => decide (kv.1 = kx t)) = L.any fun p => decide (p.1 = t)
  | [], _ => rfl
  | p :: L, h => by
    have ih := ren_any t ht L fun q hq => h q (List.mem_cons_of_mem _ hq)
    have hp := h p List.mem_cons_self
    show (decide (kx p.1 = kx t) || (ren f L).any fun kv => decide (kv.1 = kx t)) = _
    rw [ih, List.any_cons]
    congr 1
    exact decide_eq_decide.mpr (kx_inj hp ht)
theorem ren_put (t : List Int) (ht : Dg t) (a : α) (L : List (List Int × α)) (h : ∀ p ∈ L, Dg p.1) : putK (ren f L) (kx t) (f a) = ren f (putA L t a) := by
  unfold putK putA
  rw [ren_any t ht L h]
  by_cases c : (L.any fun p => decide (p.1 = t)) = true
  · rw [if_pos c, if_pos c]
    unfold ren
    rw [List.map_map, List.map_map]
    refine List.map_congr_left fun p hp => ?_
    show (if kx p.1 = kx t then (kx p.1, f a) else (kx p.1, f p.2)) = _
    by_cases e : p.1 = t
    · rw [if_pos (by rw [e])]
      show _ = (kx (if p.1 = t then (p.1, a) else p).1, f (if p.1 = t then (p.1, a) else p).2)
      rw [if_pos e]
    · rw [if_neg (by rw [kx_inj (h p hp) ht]; exact e)]
      show _ = (kx (if p.1 = t then (p.1, a) else p).1, f (if p.1 = t then (p.1, a) else p).2)
      rw [if_neg e]
  · rw [if_neg c, if_neg c]
    unfold ren
    rw [List.map_append]
    rfl
theorem putA_key {L : List (List Int × α)} {t : List Int} {a : α} {p : List Int × α} (h : p ∈ putA L t a) : p.1 = t ∨ ∃ q ∈ L, q.1 = p.1 := by
  unfold putA at h
  split at h
  · obtain ⟨q, hq, rfl⟩ := List.mem_map.mp h
    refine .inr ⟨q, hq, ?_⟩
    split <;> rfl
  · rcases List.mem_append.mp h with h | h
    · exact .inr ⟨p, h, rfl⟩
    · rw [List.mem_singleton.mp h]
      exact .inl rfl
theorem putA_len (L : List (List Int × α)) (t : List Int) (a : α) : (putA L t a).length ≤ L.length + 1 := by
  unfold putA
  split
  · rw [List.length_map]; omega
  · rw [List.length_append, List.length_singleton]; omega
theorem ren_len (L : List (List Int × α)) : (ren f L).length = L.length := by unfold ren; rw [List.length_map]
theorem ren_at {L : List (List Int × α)} {i : Nat} {k : Key} {v : V} (h : (ren f L)[i]? = some (k, v)) : ∃ t a, L[i]? = some (t, a) ∧ k = kx t ∧ v = f a := by
  unfold ren at h
  rw [List.getElem?_map] at h
  cases e : L[i]? with
  | none => rw [e] at h; cases h
  | some p => rw [e] at h; cases h; exact ⟨p.1, p.2, rfl, rfl, rfl⟩
end
end BC
namespace BC
open PySem PySem.Spec PyProof.Rows L2 Evl
section
variable {α : Type} {f : α → V}
theorem putA_nodup {L : List (List Int × α)} {t : List Int} {a : α} (h : (L.map (·.1)).Nodup) : ((putA L t a).map (·.1)).Nodup := by
  unfold putA
  split
  · rw [List.map_map]
    have e : ((fun p : List Int × α => p.1) ∘ fun p : List Int × α => if p.1 = t then (p.1, a) else p) = fun p => p.1 := funext fun p => by
      show (if p.1 = t then (p.1, a) else p).1 = p.1
      split <;> rfl
    rw [e]
    exact h
  · next c =>
    rw [List.map_append, List.nodup_append]
    refine ⟨h, by simp, fun x hx y hy e => ?_⟩
    obtain ⟨p, hp, rfl⟩ := List.mem_map.mp hx
    have hy' : y = t := by simpa using hy
    refine c (List.any_eq_true.mpr ⟨p, hp, decide_eq_true ?_⟩)
    rw [e, hy']
theorem getA_at : ∀ {L : List (List Int × α)} {i : Nat} {t : List Int} {a : α}, (L.map (·.1)).Nodup → L[i]? = some (t, a) → getA L t = some a
  | [], _, _, _, _, h => by simp at h
  | p :: L, 0, t, a, _, h => by
    have : p = (t, a) := by simpa using h
    subst this
    simp [getA]
  | p :: L, i + 1, t, a, nd, h => by
    rw [List.map_cons, List.nodup_cons] at nd
    have h' : L[i]? = some (t, a) := by simpa using h
    have ih := getA_at nd.2 h'
    have ne : p.1 ≠ t := fun e => nd.1 (List.mem_map.mpr ⟨(t, a), List.mem_of_getElem? h', e.symm⟩)
    unfold getA at ih ⊢
    rw [List.find?_cons, decide_eq_false ne]
    exact ih
end
/-- what stands at a text's key, counted -/
theorem ren_get {L : List (List Int × Int)} {t : List Int} (ht : Dg t) (h : ∀ p ∈ L, Dg p.1) : (valV (ren V.int L) (kx t)).getD (.int 0) = .int ((getA L t).getD 0) := by
  rw [ren_val t ht L h]
  cases getA L t <;> rfl
theorem ints_at {ns : List Int} {i : Nat} {v : V} (h : (ns.map V.int)[i]? = some v) : ∃ n, ns[i]? = some n ∧ v = .int n := by
  rw [List.getElem?_map] at h
  cases e : ns[i]? with
  | none => rw [e] at h; cases h
  | some n => rw [e] at h; cases h; exact ⟨n, rfl, rfl⟩
theorem refs_at {ps : List Addr} {i : Nat} {v : V} (h : (ps.map V.ref)[i]? = some v) : ∃ q, ps[i]? = some q ∧ v = .ref q := by
  rw [List.getElem?_map] at h
  cases e : ps[i]? with
  | none => rw [e] at h; cases h
  | some n => rw [e] at h; cases h; exact ⟨n, rfl, rfl⟩
theorem tyS {K : PySem.W.Frag} {H : Hp} {x : Str} : tyV K "str" (.str x) H := rfl
end BC

set_option Elab.async false
set_option linter.all false
set_option maxRecDepth 100000
set_option maxHeartbeats 4000000
/-! dicts whose keys are tuples: for (k, v) in d.items(), list(d.values()), d != {} -/
namespace BC
open PySem PySem.Spec PyProof.Rows L2 Evl
section
variable {X : Cx} {pins : List (Addr × Obj)} {σ : L2.St} {H : Hp} {s : Shared} {d : Addr} {o : Obj}
theorem entry_atT {α : Type} {f : α → DictEntry} {es : Array DictEntry} {xs : List α} (he : es.toList = xs.map f) (i : Nat) : es[i]? = (xs[i]?).map f := by
  rw [← Array.getElem?_toList, he, List.getElem?_map]
/-- a locked dict, entry by entry -/
theorem frzT2 {kvs : List (List Key × V)} (I : Inv X pins σ H s) (h : H d = some (.frz o (.dT kvs))) :
    (d == sysModules) = false ∧ s.heap.get? d = some o ∧ o.ExactDict ∧ ∃ (es : Array DictEntry) (ep : Nat), o.data = .dict es ep ∧ es.size = kvs.length ∧ kvs.length ≤ sizeLine ∧
      ∀ (i : Nat) (hi : i < es.size) (k : List Key) (v : V), kvs[i]? = some (k, v) → ∃ (q : Addr), es[i].key = .ref q ∧ H q = some (.tup (k.map kV)) ∧ RelV v es[i].val := by
  obtain ⟨hd, z, hs, xs, pr, o', es, ep, ho, hx, hdt, he, _⟩ := I.hok d _ h
  rw [hd] at ho
  cases ho
  have l1 : es.size = xs.length := size_of_entries he
  have l2 : kvs.length = xs.length := Paired.length pr
  refine ⟨hs, hd, hx, es, ep, hdt, by omega, z, fun i hi k v e => ?_⟩
  obtain ⟨b, hb, e1, e2, e3⟩ := paired_get pr e
  have q := entry_atT he i
  rw [hb, Array.getElem?_eq_getElem hi] at q
  have q2 : es[i] = entryOfKey (tupleKind (mixKind X.prog X.w)) b := Option.some.inj q
  rw [q2]
  exact ⟨b.2.1, rfl, e2, e3⟩
theorem vals_of_get : ∀ {xs : List V} {us : List Value}, xs.length = us.length → (∀ (j : Nat) v u, xs[j]? = some v → us[j]? = some u → RelV v u) → Vals xs us
  | [], [], _, _ => .nil
  | x :: xs, u :: us, hl, h => .cons (h 0 x u rfl rfl) (vals_of_get (by simpa using hl) fun j v w a b => h (j + 1) v w a b)
theorem raw_of {h : Heap} {es : Array DictEntry} {ep : Nat} (e : h.get? d = some o) (hx : o.ExactDict) (hd : o.data = .dict es ep) : DT.Raw h d es ep := ⟨o, e, hx, hd⟩
end
/-- the pairs of a locked dict, each a new tuple -/
def Itit (d : Addr) (o : Obj) (kvs : List (List Key × V)) : It :=
  ⟨fun i H => H d = some (.frz o (.dT kvs)) ∧ i < kvs.length, fun i H x H' => ∃ T q k v, kvs[i]? = some (k, v) ∧ H q = some (.tup (k.map kV)) ∧ x = .ref T ∧ H T = none ∧ H' = upd H T (.tup [.ref q, v]), fun i H => H d = some (.frz o (.dT kvs)) ∧ kvs.length ≤ i⟩
theorem turn_itemsT {P : Program} {w : World} {K : PySem.W.Frag} {d : Addr} {o : Obj} {es : Array DictEntry} {ep : Nat} {kvs : List (List Key × V)} {elts : List Expr} {kk : Nat} {tpos : Pos} (it : Addr) (hod : o.data = .dict es ep) :
    Turn P w K (.Tuple elts kk tpos) (Itit d o kvs) [it] it (fun i h => ∃ ok ov, IsItemIter h it d i es.size ep ok ov) where
  mem := by simp
  obj := fun i h st b hb => by
    have e : b = it := by simpa using hb
    subst e
    obtain ⟨ok, ov, e⟩ := st
    exact ⟨_, e, fun v z => nomatch z⟩
  keep := fun i h h' st k => let ⟨ok, ov, e⟩ := st; ⟨ok, ov, k it (by simp) _ e⟩
  item := by
    intro X hP hw hK hc i pins s σ H E I hf st hg
    subst hP hw hK
    obtain ⟨hd, hi⟩ := hg
    obtain ⟨hs, hgd, hx, es', ep', hdt, hsz, hz, ent⟩ := frzT2 I hd
    obtain ⟨rfl, rfl⟩ := dict_ep hod hdt
    obtain ⟨⟨k, v⟩, hkv⟩ : ∃ p, kvs[i]? = some p := ⟨kvs[i], List.getElem?_eq_getElem hi⟩
    have hie : i < es'.size := by omega
    obtain ⟨q, hkey, hq, ru⟩ := ent i hie k v hkv
    obtain ⟨ok, ov, he⟩ := st
    have hlt : it < s.heap.objs.size := Heap.lt_size he
    refine DT.nextI he (raw_of hgd hx hdt) hie fun h' ho hT hz' hk => ?_
    refine ⟨_, rfl, wpAny_letOwnedTupleGo_items (s := { s with heap := h' }) ho fun h'' he' sb => ?_⟩
    have hT2 : h''.get? s.heap.objs.size = some { cls := .type "tuple", data := .seq #[es'[i].key, es'[i].val] } := (sb.2 _ (Nat.ne_of_gt hlt)).trans hT
    have new : ObjOk X.prog X.w (upd H s.heap.objs.size (.tup [.ref q, v])) h'' s.heap.objs.size (.tup [.ref q, v]) :=
      ⟨by show 2 ≤ sizeLine; decide, [es'[i].key, es'[i].val], .cons hkey (.cons ru .nil), ⟨_, hT2, rfl, _, rfl⟩⟩
    have I1 : Inv X pins σ (upd H s.heap.objs.size (.tup [.ref q, v])) { s with heap := h'' } :=
      I.turnedNew (t' := s.toks) (ch := [it]) (fun b ob hb e => (sb.2 b (by simpa using hb)).trans (hk b ob (by simpa using hb) e)) hf (Nat.le_refl _) new
    refine ⟨.ref s.heap.objs.size, _, I1, rfl, ⟨_, q, k, v, hkv, hq, rfl, I.hok.fresh (Nat.le_refl _), rfl⟩, ⟨_, _, he'⟩, fun b hb => ?_⟩
    have e : b = it := by simpa using hb
    rw [e, upd_ne (Nat.ne_of_lt hlt)]
    exact (hf it (by simp)).1
  done := by
    intro X hP hw hK hc i pins s σ H E I hf st hg
    subst hP hw hK
    obtain ⟨hd, hi⟩ := hg
    obtain ⟨f0, f1, f2, f3, f4, f5⟩ := hf it (by simp)
    obtain ⟨hs, hgd, hx, es', ep', hdt, hsz, hz, ent⟩ := frzT2 I hd
    obtain ⟨rfl, rfl⟩ := dict_ep hod hdt
    obtain ⟨ok, ov, he⟩ := st
    exact DT.endI (I.ok.hd hc) he (raw_of hgd hx hdt) (by omega) fun h' eb => ⟨rfl, I.turned (t' := s.toks) (fun b ob hb e => eb b ob hb e) f0 f1 f3 f4 f5⟩
  self := fun A i s Q E st h => let ⟨_, _, e⟩ := st; PySem.W.kcp_self e h
def iItemsT (td : TE) : TI := fun σ H R => td σ H fun x H1 => ∃ d o kvs, x = .ref d ∧ H1 d = some (.frz o (.dT kvs)) ∧ R (Itit d o kvs) H1
section
variable {X : Cx} {K : PySem.W.Frag} {e : Expr} {td : TE} {apos cpos : Pos}
theorem pi_itemsT {elts : List Expr} {kk : Nat} {tpos : Pos} (he : PE X e td) (hbase : attributeBase e "items" X.env (eval e X.env) = eval e X.env := by rfl) (hline : (apos.endLine == cpos.line) = true := by rfl) :
    PI X (.Tuple elts kk tpos) (.Call (.Attribute e "items" apos) [] [] cpos) (iItemsT td) := by
  refine ⟨fun pins s σ H R I h => ?_⟩
  refine wpAny_Call_method (T := "dict") (id := "dict.items") hbase rfl hline PySem.F.plainAttrs_dict PySem.F.slot_dict_items PySem.F.type_dict_items (thn (he.run pins s σ H _ I h) fun u s1 ⟨x, H1, I1, rx, d, o, kvs, ex, hd, q⟩ => ?_)
  subst ex
  obtain rfl : u = Value.ref d := rx
  obtain ⟨hs, hgd, hx, es, ep, hdt, hsz, hz, ent⟩ := frzT2 I1 hd
  have hm := raw_of hgd hx hdt
  refine ⟨hm.typeIs, fun a q => by cases q; exact ⟨o, hgd, hx.2.1⟩, ?_⟩
  have I2 : Inv X pins σ H1 { s1 with heap := s1.heap.push { cls := .type "dict_items", data := .fields #[.ref d] } } := I1.kept (t' := s1.toks) fun b ob q => Heap.get?_push_of_some _ q
  have fin : wpAny (model X.prog X.w) X.A (pyIter (.ref s1.heap.objs.size)) (PIE X pins σ (.Tuple elts kk tpos) R) X.xe { s1 with heap := s1.heap.push { cls := .type "dict_items", data := .fields #[.ref d] } } := by
    refine DT.iterI (d := d) ⟨_, Heap.get?_push_size _ rfl, rfl, rfl⟩ (hm.push _) (pi_one (tk := s1.toks) I2 _ (turn_itemsT _ hdt) ⟨.none, .none, ?_⟩ q)
    exact Heap.get?_push_size _ rfl
  show wpAny _ _ (callWith cpos (.builtin "dict.items") [.ref d] [] []) _ X.xe s1
  exact method_meetsIn PySem.F.slot_dict_items PySem.F.entry_dict_items rfl (PySem.evalArgs_none ⟨rfl, hm.typeIs, PySem.F.args_dict_items_1 _, _, DT.meetsItems (es := es) (ep := ep) hs, hm, fin⟩)
theorem x_iitemsT {σ : L2.St} {H : Hp} {R : It → Hp → Prop} : iItemsT td σ H R = td σ H fun x H1 => ∃ d o kvs, x = .ref d ∧ H1 d = some (.frz o (.dT kvs)) ∧ R (Itit d o kvs) H1 := rfl
end
/-! ### list(d.values()) -/
section
variable {X : Cx} {K : PySem.W.Frag} {e : Expr} {td : TE} {apos ipos cpos lpos : Pos}
def tValsT (td : TE) : TE := fun σ H Q => td σ H fun x H1 => ∃ d kvs, x = .ref d ∧ H1 d = some (.dT kvs) ∧ ∀ p, H1 p = none → Q (.ref p) (upd H1 p (.lst (kvs.map (·.2))))
theorem pe_valsT (hc : X.calm = true) (hg : Gl X "list") (hm : X.mg "list" = none) (he : PE X e td) (hbase : attributeBase e "values" X.env (eval e X.env) = eval e X.env := by rfl) (hline : (apos.endLine == cpos.line) = true := by rfl)
    (na : starEach [Expr.Call (.Attribute e "values" apos) [] [] cpos] X.env = (false, eval (.Call (.Attribute e "values" apos) [] [] cpos) X.env) :: starEach [] X.env := by rfl) :
    PE X (.Call (.Name "list" lpos) [.Call (.Attribute e "values" apos) [] [] cpos] [] ipos) (tValsT td) := by
  refine ⟨fun pins s σ H Q I h => ?_⟩
  refine Call_ (ld_blt I hg hm (show bootBuiltins ("list" : Str) = some (.type "list") by decide +kernel) ?_)
  refine callWith_type1 (args_cons ?_ na) na rfl
  refine wpAny_Call_method (T := "dict") (id := "dict.values") hbase rfl hline PySem.F.plainAttrs_dict PySem.F.slot_dict_values PySem.F.type_dict_values (thn (he.run pins s σ H _ I h) fun u s1 ⟨x, H1, I1, rx, d, kvs, ex, hd, q⟩ => ?_)
  subst ex
  obtain rfl : u = Value.ref d := rx
  obtain ⟨z, hs, xs, pr, o, es, ep, ho, hx, hdt, hent, hn⟩ := I1.hok d _ hd
  have l1 : es.size = xs.length := size_of_entries hent
  have l2 : kvs.length = xs.length := Paired.length pr
  have hm1 : s1.heap.DictRaw d es ep := ⟨o, ho, hx, hdt⟩
  refine ⟨hm1.typeIs, fun a q => by cases q; exact ⟨o, ho, hx.2.1⟩, ?_⟩
  show wpAny _ _ (callWith cpos (.builtin "dict.values") [.ref d] [] []) _ X.xe s1
  refine method_meetsIn PySem.F.slot_dict_values PySem.F.entry_dict_values rfl (PySem.evalArgs_none ⟨rfl, hm1.typeIs, PySem.F.args_dict_values_1 _, _, meets_dict_values_raw d hs, ⟨es, ep, hm1⟩, ?_⟩)
  have I2 : Inv X pins σ H1 { s1 with heap := s1.heap.push { cls := .type "dict_values", data := .fields #[.ref d] } } := I1.kept (t' := s1.toks) fun b ob q => Heap.get?_push_of_some _ q
  refine args_nil ?_
  refine PySem.W.kdl_call (KdlSrc.rawValues (r := s1.heap.objs.size) (d := d) (es := es) (ep := ep)) (I2.ok.hd hc) ⟨⟨_, Heap.get?_push_size _ rfl, rfl, rfl⟩, hm1.push _⟩ (by omega) fun h' tk acc' c' kp e it => ?_
  have hl : acc'.toList.length = xs.length := by rw [Array.length_toList, it.1]; exact l1
  have rv : Vals (kvs.map (·.2)) acc'.toList := by
    refine vals_of_get (by rw [List.length_map, l2, hl]) fun j v u hv hu => ?_
    obtain ⟨hj, ev⟩ := it.2 j u (by rw [← Array.getElem?_toList]; exact hu)
    rw [List.getElem?_map] at hv
    obtain ⟨kv, hkv, rfl⟩ : ∃ kv, kvs[j]? = some kv ∧ kv.2 = v := by
      cases c : kvs[j]? with
      | none => rw [c] at hv; cases hv
      | some kv => rw [c] at hv; exact ⟨kv, rfl, Option.some.inj hv⟩
    obtain ⟨b, hb, e1, e2, e3⟩ := paired_get pr (show kvs[j]? = some (kv.1, kv.2) from hkv)
    have q2 := entry_atT hent j
    rw [hb, Array.getElem?_eq_getElem hj] at q2
    have q3 : es[j] = entryOfKey (tupleKind (mixKind X.prog X.w)) b := Option.some.inj q2
    rw [ev, q3]
    exact e3
  have hz : (kvs.map (·.2)).length ≤ sizeLine := by rw [List.length_map]; exact z
  have hp : H1 (s1.heap.push { cls := .type "dict_values", data := .fields #[.ref d] }).objs.size = none := I2.hok.fresh (Nat.le_refl _)
  refine ⟨.ref _, _, I2.laid (t' := tk) (o := .lst (kvs.map (·.2))) kp (Nat.le_refl _) ?_, rfl, q _ hp⟩
  exact ⟨hz, acc'.toList, c', rv, by rw [Array.toArray_toList]; exact e⟩
theorem x_valsT {σ : L2.St} {H : Hp} {Q : VK} : tValsT td σ H Q = td σ H fun x H1 => ∃ d kvs, x = .ref d ∧ H1 d = some (.dT kvs) ∧ ∀ p, H1 p = none → Q (.ref p) (upd H1 p (.lst (kvs.map (·.2)))) := rfl
end
/-! ### d != {} -/
section
variable {prog : Program} {w : World} {A : Around} {E : Value → Shared → Prop} {s : Shared}
theorem same_empty {nm : String} {a b : Addr} {es : Array DictEntry} {ep ep' : Nat} {Q : Bool → Shared → Prop} (ha : (a == sysModules) = false) (hb : (b == sysModules) = false) (da : DT.Raw s.heap a es ep) (db : DT.Raw s.heap b #[] ep') (h : Q (es.size == 0) s) :
    wpAny (model prog w) A (Builtin.Dict.samePairs nm a b) Q E s := by
  obtain ⟨oa, hoa, _, hda⟩ := da
  obtain ⟨ob, hob, _, hdb⟩ := db
  unfold Builtin.Dict.samePairs Builtin.Dict.showsAll
  rw [if_neg (show ¬ (a == sysModules) = true by rw [ha]; exact Bool.false_ne_true), if_neg (show ¬ (b == sysModules) = true by rw [hb]; exact Bool.false_ne_true)]
  refine wpAny_bind (wpAny_pure (wpAny_bind (wpAny_pure ?_)))
  refine wpAny_bind (wpAny_dictEntries hoa hda ?_)
  dsimp only
  refine wpAny_bind (wpAny_dictEntries hob hdb ?_)
  by_cases hsz : es.size = 0
  case neg =>
    rw [if_pos (by simpa using hsz)]
    have hbf : (es.size == 0) = false := by simpa using hsz
    rw [hbf] at h
    exact wpAny_bind (wpAny_rule (wpAny_pure h))
  case pos =>
    rw [if_neg (by rw [hsz]; decide)]
    refine wpAny_bind (wpAny_dictEpoch hoa hda ?_)
    refine wpAny_bind ?_
    rw [Std.Legacy.Range.forIn_eq_forIn_range']
    simp only [Std.Legacy.Range.size, Nat.sub_zero, Nat.add_sub_cancel, Nat.div_one, hsz]
    have h' : Q true s := by rw [hsz] at h; exact h
    exact wpAny_pure (wpAny_pure h')
theorem ne_empty {a b : Addr} {es : Array DictEntry} {ep ep' : Nat} {Q : Value → Shared → Prop} (ha : (a == sysModules) = false) (hb : (b == sysModules) = false) (da : DT.Raw s.heap a es ep) (db : DT.Raw s.heap b #[] ep') (hu : A.units < cLine) (h : Q (.bool (!(es.size == 0))) s) :
    wpAny (model prog w) A (compareOp .NotEq (.ref a) (.ref b)) Q E s := by
  refine wpAny_richCompare_same_room (op := .NotEq) da.typeIs db.typeIs PySem.F.slot_dict_ne (wpAny_call_entry PySem.F.slot_dict_ne da.typeIs PySem.F.entry_dict_ne ?_ (PySem.F.args_dict_ne_2 _ _)) hu
  show wpAny _ _ (Builtin.Dict.dictSlotArgs "__ne__" ⟨[.ref a, .ref b], []⟩ >>= _) _ _ s
  refine wpAny_bind ?_
  unfold Builtin.Dict.dictSlotArgs
  refine wpAny_bind (wpAny_notOrdered_dict da.typeIs ?_)
  show wpAny _ _ (pure (Value.ref a, Value.ref b)) _ _ s
  refine wpAny_pure ?_
  refine wpAny_bind (wpAny_isInstance (T := "dict") db.typeIs PySem.F.sub_dict_dict ?_)
  simp only [Bool.not_true, Bool.false_eq_true, if_false]
  refine wpAny_bind (wpAny_pure (wpAny_bind (wpAny_pure ?_)))
  refine wpAny_bind (same_empty ha hb da db ?_)
  refine wpAny_pure ⟨_, rfl, ?_, ?_⟩
  · exact fun x => nomatch x
  · simpa using h
end
section
variable {X : Cx}
def rNeE : R2 := fun x y H Q => ∃ a b kvs, x = .ref a ∧ y = .ref b ∧ H a = some (.dT kvs) ∧ H b = some (.dT []) ∧ Q (.bl (!decide (kvs = []))) H
theorem op_neE (hu : X.A.units + 64 < cLine) : OpR X (compareOp .NotEq) rNeE := by
  intro pins s σ H x y v u Q I rx ry h
  obtain ⟨a, b, kvs, rfl, rfl, ea, eb, q⟩ := h
  obtain rfl : v = Value.ref a := rx
  obtain rfl : u = Value.ref b := ry
  obtain ⟨_, ya, xs, pr, oa, es, ep, hoa, hxa, hda, hent, _⟩ := (show ObjOk X.prog X.w H s.heap a (.dT kvs) from I.hok a _ ea)
  obtain ⟨_, yb, xs2, pr2, ob, es2, ep2, hob, hxb, hdb, hent2, _⟩ := (show ObjOk X.prog X.w H s.heap b (.dT []) from I.hok b _ eb)
  cases pr2
  have z2 : es2 = #[] := by
    apply Array.toList_inj.mp
    rw [hent2]
    rfl
  subst z2
  have l1 : es.size = xs.length := size_of_entries hent
  have l2 : kvs.length = xs.length := Paired.length pr
  have e : (!(es.size == 0)) = (!decide (kvs = [])) := by
    rw [l1, ← l2]
    cases kvs with
    | nil => rfl
    | cons x r => simp
  refine ne_empty ya yb (raw_of hoa hxa hda) (raw_of hob hxb hdb) (by omega) ?_
  rw [e]
  exact ⟨.bl _, H, I, rfl, q⟩
end
/-! ### {(a, b): v} -/
section
variable {X : Cx} {pos : Pos} {k v : Expr} {tk tv : TE}
def tDispT1 (tk tv : TE) : TE := fun σ H Q => ∀ p, H p = none → tk σ (upd H p (.dT [])) fun x H1 => tv σ H1 fun y H2 => ∃ (q : Addr) (ks : List Key), x = .ref q ∧ H2 q = some (.tup (ks.map kV)) ∧ H2 p = some (.dT []) ∧ Q (.ref p) (upd H2 p (.dT [(ks, y)]))
theorem pe_dispT1 (hu : X.A.units + 1 < cLine) (hk : PE X k tk) (hv : PE X v tv) : PE X (.Dict [some k] [v] pos) (tDispT1 tk tv) := by
  refine ⟨fun pins s σ H Q I q => ?_⟩
  have hn := I.hok.fresh (Nat.le_refl s.heap.objs.size)
  have I1 := I.laid (a := s.heap.objs.size) (o := .dT []) (h' := s.heap.push { cls := .type "dict", data := .dict #[] }) (t' := s.toks) (fun _ _ q => Heap.get?_push_of_some _ q) (Nat.le_refl _) (dt_empty s.heap I.big)
  have pp : PPs X pos [some k] [v] [(tk, tv)] := pps_cons hk hv pps_nil
  have hp : tPairs [(tk, tv)] σ (upd H s.heap.objs.size (.dT [])) fun ps H2 => match ps with
      | [(x, y)] => ∃ (q : Addr) (ks : List Key), x = .ref q ∧ H2 q = some (.tup (ks.map kV)) ∧ H2 s.heap.objs.size = some (.dT []) ∧ Q (.ref s.heap.objs.size) (upd H2 s.heap.objs.size (.dT [(ks, y)]))
      | _ => False := q _ hn
  have hl : (pairTrees [some k] [v] X.env pos).length = 1 := pairTrees_length [some k] [v] X.env pos rfl rfl
  rw [arm_eval_Dict, zip_pairTrees [some k] [v] X.env pos rfl rfl, dictDisplay_pairs _ (fun he => by rw [he] at hl; cases hl) (by rw [hl]; omega)]
  refine wpAny_bind (wpAny_standAt (wpAny_bind (wpAny_subDictH (knd := tupleKind (mixKind X.prog X.w)) (Q := fun d s' => wpAny (model X.prog X.w) X.A (pure (Value.ref d)) (EP X pins σ Q) X.xe s') (show X.A.units < cLine by omega) (by rw [hl]; omega)
    (wpAny_mono (pp.run pins _ σ _ _ I1 hp) (fun ws s2 h2 => ?_) fun _ _ e => e))))
  obtain ⟨ps, H2, I2, rel, h3⟩ := h2
  match ps, rel, h3 with
  | [(x, y)], rel, h3 =>
    obtain ⟨qa, ks, rfl, hq, hP, q2⟩ := h3
    cases rel with
    | @cons a b as bs r1 r2 =>
      cases r2
      obtain ⟨b1, b2⟩ := b
      obtain ⟨ra, rb⟩ := r1
      cases ra
      obtain ⟨z, hd, xs, kt, dd⟩ := dt_of I2.hok hP
      cases kt
      refine ⟨[(ks, qa, b2)], ⟨rfl, rfl, key_of I2.hok hq, trivial⟩, dd, fun h' tk' dd' hs => wpAny_pure ⟨.ref s.heap.objs.size, _, ?_, rfl, q2⟩⟩
      obtain ⟨qo, es, ep, hqo, h2', h3', h4', _, h5'⟩ := dd'
      refine d_write I2 (by rw [hP]; exact True.intro) hs ⟨qo, hqo⟩ ⟨by show 1 ≤ sizeLine; decide, hd, [(ks, qa, b2)], .cons ⟨rfl, ?_, rb⟩ .nil, qo, es, ep, hqo, h2', h3', h4', h5'⟩
      rw [upd_ne (ne_of hq hP (fun z => nomatch z))]
      exact hq
theorem x_dispT1 {σ : L2.St} {H : Hp} {Q : VK} : tDispT1 tk tv σ H Q = ∀ p, H p = none → tk σ (upd H p (.dT [])) fun x H1 => tv σ H1 fun y H2 => ∃ (q : Addr) (ks : List Key), x = .ref q ∧ H2 q = some (.tup (ks.map kV)) ∧ H2 p = some (.dT []) ∧ Q (.ref p) (upd H2 p (.dT [(ks, y)])) := rfl
end
end BC

set_option Elab.async false
set_option linter.all false
set_option maxRecDepth 100000
set_option maxHeartbeats 4000000
/-! constants that are tuples of numbers, sorted of a list of lists of numbers that ascends already -/
namespace BC
open PySem PySem.Spec PyProof.Rows L2 Evl
/-- a tuple of numbers that the module holds -/
def TupK (K : PySem.W.Frag) (a : Addr) (ns : List Int) : Prop := ∃ (o : Obj) (its : Array Value) (n : Nat), K.lookup a = some o ∧ o.cls = .type "tuple" ∧ o.data = .seq its n ∧ its.size ≤ sizeLine ∧ Vals (ns.map V.int) its.toList
theorem TupK.at {K : PySem.W.Frag} {a : Addr} {ns : List Int} (h : TupK K a ns) (H : Hp) : SqT K H a (ns.map V.int) := .inr h
/-! ### sorted(rows) -/
def rSortLL : List V → Hp → VK → Prop := fun xs H Q => ∃ (a : Addr) (F : Grid), xs = [.ref a] ∧ GridAt H a F ∧ F.Pairwise (fun x y => nz x < nz y) ∧ ∀ p H', H p = none → Ex H H' → GridAt H' p F → Q (.ref p) H'
theorem each_zip {P : Addr → List Nat → Prop} : ∀ (rs : List Addr) (ls : List (List Nat)), rs.length = ls.length → (∀ (i : Nat) (r : Addr) (l : List Nat), rs[i]? = some r → ls[i]? = some l → P r l) →
    PySem.W.EachIs (fun (v : Value) (b : Addr × List Nat) => v = .ref b.1 ∧ P b.1 b.2) (rs.map Value.ref) (rs.zip ls)
  | [], [], _, _ => .nil
  | r :: rs, l :: ls, hl, h => .cons ⟨rfl, h 0 r l rfl rfl⟩ (each_zip rs ls (by simpa using hl) fun i r l a b => h (i + 1) r l a b)
theorem each_refs : ∀ {out : List Value} {bs : List (Addr × List Nat)}, PySem.W.EachIs (fun (v : Value) b => v = .ref b.1) out bs → out = (bs.map (·.1)).map Value.ref
  | _, _, .nil => rfl
  | _, _, .cons h t => by rw [h, each_refs t]; rfl
theorem vals_refs' : ∀ {rs : List Addr} {vs : List Value}, Vals (rs.map V.ref) vs → vs = rs.map Value.ref
  | [], _, h => by cases h; rfl
  | r :: rs, _, h => by
    cases h with
    | cons h t => rw [vals_refs' t, show _ = Value.ref r from h]; rfl
theorem cr_sortLL {X : Cx} (hc : X.calm = true) (hu : X.A.units + 64 < cLine) : CallR X (.builtin "sorted") rSortLL := by
  intro pins s σ H xs us Q I r h
  obtain ⟨a, F, rfl, ⟨rs, ha, hl, hr⟩, pw, q⟩ := h
  obtain rfl := Vals.ref1 r
  obtain ⟨hz, vs, c, rv, ho⟩ := (show ObjOk X.prog X.w H s.heap a (.lst (rs.map V.ref)) from I.hok a _ ha)
  obtain rfl := vals_refs' rv
  rw [List.length_map] at hz
  have lz : (rs.zip F).length = rs.length := by rw [List.length_zip, hl, Nat.min_self]
  have m1 : (rs.zip F).map (·.1) = rs := List.map_fst_zip (by omega)
  have m2 : (rs.zip F).map (·.2) = F := List.map_snd_zip (by omega)
  have rd : ∀ (i : Nat) (r : Addr) (l : List Nat), rs[i]? = some r → F[i]? = some l → ∃ as, Reads s.heap (.ref r) (.list ((nz l).map .int)) as := fun i r l e1 e2 => by
    have hH := hr i r e1
    rw [row_at e2] at hH
    exact Dp.reads I _ (.ref r) (.ref r) (.lst (.inl (.inl hH)) (dp_ints _)) rfl
  have e0 := each_zip (P := fun r l => ∃ as, Reads s.heap (.ref r) (.list ((nz l).map .int)) as) rs F hl rd
  have e1 : PySem.W.EachIs (fun (v : Value) (b : Addr × List Nat) => v = .ref b.1) (rs.map Value.ref) (rs.zip F) := e0.mono fun _ _ h => h.1
  have e2 : PySem.W.EachIs (fun (v : Value) (b : Addr × List Nat) => ∃ as, Reads s.heap v (.list ((nz b.2).map .int)) as) (rs.map Value.ref) (rs.zip F) := e0.mono fun v b h => by rw [h.1]; exact h.2
  refine PySem.W.sorted_data (enc := fun b : Addr × List Nat => .list ((nz b.2).map .int)) ⟨_, ho, rfl, _, rfl⟩ e1 e2 (PySem.W.AllAlike.of fun b b' => by simp only [PySem.W.alike]; exact PySem.W.alike_ints _ _) (PySem.W.Sortable.others fun b => ⟨(by intro z; cases z), (by intro xs z; cases z)⟩) (by rw [lz]; exact hz)
    (fun b _ => by simp only [PyData.depth]; rw [PySem.W.depth_ints]; omega) fun out ho2 e3 => ?_
  have srt : (rs.zip F).mergeSort (PySem.W.dataLe false fun b : Addr × List Nat => .list ((nz b.2).map .int)) = rs.zip F := by
    rw [PySem.W.dataLe_rows (fun b : Addr × List Nat => nz b.2)]
    refine List.mergeSort_of_pairwise ?_
    have p2 : ((rs.zip F).map (·.2)).Pairwise (fun x y => nz x < nz y) := by rw [m2]; exact pw
    rw [List.pairwise_map] at p2
    exact p2.imp fun h => decide_eq_true (List.le_of_lt h)
  rw [srt] at e3
  have eo : out = rs.map Value.ref := by rw [each_refs e3, m1]
  subst eo
  obtain ⟨ep, he'⟩ := PyProof.Rows.sortedAll_at s.heap (rs.map Value.ref) (rs.map Value.ref).toArray
  have hn : H (s.heap.objs.size + 1) = none := I.hok.fresh (Nat.le_succ _)
  have ex := Ex.new hn (o := .lst (rs.map V.ref))
  exact ⟨.ref _, upd H (s.heap.objs.size + 1) (.lst (rs.map V.ref)), I.laid (t' := s.toks) (fun _ _ => PyProof.Rows.sortedAll_old) (Nat.le_succ _) ⟨by rw [List.length_map]; exact hz, rs.map Value.ref, ep, rv, he'⟩, rfl,
    q _ _ hn ex ⟨rs, upd_same, hl, fun i p e => ex _ _ (hr i p e)⟩⟩
theorem k_sortLL {X : Cx} (hc : X.calm = true) (hu : X.A.units + 64 < cLine) : CallR X (.builtin "sorted") rSortLL := cr_sortLL hc hu
/-! ### dicts of numbers by pairs -/
def ky (k : Nat × Nat) : List Key := [Sum.inl (k.1 : Int), Sum.inl (k.2 : Int)]
theorem ky_inj {a b : Nat × Nat} : ky a = ky b ↔ a = b := by
  constructor
  · intro h
    obtain ⟨a1, a2⟩ := a
    obtain ⟨b1, b2⟩ := b
    have h1 := (List.cons.inj h).1
    have h2 := (List.cons.inj (List.cons.inj h).2).1
    have e1 : (a1 : Int) = (b1 : Int) := Sum.inl.inj h1
    have e2 : (a2 : Int) = (b2 : Int) := Sum.inl.inj h2
    rw [Int.ofNat_inj.mp e1, Int.ofNat_inj.mp e2]
  · intro h; rw [h]
def renP (L : TF.KD) : List (List Key × V) := L.map fun e => (ky e.1, V.int (e.2 : Nat))
theorem renP_len (L : TF.KD) : (renP L).length = L.length := by unfold renP; rw [List.length_map]
theorem renP_val (k : Nat × Nat) : ∀ L : TF.KD, valV (renP L) (ky k) = (L.find? fun p => decide (p.1 = k)).map fun p => V.int (p.2 : Nat)
  | [] => rfl
  | p :: L => by
    have ih := renP_val k L
    unfold valV renP at ih ⊢
    rw [List.map_cons]
    by_cases c : p.1 = k
    · have f1 : (p :: L).find? (fun p => decide (p.1 = k)) = some p := List.find?_cons_of_pos (decide_eq_true c)
      have f2 : ((ky p.1, V.int (p.2 : Nat)) :: L.map fun e => (ky e.1, V.int (e.2 : Nat))).find? (fun kv => decide (kv.1 = ky k)) = some (ky p.1, V.int (p.2 : Nat)) := List.find?_cons_of_pos (decide_eq_true (ky_inj.mpr c))
      rw [f1, f2]
      rfl
    · have f1 : (p :: L).find? (fun p => decide (p.1 = k)) = L.find? (fun p => decide (p.1 = k)) := List.find?_cons_of_neg (by simpa using c)
      have f2 : ((ky p.1, V.int (p.2 : Nat)) :: L.map fun e => (ky e.1, V.int (e.2 : Nat))).find? (fun kv => decide (kv.1 = ky k)) = (L.map fun e => (ky e.1, V.int (e.2 : Nat))).find? (fun kv => decide (kv.1 = ky k)) := List.find?_cons_of_neg (by simpa using fun z => c (ky_inj.mp z))
      rw [f1, f2]
      exact ih
theorem renP_get (L : TF.KD) (k : Nat × Nat) : (valV (renP L) (ky k)).getD (V.int 0) = V.int (TF.get2 L k : Nat) := by
  rw [renP_val]
  unfold TF.get2
  cases L.find? fun p => decide (p.1 = k) with
  | none => rfl
  | some p => rfl
theorem renP_put (L : TF.KD) (k : Nat × Nat) (n : Nat) : putK (renP L) (ky k) (V.int (n : Nat)) = renP (TF.put2 L k n) := by
  have e : ((renP L).any fun kv => decide (kv.1 = ky k)) = L.any fun p => decide (p.1 = k) := by
    unfold renP
    rw [List.any_map]
    congr 1
    funext p
    exact decide_eq_decide.mpr ky_inj
  unfold putK TF.put2
  rw [e]
  split
  · unfold renP
    rw [List.map_map, List.map_map]
    refine List.map_congr_left fun p _ => ?_
    show (if ky p.1 = ky k then (ky p.1, V.int (n : Nat)) else (ky p.1, V.int (p.2 : Nat))) = (ky (if p.1 = k then (p.1, n) else p).1, V.int ((if p.1 = k then (p.1, n) else p).2 : Nat))
    by_cases c : p.1 = k
    · rw [if_pos c, if_pos (ky_inj.mpr c)]
    · rw [if_neg c, if_neg fun z => c (ky_inj.mp z)]
  · unfold renP
    rw [List.map_append]
    rfl
theorem renP_at {L : TF.KD} {i : Nat} {e : (Nat × Nat) × Nat} (h : L[i]? = some e) : (renP L)[i]? = some (ky e.1, V.int (e.2 : Nat)) := by unfold renP; rw [List.getElem?_map, h]; rfl
theorem renP_nil (L : TF.KD) : renP L = [] ↔ L = [] := by
  unfold renP
  exact List.map_eq_nil_iff
theorem renP_vals (L : TF.KD) : (renP L).map (·.2) = ((L.map (·.2)).map fun n : Nat => (n : Int)).map V.int := by
  unfold renP
  rw [List.map_map, List.map_map, List.map_map]
  rfl
/-! ### for (a, b), n in d.items() -/
theorem lg_itemsT {σ : L2.St} {H : Hp} {D : Ends} {g : TG} {tb : TS} {d : Addr} {o : Obj} {kvs : List (List Key × V)} (Pv : Nat → L2.St → Hp → Prop) (h0 : Pv 0 σ H) (hl : ∀ i σ H, i ≤ kvs.length → Pv i σ H → H d = some (.frz o (.dT kvs)))
    (hs : ∀ i k v σ H T q, kvs[i]? = some (k, v) → Pv i σ H → H T = none → H q = some (.tup (k.map kV)) → g (.ref T) σ (upd H T (.tup [.ref q, v])) fun σ2 H2 => tb { D with nx := Pv (i + 1), ct := Pv (i + 1), bk := D.nx } σ2 H2) (hd : ∀ σ H, Pv kvs.length σ H → D.nx σ H) : LoopG (Itit d o kvs) g tb D σ H := by
  refine ⟨fun i m σ H => m = kvs.length - i ∧ i ≤ kvs.length ∧ Pv i σ H, ⟨kvs.length, by simp, Nat.zero_le _, h0⟩, ?_⟩
  rintro i m σ H ⟨rfl, hi, p⟩
  have q := hl i σ H hi p
  by_cases hlt : i < kvs.length
  · refine .inr ⟨⟨q, hlt⟩, Pv (i + 1), fun σ' H' p' => ⟨kvs.length - (i + 1), by omega, rfl, hlt, p'⟩, fun x H' y => ?_⟩
    obtain ⟨T, qq, k, v, e, hq, rfl, nT, rfl⟩ := y
    exact hs i k v σ H T qq e p nT hq
  · have e : i = kvs.length := by omega
    subst e
    exact .inl ⟨⟨q, Nat.le_refl _⟩, hd σ H p⟩
theorem x_lockT {t : TS} {D : Ends} {σ : L2.St} {H : Hp} : tLock t D σ H = ∃ d u, H d = some u ∧ Mut (some u) ∧ ∀ od, t ⟨fun σ' H' => H' d = some (.frz od u) ∧ D.nx σ' (upd H' d u), fun v H' => H' d = some (.frz od u) ∧ D.rt v (upd H' d u), fun σ' H' => H' d = some (.frz od u) ∧ D.bk σ' (upd H' d u), fun σ' H' => H' d = some (.frz od u) ∧ D.ct σ' (upd H' d u)⟩ σ (upd H d (.frz od u)) := rfl
end BC

set_option Elab.async false
set_option linter.all false
set_option maxRecDepth 100000
set_option maxHeartbeats 4000000
/-! own __len__, sorted(d.items()), comprehensions over pairs -/
namespace BC
open PySem PySem.Spec PyProof.Rows L2 Evl
section
variable {X : Cx} {CX : CXT} {k : Nat} {C f : Addr} {fd : FuncData} {ps : List Str} {sp : Sp} {E : XK}
/-- len(o), by the class's own __len__ -/
def rLenOwn (C : Addr) (sp : Sp) (E : XK) : List V → Hp → VK → Prop := fun xs H Q => ∃ a dx fs, xs = [.ref a] ∧ H a = some (.ins C dx fs) ∧ sp [.ref a] H (fun v H' => ∃ n : Int, v = .int n ∧ 0 ≤ n ∧ n < 2 ^ 63 ∧ Q (.int n) H') E
theorem call_lenOwn (hs : PySem.W.findIn X.K (.ref C) "__len__" = some (some (.ref f))) (hf : PySem.W.isFn X.K (.ref f) = true) (F : FnOk X.prog X.w X.K X.mg X.base CX k f fd ps sp) (hr : Room (k + 1) X.A) (hb : Binds X.K fd ps []) (hx : Passes CX X E) : CallR X (.builtin "len") (rLenOwn C sp E) := by
  intro pins s σ H xs us Q I r h
  obtain ⟨a, dx, fs, rfl, ea, h⟩ := h
  obtain ⟨u, rfl, ru⟩ := vals1 r
  obtain rfl : u = Value.ref a := ru
  obtain ⟨mA, O, _, _, _, _⟩ := ins_get I.hok ea
  obtain ⟨od, J, _⟩ := O.look
  obtain ⟨m, hF⟩ := I.fr
  have hl : ([Value.ref a] ++ ([] : List Value)).length = ps.length := by
    rw [← F.len _ _ _ _ h]
    rfl
  refine PySem.W.len_K hF I.ok.mod.kin J hs hf (wpAny_call ?_)
  refine codeAny_mono (F.run X.A.in1 X.stack s H ⟨[.ref a], []⟩ [.ref a] [.ref a] _ E hr.in1 I.env0.in1 (hb _ [.ref a] I.kIn hl) (.cons rfl .nil) h) fun r s' hq => ?_
  cases r with
  | error er => exact hx pins σ H s er s' I hq
  | ok fl =>
    cases fl with
    | ret u =>
      obtain ⟨v, H', I3, rv, n, rfl, n0, n1, q⟩ := I.after hq
      obtain ⟨t, rfl⟩ := rv
      exact ⟨⟨n0, n1⟩, .int n, H', I3.tok _, ⟨_, rfl⟩, q⟩
    | next => exact False.elim hq
    | brk => exact False.elim hq
    | cont => exact False.elim hq
end
/-! ### sorted(d.items()), numbers by numbers -/
def PairAt (H : Hp) (t : Addr) (q : Int × Int) : Prop := H t = some (.tup [.int q.1, .int q.2])
def itK (q : Int × Int) : Key × V := (Sum.inl q.1, .int q.2)
def leP (a b : Int × Int) : Prop := a.1 < b.1 ∨ (a.1 = b.1 ∧ a.2 ≤ b.2)
open L2.DX
/-- d.items() of a dict of numbers or texts -/
def rItems : V → List V → Hp → VK → Prop := fun x xs H Q => ∃ (a : Addr) (kvs : List (Key × V)), x = .ref a ∧ xs = [] ∧ H a = some (.dK kvs) ∧ ∀ p, H p = none → Q (.ref p) (upd H p (itemsO p a))
def rSortIt : List V → Hp → VK → Prop := fun xs H Q => ∃ (v d : Addr) (qs : List (Int × Int)), xs = [.ref v] ∧ H v = some (itemsO v d) ∧ H d = some (.dK (qs.map itK)) ∧
  ∀ (H' : Hp) (p : Addr) (ts : List Addr) (rs : List (Int × Int)), Ex H H' → H p = none → H' p = some (.lst (ts.map V.ref)) → rs.Perm qs → rs.Pairwise leP → ts.length = rs.length → (∀ i t, ts[i]? = some t → H t = none ∧ PairAt H' t (rs.getD i (0, 0))) → Q (.ref p) H'
theorem pairs_get {κ : Type} [DecidableEq κ] {P : Program} {w : World} {knd : KeyKind P w κ} {es : List DictEntry} {vs : List (κ × Value)} (h : Pairs knd es vs) : ∀ {j : Nat} {en : DictEntry}, es[j]? = some en → ∃ kv, vs[j]? = some kv ∧ knd.is kv.1 en.key = true ∧ en.val = kv.2 := by
  induction h with
  | nil => intro j en e; simp at e
  | @cons e kv es kvs h1 h2 _ ih =>
    intro j en he
    cases j with
    | zero =>
      simp at he
      subst he
      exact ⟨kv, by simp, h1, h2⟩
    | succ j =>
      simp only [List.getElem?_cons_succ] at he ⊢
      exact ih he
section
variable {X : Cx}
theorem mt_items : MtR X "dict.items" rItems := by
  intro pins s σ H x xs v us Q I rx rxs h
  obtain ⟨a, kvs, rfl, rfl, ha, q⟩ := h
  cases rx
  cases rxs
  obtain ⟨hz, hd0, vs, kv, o, es, ep, ho, hx, hdat, _⟩ := dk_of I.hok ha
  refine DT.callItems (es := es) (ep := ep) hd0 ⟨o, ho, hx, hdat⟩ ?_
  have hf : H s.heap.objs.size = none := I.hok.fresh (Nat.le_refl _)
  exact ⟨.ref s.heap.objs.size, upd H s.heap.objs.size (itemsO s.heap.objs.size a), I.laid (t' := s.toks) (fun b u e => Heap.get?_push_of_some _ e) (Nat.le_refl _) (itemsO_ok (Heap.get?_push_size _ rfl)), rfl, q _ hf⟩
def adr : Value → Addr
  | .ref b => b
  | _ => 0
theorem cr_sortIt (hc : X.calm = true) : CallR X (.builtin "sorted") rSortIt := by
  intro pins s σ H xs us Q I r h
  obtain ⟨p, a, qs, rfl, hp, ha, q⟩ := h
  obtain rfl := Vals.ref1 r
  have view : s.heap.IsItemsView p a := (show ObjOk X.prog X.w H s.heap p (itemsO p a) from I.hok p _ hp).1
  obtain ⟨hz, hd0, vs, kv, o, es, ep, ho, hx, hdat, hks, prs, hn⟩ := dk_of I.hok ha
  rw [List.length_map] at hz
  have l1 : (qs.map itK).length = vs.length := Paired.length kv
  rw [List.length_map] at l1
  have l2 : es.size = vs.length := by rw [← prs.length, Array.length_toList]
  refine DT.sortedI (es := es) (ep := ep) (I.ok.hd hc) view ⟨o, ho, hx, hdat⟩ (by omega) fun h' tk as hk hlt hl hG => ?_
  have lak : as.length = qs.length := by omega
  have nd : as.Nodup := List.Pairwise.imp (fun h => Nat.ne_of_lt h) hG.rise
  have pr : ∀ (j : Nat) (b : Addr), as[j]? = some b → ∃ (g : Int × Int) (t u : Tok), qs[j]? = some g ∧ h'.get? b = some { cls := .type "tuple", data := .seq #[Value.int g.1 t, Value.int g.2 u] } := by
    intro j b hj
    obtain ⟨en, he, hg⟩ := hG.pairs j b hj
    have he' : es.toList[j]? = some en := by rw [Array.getElem?_toList]; exact he
    obtain ⟨kv0, h1, h2, h3⟩ := pairs_get prs he'
    have hjl : j < qs.length := by have := (List.getElem?_eq_some_iff.mp hj).1; omega
    have hq : qs[j]? = some qs[j] := List.getElem?_eq_getElem hjl
    obtain ⟨u, hu, ru⟩ := kv_get kv (i := j) (k := Sum.inl qs[j].1) (v := .int qs[j].2) (by rw [List.getElem?_map, hq]; rfl)
    rw [h1] at hu
    cases hu
    obtain ⟨tk1, hk1⟩ : RelV (kV (Sum.inl qs[j].1)) en.key := relV_key (show keyIs (Sum.inl qs[j].1) en.key = true from h2)
    obtain ⟨tk2, hk2⟩ := ru
    refine ⟨qs[j], tk1, tk2, hq, ?_⟩
    rw [hg, h3, hk2]
    have : en.key = Value.int qs[j].1 tk1 := hk1
    rw [this]
  have hob : (h'.push { cls := .type "list", data := .seq (as.map Value.ref).toArray }).get? h'.objs.size = some (seqObj "list" (as.map Value.ref).toArray 0) := Heap.get?_push_size _ rfl
  have kb : ∀ b o, s.heap.get? b = some o → (h'.push { cls := .type "list", data := .seq (as.map Value.ref).toArray }).get? b = some o := fun b o e => Heap.get?_push_of_some _ (hk b o e)
  have ne0 : ∀ b o, h'.get? b = some o → b ≠ h'.objs.size := fun b o e => Nat.ne_of_lt (Heap.lt_size e)
  generalize hh2 : h'.push { cls := .type "list", data := .seq (as.map Value.ref).toArray } = h2 at hob kb ⊢
  have ka : ∀ b o, h'.get? b = some o → h2.get? b = some o := fun b o e => by rw [← hh2]; exact Heap.get?_push_of_some _ e
  let kf : Value → Int × Int := fun u => qs.getD (as.idxOf (adr u)) (0, 0)
  have kfa : ∀ (j : Nat) (b : Addr), as[j]? = some b → kf (.ref b) = qs.getD j (0, 0) := fun j b hj => by
    obtain ⟨hjl, hjb⟩ := List.getElem?_eq_some_iff.mp hj
    show qs.getD (as.idxOf b) (0, 0) = _
    rw [← hjb, nd.idxOf_getElem j hjl]
  have isp : ∀ v ∈ as.map Value.ref, Srt.IsPair h2 v (kf v).1 (kf v).2 := fun v hv => by
    obtain ⟨b, hb, rfl⟩ := List.mem_map.mp hv
    obtain ⟨j, hj⟩ := List.mem_iff_getElem?.mp hb
    obtain ⟨g, t, u, hg, hob⟩ := pr j b hj
    rw [kfa j b hj, List.getD_eq_getElem?_getD, hg]
    exact ⟨b, _, t, u, 0, rfl, ka _ _ hob, rfl, rfl⟩
  refine wpAny_call_entry PyProof.Rows.slot_list_sort ⟨_, hob, rfl⟩ PyProof.Rows.entry_list_sort
    (SrtO.list_sort_ord (s := { s with heap := h2, toks := tk }) (SrtO.swo_lex kf) hob (by rw [List.length_map]; omega) (fun h2' => SrtO.pairs_sortableO (by omega) isp fun o e => ?_) fun out h1 h2' => ⟨.none, rfl, ?_⟩) (PyProof.Rows.args_list_sort _)
  · have e' : some o = some (seqObj "list" (as.map Value.ref).toArray 0) := e.symm.trans hob
    cases e'
    intro c
    exact absurd (Value.type.inj c) (by decide)
  · show EP X pins σ Q (.ref h'.objs.size) { s with heap := sortedHeap h2 h'.objs.size (as.map Value.ref) out.toArray, toks := tk }
    have hperm := h2'.perm
    have outr : ∀ u ∈ out, ∃ b, b ∈ as ∧ u = Value.ref b := fun u hu => by
      obtain ⟨b, hb, e⟩ := List.mem_map.mp (hperm.mem_iff.mp hu)
      exact ⟨b, hb, e.symm⟩
    have hout : out = (out.map adr).map Value.ref := by
      rw [List.map_map]
      conv => lhs; rw [← List.map_id out]
      refine List.map_congr_left fun u hu => ?_
      obtain ⟨b, _, rfl⟩ := outr u hu
      rfl
    have tperm : (out.map adr).Perm as := by
      have := hperm.map adr
      rw [List.map_map] at this
      have e : as.map (adr ∘ Value.ref) = as := by
        conv => rhs; rw [← List.map_id as]
        exact List.map_congr_left fun b _ => rfl
      rw [e] at this
      exact this
    have kF : ∀ b o, b ≠ h'.objs.size → h2.get? b = some o → (sortedHeap h2 h'.objs.size (as.map Value.ref) out.toArray).get? b = some o := fun b o hb e => (PyProof.Rows.sortedHeap_old hb (Heap.lt_size e)).trans e
    have kS : ∀ b o, s.heap.get? b = some o → (sortedHeap h2 h'.objs.size (as.map Value.ref) out.toArray).get? b = some o := fun b o e => kF b o (ne0 _ _ (hk b o e)) (kb b o e)
    obtain ⟨eF, heF⟩ := PyProof.Rows.sortedHeap_at (vs := as.map Value.ref) (out := out.toArray) hob
    have I1 : Inv X pins σ H { s with heap := sortedHeap h2 h'.objs.size (as.map Value.ref) out.toArray, toks := tk } := I.kept (t' := tk) kS
    have hn0 : H h'.objs.size = none := I.hok.fresh (Nat.le_of_lt hlt)
    have lout : (out.map adr).length = qs.length := by rw [tperm.length_eq, lak]
    have rv : Vals ((out.map adr).map V.ref) out := by
      conv => rhs; rw [hout]
      exact LiI.vals_refs _
    have I2 : Inv X pins σ (upd H h'.objs.size (.lst ((out.map adr).map V.ref))) { s with heap := sortedHeap h2 h'.objs.size (as.map Value.ref) out.toArray, toks := tk } :=
      I1.take (h' := sortedHeap h2 h'.objs.size (as.map Value.ref) out.toArray) (t' := tk) (fun b ob _ e => e) (I.fpOk (Nat.le_of_lt hlt) hn0) ⟨by rw [List.length_map, lout]; omega, out, eF, rv, heF⟩
    obtain ⟨H2, I3, g, qt⟩ := takeT (P := fun b vs => ∃ (j : Nat) (g : Int × Int), as[j]? = some b ∧ qs[j]? = some g ∧ vs = [.int g.1, .int g.2]) I as _ I2 nd fun b hb => by
      obtain ⟨j, hj⟩ := List.mem_iff_getElem?.mp hb
      obtain ⟨g, t, u, hg, hob⟩ := pr j b hj
      have hbl : s.heap.objs.size ≤ b := Nat.le_of_lt (hG.above b hb)
      refine ⟨hbl, ?_, [.int g.1, .int g.2], ⟨j, g, hj, hg, rfl⟩, fun H3 => ⟨(by rw [sizeLine_eq]; show 2 ≤ 16777216; omega), [Value.int g.1 t, Value.int g.2 u], .cons ⟨t, rfl⟩ (.cons ⟨u, rfl⟩ .nil), ⟨_, kF _ _ (ne0 _ _ hob) (ka _ _ hob), rfl, 0, rfl⟩⟩⟩
      rw [upd_ne (ne0 _ _ hob)]
      exact I.hok.fresh hbl
    have gr : ∀ b o, H b = some o → H2 b = some o := fun b o e => g b o (by rw [upd_ne (ne_of_none e hn0)]; exact e)
    refine ⟨.ref h'.objs.size, H2, I3, rfl, q H2 h'.objs.size (out.map adr) ((out.map adr).map fun b => kf (.ref b)) gr hn0 (g _ _ upd_same) ?_ ?_ (by simp only [List.length_map]) fun i t hi => ?_⟩
    · have e := tperm.map (fun b => kf (.ref b))
      have e2 : as.map (fun b => kf (.ref b)) = qs := by
        apply List.ext_getElem?
        intro j
        rw [List.getElem?_map]
        cases c : as[j]? with
        | none =>
          rw [List.getElem?_eq_none_iff] at c
          rw [List.getElem?_eq_none (by omega)]
          rfl
        | some b =>
          have hjl := (List.getElem?_eq_some_iff.mp c).1
          show some (kf (.ref b)) = _
          rw [kfa j b c, List.getD_eq_getElem?_getD, List.getElem?_eq_getElem (by omega)]
          rfl
      rw [e2] at e
      exact e
    · have hs := h1
      rw [hout] at hs
      unfold SrtO.Srtd at hs
      rw [List.pairwise_map] at hs
      rw [List.pairwise_map]
      refine hs.imp fun {x y} h => ?_
      have := SrtO.lexB_no.mp h
      unfold leP
      show (kf (.ref x)).1 < (kf (.ref y)).1 ∨ ((kf (.ref x)).1 = (kf (.ref y)).1 ∧ (kf (.ref x)).2 ≤ (kf (.ref y)).2)
      omega
    · have ta : t ∈ as := tperm.mem_iff.mp (List.mem_of_getElem? hi)
      obtain ⟨vs', ⟨j, g', j1, j2, ev⟩, hH⟩ := qt t ta
      refine ⟨I.hok.fresh (Nat.le_of_lt (hG.above t ta)), ?_⟩
      have e3 : ((out.map adr).map fun b => kf (.ref b)).getD i (0, 0) = g' := by
        rw [List.getD_eq_getElem?_getD, List.getElem?_map, hi]
        show kf (.ref t) = g'
        rw [kfa j t j1, List.getD_eq_getElem?_getD, j2]
        rfl
      unfold BC.PairAt
      rw [e3, hH, ev]
end
/-! ### xs[:1] = ys -/
theorem bounds_head (n : Nat) : sliceBounds none (some 1) none n = (((0 : Nat) : Int), ((min 1 n : Nat) : Int), 1) := by
  unfold sliceBounds
  simp
  omega
section
variable {prog : Program} {w : World} {A : Around} {s : Shared} {E : Value → Shared → Prop}
theorem setItem_head {l b sl : Addr} {items new : Array Value} {n n2 : Nat} {vl vu : Value} {Q : Unit → Shared → Prop}
    (e : s.heap.get? l = some { cls := .type "list", data := .seq items n }) (e2 : s.heap.get? b = some { cls := .type "list", data := .seq new n2 }) (hne : l ≠ b)
    (hs : s.heap.IsSliceOf sl vl vu .none) (pl : IsPart vl none) (pu : IsPart vu (some 1))
    (hsz : items.size + new.size ≤ sizeLine) (h : Q () { s with heap := s.heap.update l (Obj.mapSeq fun xs => xs.extract 0 0 ++ new ++ xs.extract (min 1 items.size) xs.size) }) :
    wpAny (model prog w) A (setItem (.ref l) (.ref sl) (.ref b)) Q E s := by
  have hl : s.heap.IsList l items := PySem.IsL.isList e
  have hb : s.heap.IsList b new := PySem.IsL.isList e2
  obtain ⟨os, hos, hcs, hds⟩ := id hs
  have hTs : s.TypeIs (.ref sl) "slice" := ⟨os, hos, hcs⟩
  have hstep : ¬ ((rawPart none == rawInt 0) = true) := Bool.false_ne_true
  have hsame : Builtin.List.listSameRef (.ref l) (.ref b) = false := by
    unfold Builtin.List.listSameRef
    exact beq_eq_false_iff_ne.mpr hne
  have hmax : (max ((0 : Nat) : Int) ((min 1 items.size : Nat) : Int)).toNat = min 1 items.size := by omega
  have hz' : ((fun xs : Array Value => xs.extract 0 0 ++ new ++ xs.extract (min 1 items.size) xs.size) items).size ≤ sizeLine + 1 := by
    simp only [Array.size_append, Array.size_extract]
    omega
  unfold setItem
  try with_reducible refine wpAny_holding ?_
  first | refine wpAny_bind (wpAny_pure ?_) | skip
  refine wpAny_bind (wpAny_sequenceKey hl.typeIs (by decide) ?_)
  refine wpAny_bind (wpAny_callSpecial?_slot (name := Str.ofString "__setitem__") hl.typeIs slot_list_setitem
    (wpAny_call_entry slot_list_setitem hl.typeIs entry_list_setitem ?_ (args_list_setitem _ _ _)))
  show wpAny _ _ (Builtin.List.listSubscript? (.ref sl) >>= _) _ _ s
  refine wpAny_bind ?_
  unfold Builtin.List.listSubscript?
  refine wpAny_bind (wpAny_specialOf hTs slice_no_index ?_)
  simp only [Option.isNone_none, if_true]
  refine wpAny_pure ?_
  show wpAny _ _ (typeOf (.ref sl) >>= _) _ _ s
  refine wpAny_bind (wpAny_typeOf hTs ?_)
  first
    | rw [if_neg (by decide)]
    | refine PySem.W.KFB.if_not (by decide) ?_
  rw [listSliceParts_eq]
  refine wpAny_bind (wpAny_bind (wpAny_field hos hds (x := .none) rfl (wpAny_bind (wpAny_listPart .none ?_))))
  rw [if_neg hstep]
  refine wpAny_bind (wpAny_field hos hds (x := vl) rfl (wpAny_bind (wpAny_listPart pl ?_)))
  refine wpAny_bind (wpAny_field hos hds (x := vu) rfl (wpAny_bind (wpAny_listPart pu (wpAny_pure ?_))))
  first
    | simp only [hsame, Bool.false_eq_true, if_false]
    | refine PySem.W.KFB.if_not hsame ?_
    | (dsimp only
       rw [if_neg (by rw [hsame]; exact Bool.false_ne_true)])
  refine wpAny_bind (m := Builtin.List.listAllItems (.ref b) "must assign iterable to extended slice") ?_
  unfold Builtin.List.listAllItems
  refine wpAny_bind (wpAny_typeOf hb.typeIs ?_)
  first
    | refine PySem.W.KFB.if_so (by decide) ?_
    | rw [if_pos (by decide)]
    | simp only [beq_self_eq_true, Bool.true_or, if_true]
  unfold Builtin.List.listItems
  refine wpAny_bind (wpAny_seqItems e2 rfl (wpAny_pure ?_))
  refine wpAny_bind (wpAny_bind (wpAny_seqItems e rfl (wpAny_pure ?_)))
  refine wpAny_bind (wpAny_of_eq ((sliceIndices_raw none (some 1) none items.size (by simp)).trans (congrArg (pure : Int × Int × Int → Sem (Int × Int × Int)) (bounds_head items.size))) ?_)
  show wpAny _ _ (if ((1 : Int) == 1) = true then _ else _) _ _ s
  rw [if_pos (by decide)]
  refine wpAny_bind (wpAny_rule ?_)
  first
    | simp only [notLongL hsz, Bool.false_eq_true, if_false]
    | refine PySem.W.KFB.if_not (notLongL hsz) ?_
  first | refine wpAny_bind (wpAny_pure ?_) | skip
  show wpAny _ _ (updateSeq l (fun xs => xs.extract 0 ((0 : Nat) : Int).toNat ++ new ++ xs.extract (max ((0 : Nat) : Int) ((min 1 items.size : Nat) : Int)).toNat xs.size) >>= _) _ _ s
  rw [hmax, Int.toNat_natCast]
  refine wpAny_bind (wpAny_updateSeq (hz := Nat.le_trans (Nat.le_add_right _ _) hsz) (_hz' := hz') e rfl ?_)
  refine wpAny_bind (wpAny_letGo ?_)
  first
    | exact wpAny_bind (wpAny_pure (wpAny_pure ⟨.none, rfl, wpAny_pure h⟩))
    | exact wpAny_pure ⟨.none, rfl, wpAny_pure h⟩
end
section
variable {X : Cx} {o e : Expr} {to : TE} {p2 pos : Pos}
/-- o[:1] = v, both lists -/
def gHead (to : TE) : TG := fun v σ H QG => to σ H fun x H1 => ∃ a b xs ys, x = .ref a ∧ v = .ref b ∧ a ≠ b ∧ H1 a = some (.lst xs) ∧ H1 b = some (.lst ys) ∧ xs.length + ys.length ≤ sizeLine ∧ QG σ (upd H1 a (.lst (ys ++ xs.drop 1)))
theorem set_head {pins : List (Addr × Obj)} {s : Shared} {σ : L2.St} {H : Hp} {l b sl : Addr} {xs ys : List V} {vl vu : Value} {Q : Unit → Shared → Prop} (I : Inv X pins σ H s)
    (hH : H l = some (.lst xs)) (hB : H b = some (.lst ys)) (hne : l ≠ b) (hs : s.heap.IsSliceOf sl vl vu .none) (pl : IsPart vl none) (pu : IsPart vu (some 1))
    (hz : xs.length + ys.length ≤ sizeLine) (h : ∀ s', Inv X pins σ (upd H l (.lst (ys ++ xs.drop 1))) s' → Q () s') :
    wpAny (model X.prog X.w) X.A (setItem (.ref l) (.ref sl) (.ref b)) Q X.xe s := by
  obtain ⟨z, its, n, r, hl, e⟩ := I.lstM hH
  obtain ⟨z2, its2, n2, r2, hl2, e2⟩ := I.lstM hB
  refine setItem_head e e2 hne hs pl pu (by rw [List.size_toArray, List.size_toArray]; omega) (h _ ?_)
  have ed : ∀ {α : Type} (zs : List α), zs.drop (min 1 zs.length) = zs.drop 1 := fun zs => by
    cases zs with
    | nil => rfl
    | cons a zs => rw [List.length_cons, show min 1 (zs.length + 1) = 1 by omega]
  have er : ys ++ xs.drop 1 = xs.take 0 ++ ys ++ xs.drop (min 1 xs.length) := by rw [ed, List.take_zero, List.nil_append]
  rw [er]
  refine I.lset (its' := its.take 0 ++ its2 ++ its.drop (min 1 its.length)) (t' := s.toks) hH e ?_ (Vals.append (Vals.append (r.take _) r2) (by rw [r.length]; exact r.drop _)) ?_
  · rw [List.size_toArray]
    exact splice_eq its its2 0 (min 1 its.length)
  · rw [List.length_append, List.length_append, List.length_take, List.length_drop]
    omega
theorem pg_head {k1 : Nat} {p3 : Pos} (ho : PE X o to)
    (ha0 : ∀ v, assign (.Subscript o (.Slice none (some (.Constant (.int 1) k1 p3)) none p2) pos) X.env v = (do
      let ov ← holding [v] (eval o X.env)
      let iv ← holding [v, ov] (eval (.Slice none (some (.Constant (.int 1) k1 p3)) none p2) X.env)
      standAt pos
      holding [v, ov, iv] (setItem ov iv v)
      release [iv, v, ov] []) := by intro _; rfl) : PG X (.Subscript o (.Slice none (some (.Constant (.int 1) k1 p3)) none p2) pos) (gHead to) := by
  refine ⟨fun pins s σ H v u Q I r h => ?_⟩
  rw [ha0]
  refine wpAny_bind (wpAny_holding (thn (ho.run pins s σ H _ I h) fun ov s1 ⟨x, H1, I1, r1, q1⟩ => ?_))
  obtain ⟨a, b, xs, ys, rfl, rfl, hne, ha, hb, hz, q⟩ := q1
  cases r1
  cases r
  refine wpAny_bind (wpAny_holding ?_)
  refine wpAny_Slice ?_
  rw [evalPart_none]
  refine wpAny_pure ?_
  rw [evalPart_some]
  refine thn ((pe_int (X := X) (i := 1)).run pins s1 σ H1 (fun v H' => v = .int 1 ∧ H' = H1) I1 ⟨rfl, rfl⟩) fun u s2 ⟨x, H2, I2, r2, ex, eH⟩ => ?_
  subst ex
  subst eH
  obtain ⟨t, rfl⟩ := r2
  refine wpAny_pure ?_
  have I4 : Inv X pins σ H2 { s2 with heap := s2.heap.push { cls := .type "slice", data := .fields #[.none, .int 1 t, .none] } } := I2.kept (t' := s2.toks) fun b ob q => Heap.get?_push_of_some _ q
  refine wpAny_bind (wpAny_standAt (wpAny_bind (wpAny_holding ?_)))
  refine set_head I4 ha hb hne (Heap.IsSliceOf.new ..) .none (.int _ _) hz fun s' I5 => ?_
  exact wpAny_release ⟨σ, _, I5, q⟩
theorem x_ghead {σ : L2.St} {H : Hp} {v : V} {QG : L2.St → Hp → Prop} : gHead to v σ H QG = to σ H fun x H1 => ∃ a b xs ys, x = .ref a ∧ v = .ref b ∧ a ≠ b ∧ H1 a = some (.lst xs) ∧ H1 b = some (.lst ys) ∧ xs.length + ys.length ≤ sizeLine ∧ QG σ (upd H1 a (.lst (ys ++ xs.drop 1))) := rfl
end
/-! ### comprehensions over pairs -/
section
variable {K : PySem.W.Frag} {σ : L2.St} {H1 : Hp} {g : TG} {tt : TT} {te : TE} {vs : List Nat} {Dl : Addr} {Q : VK}
/-- the items of a list or a tuple are pairs -/
theorem lc_pairs {a : Addr} {J : It} {ts : List Addr} {u v : Nat → V} {j k : Nat} (hJ : (J = Itl K a ∧ SqL K H1 a (ts.map V.ref)) ∨ (J = Itt K a ∧ SqT K H1 a (ts.map V.ref))) (hp : ∀ i t, ts[i]? = some t → H1 t = some (.tup [u i, v i])) (keep : Nat → Bool) (f : Nat → V) (hD : H1 Dl = none) (hn : ts.length ≤ 100000)
    (hw : ∀ x y : V, wipe (((wipe σ vs).set j (some x)).set k (some y)) vs = wipe σ vs)
    (ht : ∀ i, i < ts.length → Evl.EvT tt (((wipe σ vs).set j (some (u i))).set k (some (v i))) H1 (keep i))
    (he : ∀ i, i < ts.length → keep i = true → Evl.Ev te (((wipe σ vs).set j (some (u i))).set k (some (v i))) H1 (f i))
    (hd : ∀ H', Evl.Ex H1 H' → H' Dl = some (.lst (kept ts.length keep f)) → Q (.ref Dl) H') : LcG J (gTup K 2 (gCons (gName j) (gCons (gName k) gNil))) tt te vs σ Dl H1 Q := by
  have gt : ∀ i, i < ts.length → ts[i]? = some (ts.getD i 0) := fun i hi => by rw [List.getD_eq_getElem?_getD, List.getElem?_eq_getElem hi]; rfl
  have fin : ∀ (i : Nat) (H' : Hp) (x : V) (QG : L2.St → Hp → Prop), i < ts.length → Evl.Ex H1 H' → (ts.map V.ref)[i]? = some x → (Evl.Ex H' H' → QG (((wipe σ vs).set j (some (u i))).set k (some (v i))) H') → gTup K 2 (gCons (gName j) (gCons (gName k) gNil)) x (wipe σ vs) H' QG := fun i H' x QG hi e hx q => by
    rw [List.getElem?_map, gt i hi] at hx
    cases hx
    exact g_two (e _ _ (hp i _ (gt i hi))) (q (Ex.refl _))
  rcases hJ with ⟨rfl, hx⟩ | ⟨rfl, hx⟩
  · refine lc_pure ts.length (fun i => ((wipe σ vs).set j (some (u i))).set k (some (v i))) keep f hD hn (fun H' e => ⟨_, Evl.ex_l e hx, by rw [List.length_map]; exact Nat.le_refl _⟩) (fun i H' hi e => ⟨_, _, Evl.ex_l e hx, by rw [List.getElem?_map, gt i hi]; rfl⟩)
      (fun i H' x H'' QG hi e y q => ?_) (fun i hi => hw _ _) ht he hd
    obtain ⟨rfl, hf⟩ := y
    exact fin i _ _ QG hi e (hf _ (Evl.ex_l e hx)) q
  · refine lc_pure ts.length (fun i => ((wipe σ vs).set j (some (u i))).set k (some (v i))) keep f hD hn (fun H' e => ⟨_, Evl.ex_t e hx, by rw [List.length_map]; exact Nat.le_refl _⟩) (fun i H' hi e => ⟨_, _, Evl.ex_t e hx, by rw [List.getElem?_map, gt i hi]; rfl⟩)
      (fun i H' x H'' QG hi e y q => ?_) (fun i hi => hw _ _) ht he hd
    obtain ⟨rfl, hf⟩ := y
    exact fin i _ _ QG hi e (hf _ (Evl.ex_t e hx)) q
/-- zip of two lists, the second not longer -/
theorem lc_zipS {a b : Addr} {xs ys : List V} {j k : Nat} (keep : Nat → Bool) (f : Nat → V) (hx : SqL K H1 a xs) (hy : SqL K H1 b ys) (he0 : ys.length ≤ xs.length) (hD : H1 Dl = none) (hn : ys.length ≤ 100000)
    (hw : ∀ u v : V, wipe (((wipe σ vs).set j (some u)).set k (some v)) vs = wipe σ vs)
    (ht : ∀ i x y, xs[i]? = some x → ys[i]? = some y → Evl.EvT tt (((wipe σ vs).set j (some x)).set k (some y)) H1 (keep i))
    (he : ∀ i x y, xs[i]? = some x → ys[i]? = some y → keep i = true → Evl.Ev te (((wipe σ vs).set j (some x)).set k (some y)) H1 (f i))
    (hd : ∀ H', Evl.Ex H1 H' → H' Dl = some (.lst (kept ys.length keep f)) → Q (.ref Dl) H') : LcG (Itz K a b) (gTup K 2 (gCons (gName j) (gCons (gName k) gNil))) tt te vs σ Dl H1 Q := by
  have gx : ∀ i, i < ys.length → xs[i]? = some (xs.getD i .non) := fun i hi => by rw [List.getD_eq_getElem?_getD, List.getElem?_eq_getElem (by omega)]; rfl
  have gy : ∀ i, i < ys.length → ys[i]? = some (ys.getD i .non) := fun i hi => by rw [List.getD_eq_getElem?_getD, List.getElem?_eq_getElem hi]; rfl
  refine lc_pure ys.length (fun i => ((wipe σ vs).set j (some (xs.getD i .non))).set k (some (ys.getD i .non))) keep f hD hn (fun H' e => ⟨xs, ys, Evl.ex_l e hx, Evl.ex_l e hy, ?_⟩)
    (fun i H' hi e => ⟨xs, ys, _, _, Evl.ex_l e hx, Evl.ex_l e hy, gx i hi, gy i hi⟩)
    (fun i H' x H'' QG hi e y q => ?_) (fun i hi => hw _ _) (fun i hi => ht i _ _ (gx i hi) (gy i hi)) (fun i hi => he i _ _ (gx i hi) (gy i hi)) hd
  · first | exact .inr (Nat.le_refl _) | exact .inr ⟨by omega, Nat.le_refl _⟩ | (simp; omega)
  obtain ⟨T, u, v, rfl, hT, rfl, hf, hf2⟩ := y
  have hu := hf xs (Evl.ex_l e hx)
  have hv := hf2 ys (Evl.ex_l e hy)
  have e1 : xs.getD i .non = u := by rw [List.getD_eq_getElem?_getD, hu]; rfl
  have e2 : ys.getD i .non = v := by rw [List.getD_eq_getElem?_getD, hv]; rfl
  refine g_two upd_same ?_
  have q2 := q (Evl.Ex.new hT)
  rw [e1, e2] at q2
  exact q2
end
/-! ### dict(pairs), sorted(d) -/
section
variable {K : PySem.W.Frag}
theorem putK_end {kvs : List (Key × V)} {k : Key} {v : V} (h : k ∉ kvs.map (·.1)) : putK kvs k v = kvs ++ [(k, v)] := by
  unfold putK
  rw [if_neg]
  intro e
  obtain ⟨p, hp, e⟩ := List.any_eq_true.mp e
  exact h (List.mem_map.mpr ⟨p, hp, of_decide_eq_true e⟩)
theorem mergeK_nodup : ∀ (more kvs : List (Key × V)), ((kvs ++ more).map (·.1)).Nodup → mergeK kvs more = kvs ++ more
  | [], kvs, _ => by rw [List.append_nil]; rfl
  | p :: more, kvs, h => by
    have hn : p.1 ∉ kvs.map (·.1) := fun hm => by
      rw [List.map_append, List.nodup_append] at h
      exact h.2.2 p.1 hm p.1 (by simp) rfl
    show mergeK (putK kvs p.1 p.2) more = _
    rw [putK_end hn, mergeK_nodup more _ (by rw [List.append_assoc]; exact h)]
    simp
theorem nodup_itK {qs : List (Int × Int)} (h : (qs.map (·.1)).Nodup) : ((qs.map itK).map (·.1)).Nodup := by
  have e : (qs.map itK).map (·.1) = (qs.map (·.1)).map Sum.inl := by rw [List.map_map, List.map_map]; rfl
  rw [e, List.nodup_iff_pairwise_ne, List.pairwise_map]
  exact h.imp fun h e => h (Sum.inl.inj e)
/-- what the list of pairs at a reads -/
def PairsAt (K : PySem.W.Frag) (H : Hp) (a : Addr) (ts : List Addr) (qs : List (Int × Int)) : Prop := SqL K H a (ts.map V.ref) ∧ ts.length = qs.length ∧ ∀ i t, ts[i]? = some t → PairAt H t (qs.getD i (0, 0))
theorem PairsAt.ex {H H' : Hp} {a : Addr} {ts : List Addr} {qs : List (Int × Int)} (h : PairsAt K H a ts qs) (e : Ex H H') : PairsAt K H' a ts qs := ⟨ex_l e h.1, h.2.1, fun i t hi => e _ _ (h.2.2 i t hi)⟩
def rDictI (K : PySem.W.Frag) : List V → Hp → VK → Prop := fun xs H Q => ∃ (a : Addr) (ts : List Addr) (qs : List (Int × Int)), xs = [.ref a] ∧ PairsAt K H a ts qs ∧ (qs.map (·.1)).Nodup ∧ ∀ p, H p = none → Q (.ref p) (upd H p (.dK (qs.map itK)))
theorem paired_of {H : Hp} : ∀ {ts : List Addr} {qs : List (Int × Int)}, ts.length = qs.length → (∀ (i : Nat) t, ts[i]? = some t → PairAt H t (qs.getD i (0, 0))) → Paired (fun p kv => SqT K H p [kV kv.1, kv.2]) ts (qs.map itK)
  | [], [], _, _ => .nil
  | [], _ :: _, h, _ => by simp at h
  | _ :: _, [], h, _ => by simp at h
  | t :: ts, q :: qs, h, hp => .cons (.inl (.inl (hp 0 t rfl))) (paired_of (by simpa using h) fun i u hi => by
    have := hp (i + 1) u (by simpa using hi)
    simpa using this)
theorem k_dictP {X : Cx} (hK : X.K = K) (hc : X.calm = true) : CallR X (.type "dict") (rDictI K) := by
  subst hK
  intro pins s σ H xs us Q I r h
  obtain ⟨a, ts, qs, rfl, ⟨hs, hl, hp⟩, nd, q⟩ := h
  refine call_dictP hc pins s σ H _ us Q I r ⟨a, ts, qs.map itK, rfl, hs, paired_of hl hp, fun p np => ?_⟩
  have e : mergeK [] (qs.map itK) = qs.map itK := by rw [mergeK_nodup _ _ (by simpa using nodup_itK nd)]; rfl
  rw [e]
  exact q p np
def rSortDI : List V → Hp → VK → Prop := fun xs H Q => ∃ (a : Addr) (kvs : List (Key × V)) (ks : List Int), xs = [.ref a] ∧ Rd H a (.dK kvs) ∧ kvs.map (·.1) = ks.map Sum.inl ∧ ks.length < 64 ∧
    ∀ (ys : List Int) (p : Addr), ys.Perm ks → ys.Pairwise (· ≤ ·) → H p = none → Q (.ref p) (upd H p (.lst (ys.map V.int)))
theorem cr_sortDI {X : Cx} (hc : X.calm = true) : CallR X (.builtin "sorted") rSortDI := call_sortedDI hc
theorem tyD {H : Hp} {p : Addr} {kvs : List (Key × V)} (h : H p = some (.dK kvs)) : tyV K "dict" (.ref p) H := .inr (.inr (.inl ⟨rfl, .inl ⟨kvs, h⟩⟩))
theorem valV_itK {qs : List (Int × Int)} (nd : (qs.map (·.1)).Nodup) {x y : Int} (h : (x, y) ∈ qs) : valV (qs.map itK) (Sum.inl x) = some (.int y) := by
  induction qs with
  | nil => exact (List.not_mem_nil h).elim
  | cons q qs ih =>
    rw [List.map_cons, List.nodup_cons] at nd
    rw [List.map_cons]
    rcases List.mem_cons.mp h with e | h
    · subst e
      exact valV_pos rfl
    · have ne : q.1 ≠ x := fun e => nd.1 (List.mem_map.mpr ⟨(x, y), h, e.symm⟩)
      rw [valV_neg (by show ¬ (Sum.inl q.1 : Key) = Sum.inl x; exact fun e => ne (Sum.inl.inj e))]
      exact ih nd.2 h
theorem valV_itK_none {qs : List (Int × Int)} {x : Int} (h : x ∉ qs.map (·.1)) : valV (qs.map itK) (Sum.inl x) = none := by
  induction qs with
  | nil => rfl
  | cons q qs ih =>
    rw [List.map_cons, List.mem_cons, not_or] at h
    rw [List.map_cons, valV_neg (by show ¬ (Sum.inl q.1 : Key) = Sum.inl x; exact fun e => h.1 (Sum.inl.inj e).symm)]
    exact ih h.2
end
/-! ### readings -/
section
variable {K : PySem.W.Frag} {σ : L2.St} {H : Hp} {Q : VK} {ta tv : TE} {a : TA} {D : Ends} {f : Str} {C : Addr} {sp : Sp} {dvs : List V} {E : XK}
theorem x_fld : tFld K ta f σ H Q = ta σ H (fun x H1 => ∃ a C dx fs v, x = .ref a ∧ H1 a = some (.ins C dx fs) ∧ Cls K C ∧ NoAttr K C f ∧ fs.lookup f = some v ∧ Q v H1) := rfl
theorem x_sfld : sFld K ta tv f D σ H = tv σ H (fun y H1 => ta σ H1 fun x H2 => ∃ a C dx fs, x = .ref a ∧ H2 a = some (.ins C dx fs) ∧ Cls K C ∧ NoAttr K C f ∧ fs.length < 1000 ∧ D.nx σ (upd H2 a (.ins C dx (putF f y fs)))) := rfl
theorem x_prop : tProp C sp dvs E ta σ H Q = ta σ H (fun x H1 => ∃ a dx fs, x = .ref a ∧ H1 a = some (.ins C dx fs) ∧ sp (.ref a :: dvs) H1 Q E) := rfl
theorem x_meth {m : Str} {t : TA} : tMeth C m sp dvs E ta t σ H Q = ta σ H (fun x H1 => ∃ a dx fs, x = .ref a ∧ H1 a = some (.ins C dx fs) ∧ fs.lookup m = none ∧ t σ H1 fun vs H2 => sp (x :: (vs ++ dvs)) H2 Q E) := rfl
theorem x_make : tMake C sp dvs E a σ H Q = a σ H (fun vs H1 => ∀ x dx, H1 x = none → H1 dx = none → dx ≠ x → sp (.ref x :: (vs ++ dvs)) (upd (upd H1 dx (.own x)) x (.ins C dx [])) (fun v H2 => v = .non ∧ Q (.ref x) H2) E) := rfl
theorem k_fld {X : Cx} {e : Expr} {pos : Pos} (hK : X.K = K) (he : PE X e ta) (hb : attributeBase e f X.env (eval e X.env) = eval e X.env) : PE X (.Attribute e f pos) (tFld K ta f) := by subst hK; exact pe_fld he hb
theorem k_sfld {X : Cx} {o value : Expr} {pos' pos : Pos} (hK : X.K = K) (ha : PE X o ta) (hv : PE X value tv) (hs : swapsWith value (some (.Attribute o f pos')) pos.line X.env = pure false) : PS X (.Assign [.Attribute o f pos'] value pos) (sFld K ta tv f) := by subst hK; exact ps_fld ha hv hs
def DcG (J : It) (g : TG) (tt : TT) (tk tv : TE) (vs : List Nat) (σ : L2.St) (D : Addr) (H1 : Hp) (Q : VK) : Prop := ∃ W : Nat → Nat → Hp → Prop, (∃ m, W 0 m (upd H1 D (.dK []))) ∧ ∀ i m H, W i m H →
  (J.stop i H ∧ Q (.ref D) H) ∨ (J.go i H ∧ ∃ Nx : Hp → Prop, (∀ H', Nx H' → ∃ m', m' < m ∧ W (i + 1) m' H') ∧ ∀ x H', J.yld i H x H' → g x (wipe σ vs) H' fun σ2 H2 => wipe σ2 vs = wipe σ vs ∧ tt σ2 H2 fun b H3 =>
    if b = true then tk σ2 H3 fun y H4 => tv σ2 H4 fun z H5 => ∃ kvs k, y = kV k ∧ H5 D = some (.dK kvs) ∧ kvs.length < sizeLine ∧ Nx (upd H5 D (.dK (putK kvs k z))) else Nx H3)
theorem x_dc {wi : TI} {g : TG} {tt : TT} {tk tv : TE} {vs : List Nat} : tDc wi g tt tk tv vs σ H Q = wi σ H (fun J H1 => ∀ D, H1 D = none → DcG J g tt tk tv vs σ D H1 Q) := rfl
theorem dcg_tup {a : Addr} {xs : List V} {g : TG} {tt : TT} {tk tv : TE} {vs : List Nat} {H1 : Hp} {D : Addr} (Pv : Nat → Hp → Prop) (h0 : Pv 0 (upd H1 D (.dK []))) (hl : ∀ i H, i ≤ xs.length → Pv i H → SqT K H a xs)
    (hs : ∀ i x H, xs[i]? = some x → Pv i H → g x (wipe σ vs) H fun σ2 H2 => wipe σ2 vs = wipe σ vs ∧ tt σ2 H2 fun b H3 =>
      if b = true then tk σ2 H3 fun y H4 => tv σ2 H4 fun z H5 => ∃ kvs k, y = kV k ∧ H5 D = some (.dK kvs) ∧ kvs.length < sizeLine ∧ Pv (i + 1) (upd H5 D (.dK (putK kvs k z))) else Pv (i + 1) H3) (hd : ∀ H, Pv xs.length H → Q (.ref D) H) : DcG (Itt K a) g tt tk tv vs σ D H1 Q := dc_tup (Qd := fun H => Q (.ref D) H) Pv h0 hl hs hd
end
theorem lg_zip {K : PySem.W.Frag} {a b : Addr} {xs ys : List V} {g : TG} {tb : TS} {D : Ends} {σ : L2.St} {H : Hp} (hl : xs.length = ys.length) (Pv : Nat → L2.St → Hp → Prop) (h0 : Pv 0 σ H) (hq : ∀ i σ H, Pv i σ H → SqL K H a xs ∧ SqL K H b ys)
    (hs : ∀ (i : Nat) (x y : V) (T : Addr) (σ : L2.St) (H : Hp), xs[i]? = some x → ys[i]? = some y → Pv i σ H → H T = none → g (.ref T) σ (upd H T (.tup [x, y])) fun σ2 H2 => tb { D with nx := Pv (i + 1), ct := Pv (i + 1), bk := D.nx } σ2 H2) (hd : ∀ σ H, Pv xs.length σ H → D.nx σ H) : LoopG (Itz K a b) g tb D σ H := RZ.for_zipL hl Pv h0 hq hs hd
/-! ### what comes behind each visit -/
def seconds (row : List Int) : List Int := row.drop 1 ++ row.drop (row.length - 1)
theorem cut_drop1 (row : List Int) : cutV (row.map V.int) (some 1) none = (row.drop 1).map V.int := by
    cases row with
    | nil => rfl
    | cons a r =>
      have e : HT.sIx ((a :: r).map V.int).length 0 (some 1) = 1 := by
        show (if (1 : Int) < 0 then ((1 : Int) + (((a :: r).map V.int).length : Int)).toNat else min (1 : Int).toNat ((a :: r).map V.int).length) = 1
        rw [if_neg (by omega), List.length_map, List.length_cons]
        show min 1 (r.length + 1) = 1
        omega
      unfold cutV
      rw [e, HT.sIx_none, List.map_drop, List.take_of_length_le (by rw [List.length_drop]; exact Nat.le_refl _)]
theorem cut_seconds (row : List Int) : cutV (row.map V.int) (some 1) none ++ cutV (row.map V.int) (some (-1)) none = (seconds row).map V.int := by
  have h1 : cutV (row.map V.int) (some 1) none = (row.drop 1).map V.int := by
    unfold cutV
    cases row with
    | nil => rfl
    | cons a r =>
      have e : HT.sIx ((a :: r).map V.int).length 0 (some 1) = 1 := by
        show (if (1 : Int) < 0 then ((1 : Int) + (((a :: r).map V.int).length : Int)).toNat else min (1 : Int).toNat ((a :: r).map V.int).length) = 1
        rw [if_neg (by omega), List.length_map, List.length_cons]
        show min 1 (r.length + 1) = 1
        omega
      rw [e, HT.sIx_none, List.map_drop, List.take_of_length_le (by rw [List.length_drop]; exact Nat.le_refl _)]
  have h2 : cutV (row.map V.int) (some (-1)) none = (row.drop (row.length - 1)).map V.int := by
    have e : HT.sIx (row.map V.int).length 0 (some (-1)) = row.length - 1 := by
      show (if (-1 : Int) < 0 then ((-1 : Int) + ((row.map V.int).length : Int)).toNat else min (-1 : Int).toNat (row.map V.int).length) = _
      rw [if_pos (by omega), List.length_map]
      omega
    unfold cutV
    rw [e, HT.sIx_none, List.map_drop, List.take_of_length_le]
    rw [List.length_drop, List.length_map]
    exact Nat.le_refl _
  rw [h1, h2, seconds, List.map_append]
theorem seconds_len (row : List Int) : (seconds row).length = row.length := by
  unfold seconds
  rw [List.length_append, List.length_drop, List.length_drop]
  omega
theorem seconds_at {row : List Int} {i : Nat} (hi : i < row.length) : (seconds row)[i]? = some ((row.drop (i + 1)).headD (row.getD i 0)) := by
  unfold seconds
  by_cases c : i + 1 < row.length
  · rw [List.getElem?_append_left (by rw [List.length_drop]; omega), List.getElem?_drop, List.headD_eq_head?_getD, List.head?_drop, Nat.add_comm 1 i, List.getElem?_eq_getElem c]
    rfl
  · rw [List.getElem?_append_right (by rw [List.length_drop]; omega), List.length_drop, List.getElem?_drop, List.drop_eq_nil_of_le (by omega), show row.length - 1 + (i - (row.length - 1)) = i by omega, List.getD_eq_getElem?_getD, List.getElem?_eq_getElem hi]
    rfl
theorem ev_din {ty td : TE} {σ : L2.St} {H : Hp} {d : Addr} {kvs : List (Key × V)} {k : Key} (hy : Ev ty σ H (kV k)) (hd : Ev td σ H (.ref d)) (h : H d = some (.dK kvs)) : Ev (tDIn ty td) σ H (.bl (valV kvs k).isSome) := fun H1 e Q q => hy H1 e _ fun H2 e2 => hd H2 (e.trans e2) _ fun H3 e3 => ⟨d, _, rfl, DGet.k (e3 _ _ (e2 _ _ (e _ _ h))), q H3 (e2.trans e3)⟩
theorem ev_dnotin {ty td : TE} {σ : L2.St} {H : Hp} {d : Addr} {kvs : List (Key × V)} {k : Key} (hy : Ev ty σ H (kV k)) (hd : Ev td σ H (.ref d)) (h : H d = some (.dK kvs)) : Ev (tDNotIn ty td) σ H (.bl (!(valV kvs k).isSome)) := fun H1 e Q q => hy H1 e _ fun H2 e2 => hd H2 (e.trans e2) _ fun H3 e3 => ⟨d, _, rfl, DGet.k (e3 _ _ (e2 _ _ (e _ _ h))), q H3 (e2.trans e3)⟩
theorem ev_dget {ty td : TE} {σ : L2.St} {H : Hp} {d : Addr} {kvs : List (Key × V)} {k : Key} {v : V} (hd : Ev td σ H (.ref d)) (hy : Ev ty σ H (kV k)) (h : H d = some (.dK kvs)) (hv : valV kvs k = some v) : Ev (tDGet td ty) σ H v := fun H1 e Q q => hd H1 e _ fun H2 e2 => hy H2 (e.trans e2) _ fun H3 e3 => ⟨d, v, rfl, .inl ⟨_, k, .inl (e3 _ _ (e2 _ _ (e _ _ h))), rfl, hv.symm⟩, q H3 (e2.trans e3)⟩
theorem putK_le (c : List (Key × V)) (k : Key) (x : V) : (putK c k x).length ≤ c.length + 1 := by
  unfold putK
  split
  · rw [List.length_map]; omega
  · rw [List.length_append, List.length_singleton]; omega
end BC

set_option Elab.async false
set_option linter.all false
set_option maxRecDepth 100000
set_option maxHeartbeats 4000000
/-! a caught exception as a tracked object: in its suite, behind it, and handed to defs -/
namespace BC
open PySem PySem.Spec PyProof.Rows L2
/-- an exception's object: its class, its dict -/
def ExT (cls : Value) (d : Option Addr) (a : Addr) : HO := .ext fun h => ∃ (ob : Obj) (fs : Array Value), h.get? a = some ob ∧ Zc cls d ob ∧ ob.data = .fields fs
theorem exT_ok {P : Program} {w : World} {H : Hp} {h : Heap} {a : Addr} {cls : Value} {d : Option Addr} {ob : Obj} {fs : Array Value} (e : h.get? a = some ob) (z : Zc cls d ob) (f : ob.data = .fields fs) : ObjOk P w H h a (ExT cls d a) := by
  refine ⟨⟨ob, fs, e, z, f⟩, ⟨ob, e⟩, ?_⟩
  rintro h1 h2 ⟨o2, f2, e2, z2, q2⟩ k
  exact ⟨o2, f2, k _ e2, z2, q2⟩
/-- at a stands an exception of this class, without a dict -/
def IsEx (H : Hp) (a : Addr) (cls : Value) : Prop := ∃ φ : Heap → Prop, H a = some (.ext φ) ∧ ∀ h, φ h → ∃ (ob : Obj) (fs : Array Value), h.get? a = some ob ∧ Zc cls none ob ∧ ob.data = .fields fs
theorem isEx_T {H : Hp} {a : Addr} {cls : Value} (h : H a = some (ExT cls none a)) : IsEx H a cls := ⟨_, h, fun _ q => q⟩
theorem isEx_O {H : Hp} {a : Addr} {cls : Value} (h : H a = some (ExO cls a)) : IsEx H a cls := ⟨_, h, fun _ q => by
  obtain ⟨ob, fs, e, z, d, _⟩ := q
  exact ⟨ob, fs, e, z, d⟩⟩
theorem IsEx.at {H H' : Hp} {a : Addr} {cls : Value} (x : IsEx H a cls) (h : ∀ o, H a = some o → H' a = some o) : IsEx H' a cls := by
  obtain ⟨φ, e, q⟩ := x
  exact ⟨φ, h _ e, q⟩
section
variable {X : Cx} {pins : List (Addr × Obj)} {σ : L2.St} {H : Hp} {s : Shared}
/-- an object that stands untracked, younger than the frame, is tracked -/
theorem inv_track {a : Addr} {φ : Heap → Prop} (I : Inv X pins σ H s) (n0 : X.s_0.heap.get? a = none) (na : H a = none) (nL : a ≠ X.env.locals) (nC : ∀ x c, X.env.cells.lookup x = some c → c ≠ a) (nP : ∀ p ∈ X.pn ++ pins, p.1 ≠ a)
    (new : ObjOk X.prog X.w (upd H a (.ext φ)) s.heap a (.ext φ)) : Inv X pins σ (upd H a (.ext φ)) s := by
  have old : ∀ b o, X.s_0.heap.get? b = some o → b ≠ a := by
    rintro b o e rfl
    rw [n0] at e
    cases e
  have trk : ∀ {b : Addr} {o : HO}, H b = some o → b ≠ a := by
    rintro b o e rfl
    rw [na] at e
    cases e
  have frame : upd H a (.ext φ) X.env.locals = none := by rw [upd_ne (Ne.symm nL)]; exact I.free
  have un : Un X.fs X.ex X.H_0 (upd H a (.ext φ)) X.s_0.heap s.heap :=
    { keep := I.base.keep
      slot := I.base.slot
      free := fun b o e n x => by rw [upd_ne (old b o e)]; exact I.base.free b o e n x
      there := I.base.there
      tups := fun b xs e => by have q := I.base.tups b xs e; rw [upd_ne (trk q)]; exact q
      frzs := fun b o xs e => by have q := I.base.frzs b o xs e; rw [upd_ne (trk q)]; exact q
      tbls := fun b ps e => by obtain ⟨m, q⟩ := I.base.tbls b ps e; exact ⟨m, by rw [upd_ne (trk q)]; exact q⟩ }
  have held : HOk X.prog X.w (upd H a (.ext φ)) s.heap := by
    intro b u e
    by_cases q : b = a
    · subst q
      rw [upd_same] at e
      cases e
      exact new
    · rw [upd_ne q] at e
      exact (I.hok b u e).stay (fun _ _ _ z => z) (fun c z => by rw [upd_ne (trk z)]; exact z) fun c xs z => by rw [upd_ne (trk z)]; exact z
  exact { ok := I.ok, os := I.os, bare := I.bare, base := un, loc := I.loc, cell := I.cell, free := frame, hok := held, len := I.len
          freeC := fun x c e => by rw [upd_ne (nC x c e)]; exact I.freeC x c e
          pin := fun p hp => by obtain ⟨h1, h2, h3⟩ := I.pin p hp; exact ⟨h1, by rw [upd_ne (nP p hp)]; exact h2, h3⟩ }
/-- into the suite, the exception tracked -/
theorem inv_intoT (I : Inv X pins σ H s) (a : Addr) : Inv (X.suite a (X.pn ++ pins)) [] σ H s :=
  ⟨I.ok.suite a (X.pn ++ pins), I.os, I.bare, I.base, I.loc, I.cell, I.free, I.freeC, fun p hp => I.pin p (by rwa [List.append_nil] at hp), I.hok, I.len⟩
theorem inv_outT {a : Addr} {pn' : List (Addr × Obj)} (I : Inv (X.suite a (X.pn ++ pins)) pn' σ H s) (ok : X.Ok) : Inv X pins σ H s :=
  ⟨ok, I.os, I.bare, I.base, I.loc, I.cell, I.free, I.freeC, fun p hp => I.pin p (List.mem_append_left _ hp), I.hok, I.len⟩
end
/-- the wish of 'except x as n' where the exception is tracked from then on -/
def wTrk (K : PySem.W.Frag) (c : Value) (i : Nat) (ts : Addr → Value → Option Addr → TS) (Wout : WX) (D : Ends) : WX := fun cls d σ H =>
  ∃ b, PySem.W.exmOne K cls c = some b ∧ (b = true → ∀ a, H a = none → ts a cls d { nx := fun σ' H' => D.nx (σ'.set i none) H', rt := D.rt, bk := fun σ' H' => D.bk (σ'.set i none) H', ct := fun σ' H' => D.ct (σ'.set i none) H' } (σ.set i (some (.ref a))) (upd H a (ExT cls d a))) ∧
    (b = false → Wout cls d σ H)
section
variable {X : Cx} {x n : Str} {c : Value} {i : Nat} {body suite : List Stmt} {b0 : Stmt} {np pos hpos : Pos} {tb : WX → TS} {ts : Addr → Value → Option Addr → TS} {Wout : WX}
theorem ps_try_trk (hs : X.stack = X.env :: X.outer) (hf : X.env.frame = some X.env.locals) (hx : X.ex = []) (hN : X.N.Nodup) (hi : X.N[i]? = some n) (hln : X.env.kindOf n = some .local) (hc : Names X x c) (tk : Takes X Wout)
    (hb : ∀ (W : WX) (pn : List (Addr × Obj)) (xe : Value → Shared → Prop), Takes (X.tr pn xe) W → PassesOwn (model X.prog X.w) X.A X.env xe → PSs (X.tr pn xe) body (tb W))
    (hsu : ∀ (a : Addr) (cls : Value) (d : Option Addr) (pn : List (Addr × Obj)), PSs (X.suite a pn) (b0 :: suite) (ts a cls d)) :
    PS X (.Try body [.ExceptHandler (some (.Name x np)) (some n) (b0 :: suite) hpos] [] [] pos) (fun D σ H => tb (wTrk X.K c i ts Wout D) D σ H) := by
  constructor
  intro pins s σ H D I h
  have ok := I.ok
  have frames : X.A.frames = some (X.env :: X.outer) := hs ▸ ok.frames
  let W0 := wTrk X.K c i ts Wout D
  let after := fun (e : Value) (s1 : Shared) => wpAny (model X.prog X.w) X.A (noteFrame e X.env) (fun _ s2 => wpAny (model X.prog X.w) X.A (setFlight e none) (fun _ s3 =>
    wpAny (model X.prog X.w) X.A (handleBy e X.env [.ExceptHandler (some (.Name x np)) (some n) (b0 :: suite) hpos]) (SP X pins D) X.xe s3) X.xe s2) X.xe s1
  have take : Takes (X.tr (X.pn ++ pins) after) W0 := by
    rintro u s' ⟨a, B, sI, pins1, σ1, H1, cls, d, rfl, J0, nb, up, sky, na, os, ag, b, eb, yes, no⟩
    have J : Inv X pins σ1 H1 sI := J0.ofTry ok
    rw [show (X.tr (X.pn ++ pins) after).stack = X.env :: X.outer from hs] at sky
    refine Sky.land (Z := Zc cls d) Zc.steady frames hf sky fun h3 fly3 up3 => ?_
    have J3 : Inv X pins σ1 H1 { s' with heap := h3 } := J.landed nb fly3.1 (up.trans up3) os ag
    obtain ⟨o3, f3, e3, z3, d3⟩ := fly3.there
    have outside : a ∉ frs (X.env :: X.outer) := by
      intro hm
      obtain ⟨_, o', e', no'⟩ := fly3.2.2.1.mem hm
      rw [e3] at e'
      cases e'
      exact no' _ d3
    have gone : sI.heap.get? a = none := by
      cases q : sI.heap.get? a with
      | none => rfl
      | some o =>
        have z := nb a o q (by rw [show (X.tr (X.pn ++ pins) after).stack = X.env :: X.outer from hs]; exact outside)
        rw [fly3.2.1] at z
        cases z
    have n0 : X.s_0.heap.get? a = none := by
      cases q : X.s_0.heap.get? a with
      | none => rfl
      | some o =>
        obtain ⟨o', z⟩ := J.base.there a o q (by rw [hx]; exact List.not_mem_nil)
        rw [gone] at z
        cases z
    have nL : a ≠ X.env.locals := fun z => outside (List.mem_filterMap.mpr ⟨X.env, List.mem_cons_self, by rw [hf, z]⟩)
    have nF : a ∉ X.fs := by
      intro hm
      obtain ⟨e, he, q⟩ := List.mem_filterMap.mp hm
      exact outside (List.mem_filterMap.mpr ⟨e, List.mem_cons_of_mem _ he, q⟩)
    have nC : ∀ y k, X.env.cells.lookup y = some k → k ≠ a := by
      rintro y k e rfl
      obtain ⟨v, o, z, _⟩ := J.cell y k e
      rw [gone] at z
      cases z
    have nP : ∀ p ∈ X.pn ++ pins, p.1 ≠ a := by
      intro p hp q
      have z := (J.pin p hp).1
      rw [q, gone] at z
      cases z
    have S3 := J3.suite e3 d3 na nL nF
    refine wpAny_handleBy_cons (codeAny_handlers_test ?_) (fun q => nomatch q)
    have LT : PySem.W.Looks (model X.prog X.w) h3 (typeOf (.ref a)) cls := fun A Q E s2 k q => wpAny_typeOf_ref (k _ _ e3) (by rw [z3.1]; exact q)
    have LM := PySem.W.exm_one (M := model X.prog X.w) (J3.kIn) LT eb
    have asked : ∀ {Q : Value → Shared → Prop} {E : Value → Shared → Prop}, Q c { s' with heap := h3 } → wpAny (model X.prog X.w) (X.A.mark (some (.ref a))) (eval (.Name x np) X.env) Q E { s' with heap := h3 } := by
      intro Q E q
      obtain ⟨hg, hdb, hm | ⟨hm, hv, hnn⟩⟩ := hc
      · exact ld_glob (X := X.suite a ((a, o3) :: (X.pn ++ pins))) S3 hg hm q hdb
      · exact ld_blt (X := X.suite a ((a, o3) :: (X.pn ++ pins))) S3 hg hm hv q hnn hdb
    refine asked (LM.here ?_)
    cases b with
    | false =>
      show wpAny _ X.A (handleBy (.ref a) X.env []) _ _ _
      refine wpAny_handleBy_nil ?_
      obtain ⟨_, _, _, ob, vs, T, oT, tt, he, hz, hd, h1, hr⟩ := id fly3
      have fin : wpAny (model X.prog X.w) X.A (setFlight (.ref a) X.env.frame) (fun _ s4 => wpAny (model X.prog X.w) X.A (throw (.ref a) : Sem Flow) (SP X pins D) X.xe s4) X.xe { s' with heap := h3 } := by
        rw [hf]
        refine HandSPX.setFlight_upZ fly3 fun h4 held up4 => wpAny_throw (tk _ _ ?_)
        exact ⟨a, B, sI, pins, σ1, H1, cls, d, rfl, J, by rw [hs]; rw [show (X.tr (X.pn ++ pins) after).stack = X.env :: X.outer from hs] at nb; exact nb, (up.trans up3).trans up4, .inr (.inr (by rw [hs]; exact held)), na, os, ag, no rfl⟩
      unfold PySem.passOn
      refine wpAny_bind (wpAny_field he hd h1 ?_)
      rw [if_neg (by simp : ¬ ((Value.ref T == Value.none) = true))]
      first
        | exact wpAny_bind fin
        | exact wpAny_bind (wpAny_pure (wpAny_bind fin))
    | true =>
      refine codeAny_handlers_suite_as ?_
      refine HandSPX.lands_againZ fly3 fun h4 fly4 up4 => ?_
      have J4 : Inv X pins σ1 H1 { s' with heap := h4 } := J.landed nb fly4.1 ((up.trans up3).trans up4) os ag
      obtain ⟨o4, f4, e4, z4, d4⟩ := fly4.there
      have T4 : Inv X pins σ1 (upd H1 a (ExT cls d a)) { s' with heap := h4 } := inv_track J4 n0 na nL nC nP (exT_ok e4 z4 d4)
      refine store_ok (X := X.suite a (X.pn ++ pins)) (v := .ref a) (inv_intoT T4 a) hN hi (.inl hln) rfl (fun s5 S5 => ?_) (.inr hln)
      refine wpAny_mono ((hsu a cls d (X.pn ++ pins)).run [] s5 _ _ _ S5 (yes rfl a na)) (fun fl s6 res => ?_) fun _ _ z => z.elim
      have close : ∀ {σ6 : L2.St} {H6 : Hp} {Q : Shared → Prop}, Inv (X.suite a (X.pn ++ pins)) [] σ6 H6 s6 → (∀ s7, Inv X pins (σ6.set i none) H6 s7 → Q s7) →
          wpAny (model X.prog X.w) X.A (do bindName X.env n .none; unbindBehindTheSuite X.env n hpos) (fun _ s7 => Q s7) X.xe s6 := fun S6 q => gone_ok (inv_outT S6 ok) hN hi hln q
      match fl, res with
      | .next, res =>
        obtain ⟨σ6, H6, S6, q6⟩ := res
        exact close S6 fun s7 J7 => ⟨_, _, J7, q6⟩
      | .brk, res =>
        obtain ⟨σ6, H6, S6, q6⟩ := res
        exact close S6 fun s7 J7 => ⟨_, _, J7, q6⟩
      | .cont, res =>
        obtain ⟨σ6, H6, S6, q6⟩ := res
        exact close S6 fun s7 J7 => ⟨_, _, J7, q6⟩
      | .ret u, res =>
        obtain ⟨v6, σ6, H6, S6, r6, q6⟩ := res
        exact close S6 fun s7 J7 => ⟨_, _, _, J7, r6, q6⟩
  refine wpAny_Try_except (wpAny_mono ((hb W0 (X.pn ++ pins) after take PassesOwn.looking).run [] s σ H D (I.toTry _) h) (fun fl s1 res => ?_) fun e s1 he => he)
  match fl, res with
  | .next, res =>
    obtain ⟨σ2, H2, J2, q⟩ := res
    exact wpAny_execs_nil ⟨σ2, H2, J2.ofTry ok, q⟩
  | .brk, res =>
    obtain ⟨σ2, H2, J2, q⟩ := res
    exact ⟨σ2, H2, J2.ofTry ok, q⟩
  | .cont, res =>
    obtain ⟨σ2, H2, J2, q⟩ := res
    exact ⟨σ2, H2, J2.ofTry ok, q⟩
  | .ret u, res =>
    obtain ⟨v, σ2, H2, J2, r, q⟩ := res
    exact ⟨v, σ2, H2, J2.ofTry ok, r, q⟩
end
/-! ### isinstance of a tracked exception -/
/-- isinstance(e, C) -/
def rIsX (K : PySem.W.Frag) : List V → Hp → VK → Prop := fun xs H Q => ∃ (a D : Addr) (c : V) (cv : Value) (b : Bool), xs = [.ref a, c] ∧ IsEx H a (.ref D) ∧ ExcC K D ∧ ClsV c cv ∧ PySem.W.kitOne K (.ref D) cv = some b ∧ Q (.bl b) H
/-- isinstance(e, (C1, C2, ..)) -/
def rIsXT (K : PySem.W.Frag) : List V → Hp → VK → Prop := fun xs H Q => ∃ (a D tp : Addr) (cs : List V) (us : List Value) (b : Bool), xs = [.ref a, .ref tp] ∧ IsEx H a (.ref D) ∧ ExcC K D ∧ H tp = some (.tup cs) ∧ Paired ClsV cs us ∧ PySem.W.kitAny K (.ref D) us = some b ∧ Q (.bl b) H
section
variable {X : Cx} {K : PySem.W.Frag}
theorem isx_at {pins : List (Addr × Obj)} {σ : L2.St} {H : Hp} {s : Shared} {a D : Addr} (I : Inv X pins σ H s) (x : IsEx H a (.ref D)) : ∃ ob, PySem.W.InstAt s.heap a ob D none := by
  obtain ⟨φ, e, q⟩ := x
  obtain ⟨ob, fs, e1, ⟨z1, z2⟩, d1⟩ := q _ (I.hok a _ e).1
  obtain ⟨oc, od, dt, sl⟩ := ob
  dsimp only at z1 z2 d1
  subst z1 z2 d1
  exact ⟨_, e1, rfl, rfl, trivial⟩
theorem k_isX (hK : X.K = K) : CallR X (.builtin "isinstance") (rIsX K) := by
  subst hK
  intro pins s σ H xs us Q I r h
  obtain ⟨a, D, c, cv, b, rfl, x, C, k, e, q⟩ := h
  obtain ⟨u1, u2, rfl, r1, r2⟩ := vals2 r
  obtain rfl : u1 = Value.ref a := r1
  obtain rfl := k.eq r2
  obtain ⟨ob, J⟩ := isx_at I x
  exact PySem.W.kia_one (PySem.W.handS_kitx_exc C.hg C.hk C.hs C.hd C.ha C.hn C.ht C.hm) I.kIn J e (fun z => nomatch z) fun tk => ⟨.bl b, H, I.tok tk, rfl, q⟩
theorem k_isXT (hK : X.K = K) : CallR X (.builtin "isinstance") (rIsXT K) := by
  subst hK
  intro pins s σ H xs us Q I r h
  obtain ⟨a, D, tp, cs, ws, b, rfl, x, C, hT, k, e, q⟩ := h
  obtain ⟨u1, u2, rfl, r1, r2⟩ := vals2 r
  obtain rfl : u1 = Value.ref a := r1
  obtain rfl : u2 = Value.ref tp := r2
  obtain ⟨ob, J⟩ := isx_at I x
  obtain ⟨_, its, rv, o, h1, h2, m, h3⟩ := (I.hok tp _ hT : ObjOk X.prog X.w H s.heap tp (.tup cs))
  obtain rfl := ClsV.all k rv
  obtain ⟨oc, od, dt, sl⟩ := o
  dsimp only at h2 h3
  subst h2 h3
  exact PySem.W.kia_tup (PySem.W.handS_kitx_exc C.hg C.hk C.hs C.hd C.ha C.hn C.ht C.hm) I.kIn J h1 e (fun z => nomatch z) fun tk => ⟨.bl b, H, I.tok tk, rfl, q⟩
end
/-! ### defs that may be called while an exception is handled -/
structure FnU (P : Program) (w : World) (K : PySem.W.Frag) (mg : Str → Option Value) (base : Heap) (k : Nat) (f : Addr) (fd : FuncData) (ps : List Str) (sp : Sp) : Prop where
  size : ∀ vs H Q E, sp vs H Q E → vs.length = ps.length
  go : ∀ (A : Around) (outer : List Env) (s : Shared) (H : Hp) (args : Args) (us : List Value) (vs : List V) (Q : VK) (E : XK), L2H.RoomH k A → Env0 P w K mg base A outer s H →
    BindsTo s fd args (ps.zip us) → Vals vs us → sp vs H Q E → codeAny (model P w) A (.call (.ref f) args) (CR CX0 outer P w H s Q E) s
/-- the context of such a def's body -/
def cxU (P : Program) (w : World) (K : PySem.W.Frag) (mg : Str → Option Value) (base : Heap) (N : List Str) (qual : Str) (scope : Scope) (f : Addr) (cd : Value) (A : Around) (outer : List Env) (s : Shared) (H : Hp) (E : XK) : Cx :=
  { cxOf CX0 P w K mg base N qual scope f cd A outer s H E with calm := false }
section
variable {P : Program} {w : World} {K : PySem.W.Frag} {mg : Str → Option Value} {base : Heap} {k : Nat} {f : Addr} {fd : FuncData} {ps : List Str} {sp : Sp}
theorem fun_okU {x qual : Str} {st : Stmt} {N : List Str} (F : Fun K x qual st f fd) (S : FnScope N ps (defScope st)) (size : ∀ vs H Q E, sp vs H Q E → vs.length = ps.length)
    (body : ∀ (cdv : Value) (A : Around) (outer : List Env) (s : Shared) (H : Hp) (vs : List V) (Q : VK) (E : XK), L2H.RoomH k (A.deeper (envOfC qual (defScope st) s.heap.objs.size f cdv)) → sp vs H Q E →
      ∃ t, PSs (cxU P w K mg base N qual (defScope st) f cdv A outer s H E) (defBody st) t ∧ t { nx := fun _ H' => Q .non H', rt := Q } (start N vs) H) : FnU P w K mg base (k + 1) f fd ps sp := by
  obtain ⟨oc, od, kV, doc, pm, an, cdv, ct, osl, rfl, lk, hcd⟩ := F.ex
  refine ⟨size, fun A outer s H args us vs Q E room env bind vals prom => ?_⟩
  have inK : K.In s.heap := env.mod.kin.keeps fun b o q => (env.bs b o q).1
  have loose : s.heap.NoLimit := env.mod.nolimit.keeps fun b o q => (env.bs b o q).1
  have kinds : ∀ z ∈ ps.zip us, (defScope st).names.lookup z.1 = some .local ∨ ((defScope st).names.lookup z.1 = some .cell ∧ ((cellsFrom (s.heap.objs.size + 1) (defScope st).names []).lookup z.1).isSome = true) := by
    rintro ⟨n, v⟩ hz
    have hn := (List.of_mem_zip hz).1
    rcases S.par n hn with h | h
    · exact Or.inl h
    · exact Or.inr ⟨h, PySem.W.cellsFrom_some _ _ _ (Or.inl h)⟩
  refine codeAny_call_function room.depth (inK _ _ lk) rfl S.co S.gen rfl (PySem.W.codeRec_of inK hcd) (bind _ _ _ _ ?_)
  refine wpAny_newFunctionEnv_cells S.kind kinds fun env' e1 s1 into => ?_
  subst e1
  refine ⟨loose.keeps into.toInCall.keep, codeAny_func ?_⟩
  obtain ⟨t, deriv, read⟩ := body cdv A outer s H vs Q E (room.deeper _) prom
  have env1 : Env0 P w K mg base { A with handled := none } outer s H := ⟨env.frames, env.mod, env.bs, env.bsz, env.funs, env.frf, env.hok, env.bare⟩
  have I0 := inv_start (CX := CX0) (E := E) (A := { A with handled := none }) S rfl env1 (size _ _ _ _ prom) vals into
  have I : Inv (cxU P w K mg base N qual (defScope st) f cdv A outer s H E) [] (start N vs) H s1 :=
    ⟨⟨I0.ok.mod, I0.ok.kind, I0.ok.glob, I0.ok.blt, I0.ok.above, I0.ok.inj, I0.ok.has, I0.ok.cab, (fun z => absurd (show false = true from z) Bool.false_ne_true), I0.ok.frames, I0.ok.stk, I0.ok.exf, I0.ok.bs, I0.ok.bsz, I0.ok.noex, I0.ok.exfs, I0.ok.funs, I0.ok.frf⟩,
      I0.os, I0.bare, I0.base, I0.loc, I0.cell, I0.free, I0.freeC, I0.pin, I0.hok, I0.len⟩
  refine wpAny_mono (deriv.run [] s1 (start N vs) H _ I read) (fun flow s' ends => ?_) fun _ _ q => q
  have done : ∀ {σ2 : L2.St} {H2 : Hp} {v : V} {u : Value}, Inv (cxU P w K mg base N qual (defScope st) f cdv A outer s H E) [] σ2 H2 s' → RelV v u → Q v H2 → CE outer P w H s Q u s' := by
    intro σ2 H2 v u J rel q
    exact ⟨v, H2, J.os, J.bare, J.base, J.hok, rel, q⟩
  match flow, ends with
  | .ret u, ends =>
    obtain ⟨v, σ2, H2, J, rel, q⟩ := ends
    exact done J rel q
  | .next, ends =>
    obtain ⟨σ2, H2, J, q⟩ := ends
    exact done (v := V.non) (u := Value.none) J rfl q
  | .brk, ends =>
    obtain ⟨_, _, _, q⟩ := ends
    exact q.elim
  | .cont, ends =>
    obtain ⟨_, _, _, q⟩ := ends
    exact q.elim
end
section
variable {X : Cx} {k : Nat} {f : Addr} {fd : FuncData} {ps : List Str} {sp : Sp} {E : XK} {x : Str} {p pos : Pos} {e : Expr} {es : List Expr} {t : TA}
theorem pe_callU (F : FnU X.prog X.w X.K X.mg X.base k f fd ps sp) (hr : L2H.RoomH k X.A) (hg : Gl X x) (hm : X.mg x = some (.ref f)) (hk : PySem.W.keepIn X.K (.ref f) = true) (hb : Binds X.K fd ps []) (hx : Passes CX0 X E)
    (ha : PA X (e :: es) t) (hdb : (x == ("__debug__" : Str)) = false := by decide) (he : starEach (e :: es) X.env = (false, eval e X.env) :: starEach es X.env := by rfl) (hpl : (backTo pos (starEach es X.env)).any (·.1) = false := by rfl) :
    PE X (.Call (.Name x p) (e :: es) [] pos) (tCall sp [] E t) := by
  constructor
  intro pins s σ H Q I h
  have args := ha.run pos pins s σ H _ I h
  refine wpAny_Call_Name_kw (ld_glob I hg hm (PySem.W.callWith_K (h₀ := X.base) I.ok.mod.kin hk (thn args ?_) he hpl) hdb)
  rintro us s1 ⟨vs, H1, I1, r, q⟩
  rw [List.append_nil] at q
  refine ⟨I1.kIn, ?_⟩
  have many : (us ++ []).length = ps.length := by rw [List.append_nil]; exact r.length.symm.trans (F.size _ _ _ _ q)
  have bs := hb s1 us I1.kIn many
  rw [List.append_nil] at bs
  have run := F.go X.A X.stack s1 H1 ⟨us, []⟩ us vs Q E hr I1.env0 bs r q
  refine wpAny_call (codeAny_mono run fun res s' z => ?_)
  match res, z with
  | .error err, z => exact hx pins σ H1 s1 err s' I1 z
  | .ok (.ret u), z => exact I1.after z
end
end BC
namespace BC
open PySem PySem.Spec PyProof.Rows L2
theorem roomM {k : Nat} {A : Around} {v : Option Value} (r : L2H.RoomH k A) : L2H.RoomH k (A.mark v) := ⟨r.dp, r.un⟩
/-- own classes ahead of ValueError's -/
def MroIs (K : PySem.W.Frag) (C : Addr) (l : List Addr) : Prop := ∃ cd, PySem.W.clsIn K C = some cd ∧ cd.mro = l.map Value.ref ++ HandSPX.veTail
theorem own_has {l : List Addr} {D : Addr} : (l.map Value.ref ++ HandSPX.veTail).contains (.ref D) = decide (D ∈ l) := by
  induction l with
  | nil => rfl
  | cons a l ih =>
    rw [List.map_cons, List.cons_append, List.contains_cons, ih]
    by_cases e : D = a
    · subst e; simp
    · have : (Value.ref D == Value.ref a) = false := by simpa using e
      rw [this, Bool.false_or]
      simp [e]
theorem mro_sub {K : PySem.W.Frag} {C : Addr} {l : List Addr} (m : MroIs K C l) (v : Value) : PySem.W.subIn K (.ref C) v = some ((l.map Value.ref ++ HandSPX.veTail).contains v) := by
  obtain ⟨cd, h1, h2⟩ := m
  show PySem.W.mroIn K C v = _
  unfold PySem.W.mroIn
  rw [h1]
  show (if cd.mro.isEmpty = true then none else some (cd.mro.contains v)) = _
  rw [h2, if_neg (by cases l <;> simp [HandSPX.veTail])]
/-- isinstance of own exceptions, among each other -/
theorem kit_own {K : PySem.W.Frag} {C D : Addr} {l l2 : List Addr} (m : MroIs K C l) (m2 : MroIs K D l2) (t : PySem.W.typeIn K (.ref D) = some (.type "type")) (hC : C ∈ l) : PySem.W.kitOne K (.ref C) (.ref D) = some (decide (D ∈ l)) := by
  unfold PySem.W.kitOne
  by_cases e : C = D
  · subst e
    rw [if_pos (by simp), decide_eq_true hC]
  · have : (Value.ref C == Value.ref D) = false := by simpa using e
    rw [this, if_neg Bool.false_ne_true]
    obtain ⟨cd2, k1, _⟩ := id m2
    show (if ((PySem.W.clsIn K D).isSome && PySem.W.typeIn K (.ref D) == some (.type "type")) = true then PySem.W.subIn K (.ref C) (.ref D) else none) = _
    rw [k1, t, if_pos (by rfl), mro_sub m, own_has]
theorem kit_ve {K : PySem.W.Frag} {C : Addr} {l : List Addr} (m : MroIs K C l) : PySem.W.kitOne K (.ref C) (.type "ValueError") = some true := by
  unfold PySem.W.kitOne
  rw [if_neg (by simp)]
  show (if PySem.W.kitMeta "ValueError" = true then PySem.W.subIn K (.ref C) (.type "ValueError") else none) = _
  rw [if_pos (by decide +kernel), mro_sub m]
  congr 1
  clear m
  induction l with
  | nil => rfl
  | cons a l ih => rw [List.map_cons, List.cons_append, List.contains_cons, ih, Bool.or_true]
/-- an own class in an except clause -/
theorem exm_own {K : PySem.W.Frag} {C D : Addr} {l : List Addr} (m : MroIs K C l) (e : ExcC K D) (t : PySem.W.typeIn K (.ref D) = some (.type "type")) : PySem.W.exmOne K (.ref C) (.ref D) = some (decide (D ∈ l)) :=
  PySem.W.exm_ref e.hs e.hd t (by rw [mro_sub m, own_has])
theorem exm_yes {K : PySem.W.Frag} {C D : Addr} {l : List Addr} (m : MroIs K C l) (e : ExcC K D) (t : PySem.W.typeIn K (.ref D) = some (.type "type")) (h : D ∈ l) : PySem.W.exmOne K (.ref C) (.ref D) = some true := by rw [exm_own m e t, decide_eq_true h]
theorem kitAny_cons' {K : PySem.W.Frag} {t c : Value} {cs : List Value} {b r : Bool} (h : PySem.W.kitOne K t c = some b) (hr : PySem.W.kitAny K t cs = some r) : PySem.W.kitAny K t (c :: cs) = some (b || r) := by
  unfold PySem.W.kitAny
  rw [h]
  cases b with
  | true => rfl
  | false => rw [Bool.false_or]; exact hr
section
variable {σ : L2.St} {H : Hp} {Q : VK} {t : TA} {sp : Sp} {E : L2.St → XK}
theorem x_callS : tCallS sp E t σ H Q = t σ H fun vs H1 => sp vs H1 Q (E σ) := rfl
end
end BC

set_option Elab.async false
set_option linter.all false
set_option maxRecDepth 100000
set_option maxHeartbeats 4000000
/-! a call of a def that an expression chooses: [f, g][i](..) -/
namespace BC
open PySem PySem.Spec PyProof.Rows L2
section
variable {X : Cx} {CX : CXT} {k1 k2 : Nat} {f1 f2 : Addr} {fd1 fd2 : FuncData} {ps1 ps2 : List Str} {sp1 sp2 : Sp} {E : L2.St → XK} {fe e : Expr} {es : List Expr} {tf : TE} {t : TA} {pos : Pos}
/-- one of two defs is called; what it raises is wished for at the caller's slots -/
def tCallF2 (f1 f2 : Addr) (sp1 sp2 : Sp) (E : L2.St → XK) (tf : TE) (t : TA) : TE := fun σ H Q => tf σ H fun x H1 => (x = .ref f1 ∧ t σ H1 fun vs H2 => sp1 vs H2 Q (E σ)) ∨ (x = .ref f2 ∧ t σ H1 fun vs H2 => sp2 vs H2 Q (E σ))
theorem x_callF2 {σ : L2.St} {H : Hp} {Q : VK} : tCallF2 f1 f2 sp1 sp2 E tf t σ H Q = tf σ H fun x H1 => (x = .ref f1 ∧ t σ H1 fun vs H2 => sp1 vs H2 Q (E σ)) ∨ (x = .ref f2 ∧ t σ H1 fun vs H2 => sp2 vs H2 Q (E σ)) := rfl
theorem pe_callF2 (hf : PE X fe tf) (F1 : FnOk X.prog X.w X.K X.mg X.base CX k1 f1 fd1 ps1 sp1) (r1 : Room k1 X.A) (kp1 : PySem.W.keepIn X.K (.ref f1) = true) (b1 : Binds X.K fd1 ps1 [])
    (F2 : FnOk X.prog X.w X.K X.mg X.base CX k2 f2 fd2 ps2 sp2) (r2 : Room k2 X.A) (kp2 : PySem.W.keepIn X.K (.ref f2) = true) (b2 : Binds X.K fd2 ps2 []) (hx : ∀ σ, PassesAt CX X σ (E σ)) (ha : PA X (e :: es) t)
    (ht : eval (.Call fe (e :: es) [] pos) X.env = (do callWith pos (← eval fe X.env) [] (backTo pos (starEach (e :: es) X.env)) (backToKw pos (keywordEach [] X.env))) := by rfl)
    (he : starEach (e :: es) X.env = (false, eval e X.env) :: starEach es X.env := by rfl) (hpl : (backTo pos (starEach es X.env)).any (·.1) = false := by rfl) :
    PE X (.Call fe (e :: es) [] pos) (tCallF2 f1 f2 sp1 sp2 E tf t) := by
  constructor
  intro pins s σ H Q I h
  refine Call_ (thn (hf.run pins s σ H _ I h) fun u s1 ⟨x, H1, I1, rx, q⟩ => ?_) ht
  rcases q with ⟨rfl, q⟩ | ⟨rfl, q⟩
  · obtain rfl : u = Value.ref f1 := rx
    exact PySem.W.callWith_K (h₀ := X.base) I1.ok.mod.kin kp1 (thn (ha.run pos pins s1 σ H1 _ I1 q) fun us s2 ⟨vs, H2, I2, r, q2⟩ => ⟨I2.kIn, run_fnS F1 r1 b1 (hx σ) I2 r q2⟩) he hpl
  · obtain rfl : u = Value.ref f2 := rx
    exact PySem.W.callWith_K (h₀ := X.base) I1.ok.mod.kin kp2 (thn (ha.run pos pins s1 σ H1 _ I1 q) fun us s2 ⟨vs, H2, I2, r, q2⟩ => ⟨I2.kIn, run_fnS F2 r2 b2 (hx σ) I2 r q2⟩) he hpl
end
end BC

set_option Elab.async false
set_option linter.all false
set_option maxRecDepth 100000
set_option maxHeartbeats 4000000
/-! a call of one of four defs that an expression chooses; dict comprehensions over a dict; a locked expression -/
namespace BC
open PySem PySem.Spec PyProof.Rows L2
section
variable {X : Cx} {CX : CXT} {k1 k2 k3 k4 : Nat} {f1 f2 f3 f4 : Addr} {fd1 fd2 fd3 fd4 : FuncData} {ps1 ps2 ps3 ps4 : List Str} {sp1 sp2 sp3 sp4 : Sp} {E : L2.St → XK} {fe e : Expr} {es : List Expr} {tf : TE} {t : TA} {pos : Pos}
/-- one of four defs is called; what it raises is wished for at the caller's slots -/
def tCallF4 (f1 f2 f3 f4 : Addr) (sp1 sp2 sp3 sp4 : Sp) (E : L2.St → XK) (tf : TE) (t : TA) : TE := fun σ H Q => tf σ H fun x H1 => ∃ (f : Addr) (sp : Sp), x = .ref f ∧ ((f = f1 ∧ sp = sp1) ∨ (f = f2 ∧ sp = sp2) ∨ (f = f3 ∧ sp = sp3) ∨ (f = f4 ∧ sp = sp4)) ∧ t σ H1 fun vs H2 => sp vs H2 Q (E σ)
theorem x_callF4 {σ : L2.St} {H : Hp} {Q : VK} : tCallF4 f1 f2 f3 f4 sp1 sp2 sp3 sp4 E tf t σ H Q = tf σ H fun x H1 => ∃ (f : Addr) (sp : Sp), x = .ref f ∧ ((f = f1 ∧ sp = sp1) ∨ (f = f2 ∧ sp = sp2) ∨ (f = f3 ∧ sp = sp3) ∨ (f = f4 ∧ sp = sp4)) ∧ t σ H1 fun vs H2 => sp vs H2 Q (E σ) := rfl
theorem pe_callF4 (hf : PE X fe tf) (F1 : FnOk X.prog X.w X.K X.mg X.base CX k1 f1 fd1 ps1 sp1) (r1 : Room k1 X.A) (kp1 : PySem.W.keepIn X.K (.ref f1) = true) (b1 : Binds X.K fd1 ps1 [])
    (F2 : FnOk X.prog X.w X.K X.mg X.base CX k2 f2 fd2 ps2 sp2) (r2 : Room k2 X.A) (kp2 : PySem.W.keepIn X.K (.ref f2) = true) (b2 : Binds X.K fd2 ps2 [])
    (F3 : FnOk X.prog X.w X.K X.mg X.base CX k3 f3 fd3 ps3 sp3) (r3 : Room k3 X.A) (kp3 : PySem.W.keepIn X.K (.ref f3) = true) (b3 : Binds X.K fd3 ps3 [])
    (F4 : FnOk X.prog X.w X.K X.mg X.base CX k4 f4 fd4 ps4 sp4) (r4 : Room k4 X.A) (kp4 : PySem.W.keepIn X.K (.ref f4) = true) (b4 : Binds X.K fd4 ps4 []) (hx : ∀ σ, PassesAt CX X σ (E σ)) (ha : PA X (e :: es) t)
    (ht : eval (.Call fe (e :: es) [] pos) X.env = (do callWith pos (← eval fe X.env) [] (backTo pos (starEach (e :: es) X.env)) (backToKw pos (keywordEach [] X.env))) := by rfl)
    (he : starEach (e :: es) X.env = (false, eval e X.env) :: starEach es X.env := by rfl) (hpl : (backTo pos (starEach es X.env)).any (·.1) = false := by rfl) :
    PE X (.Call fe (e :: es) [] pos) (tCallF4 f1 f2 f3 f4 sp1 sp2 sp3 sp4 E tf t) := by
  constructor
  intro pins s σ H Q I h
  refine Call_ (thn (hf.run pins s σ H _ I h) fun u s1 ⟨x, H1, I1, rx, q⟩ => ?_) ht
  obtain ⟨f, sp, rfl, c, q⟩ := q
  obtain rfl : u = Value.ref f := rx
  rcases c with ⟨rfl, rfl⟩ | ⟨rfl, rfl⟩ | ⟨rfl, rfl⟩ | ⟨rfl, rfl⟩
  · exact PySem.W.callWith_K (h₀ := X.base) I1.ok.mod.kin kp1 (thn (ha.run pos pins s1 σ H1 _ I1 q) fun us s2 ⟨vs, H2, I2, r, q2⟩ => ⟨I2.kIn, run_fnS F1 r1 b1 (hx σ) I2 r q2⟩) he hpl
  · exact PySem.W.callWith_K (h₀ := X.base) I1.ok.mod.kin kp2 (thn (ha.run pos pins s1 σ H1 _ I1 q) fun us s2 ⟨vs, H2, I2, r, q2⟩ => ⟨I2.kIn, run_fnS F2 r2 b2 (hx σ) I2 r q2⟩) he hpl
  · exact PySem.W.callWith_K (h₀ := X.base) I1.ok.mod.kin kp3 (thn (ha.run pos pins s1 σ H1 _ I1 q) fun us s2 ⟨vs, H2, I2, r, q2⟩ => ⟨I2.kIn, run_fnS F3 r3 b3 (hx σ) I2 r q2⟩) he hpl
  · exact PySem.W.callWith_K (h₀ := X.base) I1.ok.mod.kin kp4 (thn (ha.run pos pins s1 σ H1 _ I1 q) fun us s2 ⟨vs, H2, I2, r, q2⟩ => ⟨I2.kIn, run_fnS F4 r4 b4 (hx σ) I2 r q2⟩) he hpl
end
theorem x_lockE {t : TE} {σ : L2.St} {H : Hp} {Q : VK} : tLockE t σ H Q = ∃ d u, H d = some u ∧ Mut (some u) ∧ ∀ od, t σ (upd H d (.frz od u)) fun v H' => H' d = some (.frz od u) ∧ Q v (upd H' d u) := rfl
theorem x_daug {td ty tv : TE} {rd : V → V → Hp → VK → Prop} {D : Ends} {σ : L2.St} {H : Hp} : sDAug td ty tv rd D σ H = td σ H fun x H1 => ty σ H1 fun y H2 => ∃ a v, x = .ref a ∧ DGet H2 a y (some v) ∧ tv σ H2 fun y2 H3 => rd v y2 H3 fun z H4 => ∃ H5, DPut H4 a y z H5 ∧ D.nx σ H5 := rfl
section
variable {X : Cx}
open L2.DX
theorem sw_trueD {kx vx : Expr} {gs : List Comprehension} {scope : Scope} {pos py : Pos} {y : Str} {l : Nat} {env : Env} (hk : env.scope.kind = .function) (hy : env.scope.names.lookup y = some .local) (hl : (py.line == pos.line) = true)
    (ha : (scope.names.any fun (n, k) => n == y && (k == .local || k == .cell)) = false) : swapsWith (.DictComp kx vx gs scope pos) (some (.Name y py)) l env = pure true := by
  have ky : env.kindOf y = some .local := hy
  have hb : env.blockKind = .function := by unfold Env.blockKind; rw [hk]; rfl
  unfold swapsWith
  simp only [hb, ky, ha, Expr.pos, hl]
  rfl
/-- name = {..} on one line, the name a local -/
theorem ps_setDc {i : Nat} {y : Str} {py : Pos} {kx vx tg iter : Expr} {ifs : List Expr} {scope : Scope} {own : List (Str × Nat)} {pos spos : Pos} {wi : TI} {g : TG} {tt : TT} {tk tv : TE} (hc : X.calm = true) (hN : X.N.Nodup) (hy : X.N[i]? = some y) (hyl : X.env.scope.names.lookup y = some .local)
    (hsw : swapsWith (.DictComp kx vx [⟨tg, iter, ifs, 0⟩] scope pos) (some (.Name y py)) spos.line X.env = pure true) (hi : PI X tg iter wi) (ok : BlkOk X.N X.env.scope scope own)
    (hg : ∀ (s : Shared) (H : Hp) (C : Addr) (cl : List (Str × Addr)) (fp : List Addr), PG (X.blk s H scope (compEnvC scope cl C X.env) fp) tg g) (ht : ∀ (s : Shared) (H : Hp) (C : Addr) (cl : List (Str × Addr)) (fp : List Addr), PTs (X.blk s H scope (compEnvC scope cl C X.env) fp) ifs tt)
    (hk : ∀ (s : Shared) (H : Hp) (C : Addr) (cl : List (Str × Addr)) (fp : List Addr), PE (X.blk s H scope (compEnvC scope cl C X.env) fp) kx tk)
    (he : ∀ (s : Shared) (H : Hp) (C : Addr) (cl : List (Str × Addr)) (fp : List Addr), PE (X.blk s H scope (compEnvC scope cl C X.env) fp) vx tv) (hs : ∀ x, foldedSetIterable iter X.env x = pure x := by intro _; rfl) :
    PS X (.Assign [.Name y py] (.DictComp kx vx [⟨tg, iter, ifs, 0⟩] scope pos) spos) (tAsg (tDc wi g tt tk tv (own.map (·.2))) (gName i)) := by
  refine ⟨fun pins s σ H D I h => ?_⟩
  rw [exec_Assign_Name_used _ _ _ _ hsw]
  refine wpAny_bind (wpAny_standAt (wpAny_bind ?_))
  show wpAny _ X.A (do let _ ← comprehension (.DictComp kx vx [⟨tg, iter, ifs, 0⟩] scope pos) scope X.env (firstIterPos [⟨tg, iter, ifs, 0⟩] pos) newDict false (eval iter X.env) (some (assign (.Name y py) X.env))) _ _ s
  have h : tDc wi g tt tk tv (own.map (·.2)) σ H (fun x H1 => gName i x σ H1 D.nx) := h
  refine wpAny_bind (thn (dc_core (Qf := fun _ s' => SP X pins D .next s') hc hN I hi ok hg ht hk he hs h fun L C s' m H' I' q hn f => ?_) fun _ s' hq => wpAny_pure (wpAny_pure hq))
  show wpAny _ _ (assign (.Name y py) X.env (.ref L)) _ _ _
  refine wpAny_assign_Name (store_ok2 (v := V.ref L) I' hN hy (.inl hyl) rfl (fun s2 I2 ⟨a, sb, ha⟩ => ?_) (.inr hyl))
  obtain ⟨f0, f1, f2, f3, f4, f5⟩ := f
  have haC : C ≠ a := by
    rcases ha with z | z
    · rw [z]; exact f1
    · exact fun e => f4 y a z e.symm
  refine ⟨m, hn.sameBut sb haC, fun h3 sb3 => ?_⟩
  exact ⟨_, H', I2.turned (t' := s2.toks) (fun b o hb e => (sb3.2 b hb).trans e) f0 f1 f3 f4 f5, q⟩
end
theorem x_lockS {t : TS} {D : Ends} {σ : L2.St} {H : Hp} : tLock t D σ H = ∃ d u, H d = some u ∧ Mut (some u) ∧ ∀ od, t ⟨fun σ' H' => H' d = some (.frz od u) ∧ D.nx σ' (upd H' d u), fun v H' => H' d = some (.frz od u) ∧ D.rt v (upd H' d u), fun σ' H' => H' d = some (.frz od u) ∧ D.bk σ' (upd H' d u), fun σ' H' => H' d = some (.frz od u) ∧ D.ct σ' (upd H' d u)⟩ σ (upd H d (.frz od u)) := rfl
theorem dcg_keys {d : Addr} {o : Obj} {kvs0 : List (Key × V)} {g : TG} {tt : TT} {tk tv : TE} {vs : List Nat} {σ : L2.St} {H1 : Hp} {Q : VK} {D : Addr} (Pv : Nat → Hp → Prop) (h0 : Pv 0 (upd H1 D (.dK []))) (hl : ∀ i H, i ≤ kvs0.length → Pv i H → H d = some (.frz o (.dK kvs0)))
    (hs : ∀ i k v H, kvs0[i]? = some (k, v) → Pv i H → g (kV k) (wipe σ vs) H fun σ2 H2 => wipe σ2 vs = wipe σ vs ∧ tt σ2 H2 fun b H3 =>
      if b = true then tk σ2 H3 fun y H4 => tv σ2 H4 fun z H5 => ∃ kvs k, y = kV k ∧ H5 D = some (.dK kvs) ∧ kvs.length < sizeLine ∧ Pv (i + 1) (upd H5 D (.dK (putK kvs k z))) else Pv (i + 1) H3) (hd : ∀ H, Pv kvs0.length H → Q (.ref D) H) : DcG (Itk d o kvs0) g tt tk tv vs σ D H1 Q := by
  refine ⟨fun i m H => m = kvs0.length - i ∧ i ≤ kvs0.length ∧ Pv i H, ⟨kvs0.length, by simp, Nat.zero_le _, h0⟩, ?_⟩
  rintro i m H ⟨rfl, hi, p⟩
  have q := hl i H hi p
  by_cases hlt : i < kvs0.length
  · refine .inr ⟨⟨q, hlt⟩, Pv (i + 1), fun H' p' => ⟨kvs0.length - (i + 1), by omega, rfl, hlt, p'⟩, fun x H' y => ?_⟩
    obtain ⟨rfl, k, v, e, rfl⟩ := y
    exact hs i k v _ e p
  · have e : i = kvs0.length := by omega
    subst e
    exact .inl ⟨⟨q, Nat.le_refl _⟩, hd H p⟩
end BC

set_option Elab.async false
set_option linter.all false
set_option maxRecDepth 100000
set_option maxHeartbeats 4000000
/-! dicts whose keys are tuples: comprehensions, dict(d), d.update(e) -/
namespace BC
open PySem PySem.Spec PyProof.Rows L2 Evl
/-- d[(..)] = v by a comprehension -/
theorem dT_put {X : Cx} {ps : List (Addr × Obj)} {σ : L2.St} {H : Hp} {z : Shared} {B : Around} {E : Value → Shared → Prop} {D q : Addr} {kvs : List (List Key × V)} {k : List Key} {v : V} {r : Value} {Q : Unit → Shared → Prop} (hu : B.units < cLine) (J : Inv X ps σ H z) (eD : H D = some (.dT kvs)) (eq : H q = some (.tup (k.map kV)))
    (lz : kvs.length < sizeLine) (rr : RelV v r) (h : ∀ z', Inv X ps σ (upd H D (.dT (putK kvs k v))) z' → Q () z') : wpAny (model X.prog X.w) B (dictSet D (.ref q) r) Q E z := by
  obtain ⟨n1, n2, xs, rel, dd⟩ := dt_of J.hok eD
  have n3 : xs.length ≤ sizeLine := by rw [← Paired.length rel]; exact n1
  have n4 : (putK kvs k v).length ≤ sizeLine := by have := length_putK kvs k v; omega
  refine wpAny_dictSet_heap (hsz := n3) (knd := tupleKind (mixKind X.prog X.w)) hu (key_of J.hok eq) dd fun h' d' same => h _ ?_
  obtain ⟨o, es, ep, ho, a2, a3, a4, _, a5⟩ := d'
  refine d_write J (by rw [eD]; exact True.intro) same ⟨o, ho⟩ ⟨n4, n2, _, (rel.put k eq rr).keeps fun c ys ec => ?_, o, es, ep, ho, a2, a3, a4, a5⟩
  rw [upd_ne (ne_of ec eD (fun z => nomatch z))]; exact ec
def DcTG (J : It) (g : TG) (tt : TT) (tk tv : TE) (vs : List Nat) (σ : L2.St) (D : Addr) (H1 : Hp) (Q : VK) : Prop := ∃ W : Nat → Nat → Hp → Prop, (∃ m, W 0 m (upd H1 D (.dT []))) ∧ ∀ i m H, W i m H →
  (J.stop i H ∧ Q (.ref D) H) ∨ (J.go i H ∧ ∃ Nx : Hp → Prop, (∀ H', Nx H' → ∃ m', m' < m ∧ W (i + 1) m' H') ∧ ∀ x H', J.yld i H x H' → g x (wipe σ vs) H' fun σ2 H2 => wipe σ2 vs = wipe σ vs ∧ tt σ2 H2 fun b H3 =>
    if b = true then tk σ2 H3 fun y H4 => tv σ2 H4 fun u H5 => ∃ kvs k q, y = .ref q ∧ H5 q = some (.tup (k.map kV)) ∧ H5 D = some (.dT kvs) ∧ kvs.length < sizeLine ∧ Nx (upd H5 D (.dT (putK kvs k u))) else Nx H3)
def tDcT (wi : TI) (g : TG) (tt : TT) (tk tv : TE) (vs : List Nat) : TE := fun σ H Q => wi σ H fun J H1 => ∀ D, H1 D = none → DcTG J g tt tk tv vs σ D H1 Q
theorem x_dcT {σ : L2.St} {H : Hp} {Q : VK} {wi : TI} {g : TG} {tt : TT} {tk tv : TE} {vs : List Nat} : tDcT wi g tt tk tv vs σ H Q = wi σ H (fun J H1 => ∀ D, H1 D = none → DcTG J g tt tk tv vs σ D H1 Q) := rfl
section
variable {X : Cx}
theorem dcT_core {ps : List (Addr × Obj)} {z : Shared} {σ : L2.St} {H : Hp} {Q : VK} {kx vx tg iter : Expr} {ifs : List Expr} {scope : Scope} {own : List (Str × Nat)} {pos pos' : Pos} {wi : TI} {g : TG} {tt : TT} {tk tv : TE} {use : Option (Value → Sem Unit)} {Qf : Value → Shared → Prop}
    (hc : X.calm = true) (hu : X.A.units < cLine) (hN : X.N.Nodup) (J : Inv X ps σ H z) (hi : PI X tg iter wi) (bok : BlkOk X.N X.env.scope scope own)
    (hg : ∀ (z : Shared) (H : Hp) (C : Addr) (cl : List (Str × Addr)) (fp : List Addr), PG (X.blk z H scope (compEnvC scope cl C X.env) fp) tg g) (ht : ∀ (z : Shared) (H : Hp) (C : Addr) (cl : List (Str × Addr)) (fp : List Addr), PTs (X.blk z H scope (compEnvC scope cl C X.env) fp) ifs tt)
    (hk : ∀ (z : Shared) (H : Hp) (C : Addr) (cl : List (Str × Addr)) (fp : List Addr), PE (X.blk z H scope (compEnvC scope cl C X.env) fp) kx tk)
    (hv : ∀ (z : Shared) (H : Hp) (C : Addr) (cl : List (Str × Addr)) (fp : List Addr), PE (X.blk z H scope (compEnvC scope cl C X.env) fp) vx tv) (hs : ∀ x, foldedSetIterable iter X.env x = pure x)
    (h : tDcT wi g tt tk tv (own.map (·.2)) σ H Q)
    (back : ∀ D C z' m H', Inv X ps σ H' z' → Q (.ref D) H' → z'.heap.Ns C m → FpOk X ps H' C → compPost (model X.prog X.w) X.A X.xe use Qf (.ref D) C (.ok .next) z') :
    wpAny (model X.prog X.w) X.A (comprehension (.DictComp kx vx [⟨tg, iter, ifs, 0⟩] scope pos) scope X.env pos' newDict false (eval iter X.env) use) Qf X.xe z := by
  have fr : ∀ y ∈ scope.names, y.2 = .free → ∃ c, X.env.cells.lookup y.1 = some c := fun y hy e => (bok.free y hy e).elim (fun k => J.ok.has _ (.inl k)) fun k => J.ok.has _ (.inr k)
  refine wpAny_comprehension_free (use := use) rfl hs (closure_ok fr) bok.kind (fun y hy e => by rw [bok.uniq y hy, e]) (thn (hi.run ps z σ H _ J h) fun xv z1 hx => thn hx fun itv z2 h2 => ?_)
  obtain ⟨it, fp, tn, Jt, H2, e, J2, T, st2, f2, q⟩ := h2
  cases e
  refine wpAny_newObj_type (newEnv_comp ?_)
  have nD : H2 z2.heap.objs.size = none := J2.hok.fresh (Nat.le_refl _)
  obtain ⟨W, ⟨m0, w0⟩, turn⟩ := q z2.heap.objs.size nD
  generalize eD : z2.heap.objs.size = D at nD w0 turn ⊢
  generalize ez3 : ({ z2 with heap := z2.heap.push { cls := .type "dict", data := .dict #[] } } : Shared) = z3
  have hz3 : z3.heap = z2.heap.push { cls := .type "dict", data := .dict #[] } := by rw [← ez3]
  have J3 : Inv X ps σ (upd H2 D (.dT [])) z3 := by
    rw [← ez3]
    refine J2.laid (t' := z2.toks) (fun b o q => Heap.get?_push_of_some _ q) (Nat.le_of_eq eD) ?_
    rw [← eD]
    exact dt_empty z2.heap J2.big
  have lt2 : ∀ b ∈ fp, b < z2.heap.objs.size := fun b hb => let ⟨_, q, _⟩ := T.obj _ _ st2 b hb; Heap.lt_size q
  have f3 : ∀ b ∈ fp, FpOk X ps (upd H2 D (.dT [])) b ∧ b < z3.heap.objs.size := fun b hb => by
    have lb := lt2 b hb
    refine ⟨⟨?_, (f2 b hb).2⟩, by rw [hz3, Heap.size_push]; exact Nat.lt_succ_of_lt lb⟩
    rw [upd_ne (by rw [← eD]; exact Nat.ne_of_lt lb)]
    exact (f2 b hb).1
  have st3 : tn 0 z3.heap := T.keep _ _ _ st2 fun b _ o q => by rw [hz3]; exact Heap.get?_push_of_some _ q
  have J4 := block_start J3 bok hN f3
  generalize eH3 : upd H2 D (.dT []) = H3 at J3 J4 w0 f3
  have qg := hg z3 H3 z3.heap.objs.size (cellsFrom (z3.heap.objs.size + 1) scope.names (cloFrom X.env.cells scope.names [])) fp
  have qt := ht z3 H3 z3.heap.objs.size (cellsFrom (z3.heap.objs.size + 1) scope.names (cloFrom X.env.cells scope.names [])) fp
  have qk := hk z3 H3 z3.heap.objs.size (cellsFrom (z3.heap.objs.size + 1) scope.names (cloFrom X.env.cells scope.names [])) fp
  have qv := hv z3 H3 z3.heap.objs.size (cellsFrom (z3.heap.objs.size + 1) scope.names (cloFrom X.env.cells scope.names [])) fp
  show codeAny _ _ (.compStart (.DictComp kx vx [⟨tg, iter, ifs, 0⟩] scope pos) 0 (.ref it) (.ref D) (compEnvC scope (cellsFrom (z3.heap.objs.size + 1) scope.names (cloFrom X.env.cells scope.names [])) z3.heap.objs.size X.env)) (compPost (model X.prog X.w) X.A X.xe use Qf (.ref D) z3.heap.objs.size) { z3 with heap := pushCells (z3.heap.push { cls := .type "dict", data := .dict #[] }) scope.names }
  have n3 : ∀ b ∈ fp, H3 b = none := fun b hb => (f3 b hb).1.1
  generalize ece : compEnvC scope (cellsFrom (z3.heap.objs.size + 1) scope.names (cloFrom X.env.cells scope.names [])) z3.heap.objs.size X.env = ce at J4 qg qt qk qv ⊢
  have cl : ce.locals = z3.heap.objs.size := by rw [← ece]; rfl
  generalize ez4 : ({ z3 with heap := pushCells (z3.heap.push { cls := .type "dict", data := .dict #[] }) scope.names } : Shared) = z4 at J4 ⊢
  have st4 : tn 0 z4.heap := T.keep _ _ _ st3 fun b _ o q => by rw [← ez4]; exact pushCells_keeps _ _ _ _ (Heap.get?_push_of_some _ q)
  have fpo : ∀ {σ' : L2.St} {H' : Hp} {z' : Shared}, Inv (X.blk z3 H3 scope ce fp) [] σ' H' z' → (∀ b ∈ fp, H' b = none) → ∀ b ∈ fp, FpOk (X.blk z3 H3 scope ce fp) [] H' b := fun {σ' H' z'} I' hn b hb =>
    ⟨hn b hb, (I'.ok.exf b hb).1, I'.ok.exfs b hb, .inl hb, fun x c q => (I'.ok.exf b hb).2 x c q, fun p hp => absurd (show p ∈ ([] : List (Addr × Obj)) ++ [] from hp) (by simp)⟩
  have run : codeAny (model X.prog X.w) X.A (.compLoop (.DictComp kx vx [⟨tg, iter, ifs, 0⟩] scope pos) 0 (.ref it) (.ref D) ce) (compPost (model X.prog X.w) X.A X.xe use Qf (.ref D) z3.heap.objs.size) z4 := by
    refine compLoop_anyD (fun n z' => ∃ i H', Inv (X.blk z3 H3 scope ce fp) [] (wipe σ (own.map (·.2))) H' z' ∧ tn i z'.heap ∧ (∀ b ∈ fp, H' b = none) ∧ W i n H') ?_ m0 ⟨0, H3, J4, st4, n3, w0⟩
    rintro n z5 ⟨i, H5, J5, st5, n5, w5⟩
    rcases turn i n H5 w5 with ⟨stop, qq⟩ | ⟨go, Nx, hNx, step⟩
    · refine thnF (T.done (X.blk z3 H3 scope ce fp) rfl rfl rfl hc i [] z5 _ H5 (fun _ _ => False) J5 (fpo J5 n5) st5 stop) fun r z6 ⟨er, J6⟩ => ?_
      cases er
      have J7 : Inv X ps σ H5 z6 := J3.call' (ch := fp) J6.os J6.base J6.hok J6.bare fun b hb => let f := (f3 b hb).1.2; ⟨f.2.2.1, f.1, f.2.2.2.1, f.2.2.2.2⟩
      have nC : H5 z3.heap.objs.size = none := by
        have := J6.free
        rw [← cl]; exact this
      obtain ⟨mm, hn, _⟩ := J6.loc
      have hn : z6.heap.Ns ce.locals mm := hn
      rw [cl] at hn
      exact back D z3.heap.objs.size z6 mm H5 J7 qq hn (J3.fpOk (Nat.le_refl _) nC)
    · refine thnF (T.item (X.blk z3 H3 scope ce fp) rfl rfl rfl hc i [] z5 _ H5 (fun _ _ => False) J5 (fpo J5 n5) st5 go) fun r z6 ⟨u, er, h6⟩ => ?_
      cases er
      refine thnF h6 fun _ z7 ⟨x, H7, J7, r7, y7, st7, n7⟩ => ?_
      refine thnF (qg.run _ z7 _ H7 x u _ (J7.pinned (fpo J7 n7) (T.obj _ _ st7)) r7 (step x H7 y7)) fun _ z8 ⟨σ8, H8, J8, w8, q8⟩ => ?_
      refine thnF (qt.run _ z8 σ8 H8 _ J8 q8) fun b z9 ⟨H9, J9, q9⟩ => ?_
      have fin : ∀ {z' : Shared} {H' : Hp}, Inv (X.blk z3 H3 scope ce fp) ([] ++ pinsAt fp z7.heap) σ8 H' z' → Nx H' → ∃ m, m < n ∧ ∃ i H', Inv (X.blk z3 H3 scope ce fp) [] (wipe σ (own.map (·.2))) H' z' ∧ tn i z'.heap ∧ (∀ b ∈ fp, H' b = none) ∧ W i m H' := fun {z' H'} I' nx => by
        obtain ⟨m', hm, w'⟩ := hNx H' nx
        have pin : ∀ b ∈ fp, ∀ o, z7.heap.get? b = some o → z'.heap.get? b = some o ∧ H' b = none := fun b hb o q =>
          let k := I'.pin (b, o) (List.mem_append_right _ (List.mem_append_right _ (mem_pinsAt hb q)))
          ⟨k.1, k.2.1⟩
        have ll : (wipe σ (own.map (·.2))).length = σ8.length := by rw [← w8, wipe_length]
        refine ⟨m', hm, i + 1, H', (I'.unpinned (pins := [])).weak ll (fun j v q => ?_), T.keep _ _ _ st7 fun b hb o q => (pin b hb o q).1, fun b hb => ?_, w'⟩
        · rw [← w8] at q
          exact (wipe_some q).1
        · obtain ⟨o, q, _⟩ := T.obj _ _ st7 b hb
          exact (pin b hb o q).2
      cases b with
      | false => exact fin J9 q9
      | true =>
        refine thnF (qk.run _ z9 σ8 H9 _ J9 q9) fun w1 z10 ⟨yk, H10, J10, r10, q10⟩ => ?_
        refine thnF (qv.run _ z10 σ8 H10 _ J10 q10) fun w2 z11 ⟨yv, H11, J11, r11, kvs, k, qa, ek, hq, hD11, hl11, nx⟩ => ?_
        cases ek
        cases (show w1 = Value.ref qa from r10)
        exact dT_put (X := X.blk z3 H3 scope ce fp) hu J11 hD11 hq hl11 r11 fun z12 J12 => fin J12 nx
  exact codeAny_compStart_dict run (T.self X.A 0 _ _ _ st4 run)
/-- as a value -/
theorem pe_dcT {kx vx tg iter : Expr} {ifs : List Expr} {scope : Scope} {own : List (Str × Nat)} {pos : Pos} {wi : TI} {g : TG} {tt : TT} {tk tv : TE} (hc : X.calm = true) (hu : X.A.units < cLine) (hN : X.N.Nodup) (hi : PI X tg iter wi) (bok : BlkOk X.N X.env.scope scope own)
    (hg : ∀ (z : Shared) (H : Hp) (C : Addr) (cl : List (Str × Addr)) (fp : List Addr), PG (X.blk z H scope (compEnvC scope cl C X.env) fp) tg g) (ht : ∀ (z : Shared) (H : Hp) (C : Addr) (cl : List (Str × Addr)) (fp : List Addr), PTs (X.blk z H scope (compEnvC scope cl C X.env) fp) ifs tt)
    (hk : ∀ (z : Shared) (H : Hp) (C : Addr) (cl : List (Str × Addr)) (fp : List Addr), PE (X.blk z H scope (compEnvC scope cl C X.env) fp) kx tk)
    (hv : ∀ (z : Shared) (H : Hp) (C : Addr) (cl : List (Str × Addr)) (fp : List Addr), PE (X.blk z H scope (compEnvC scope cl C X.env) fp) vx tv) (hs : ∀ x, foldedSetIterable iter X.env x = pure x := by intro _; rfl) :
    PE X (.DictComp kx vx [⟨tg, iter, ifs, 0⟩] scope pos) (tDcT wi g tt tk tv (own.map (·.2))) := by
  refine ⟨fun ps z σ H Q J h => ?_⟩
  rw [arm_eval_DictComp]
  refine dcT_core hc hu hN J hi bok hg ht hk hv hs h fun D C z' m H' J' q hn ⟨f0, f1, f2, f3, f4, f5⟩ => ⟨m, hn, fun h2 sb => ?_⟩
  exact ⟨.ref D, H', J'.turned (t' := z'.toks) (fun b o hb e => (sb.2 b hb).trans e) f0 f1 f3 f4 f5, rfl, q⟩
/-- name = {..} on one line, the name a local -/
theorem ps_setDcT {i : Nat} {y : Str} {py : Pos} {kx vx tg iter : Expr} {ifs : List Expr} {scope : Scope} {own : List (Str × Nat)} {pos spos : Pos} {wi : TI} {g : TG} {tt : TT} {tk tv : TE} (hc : X.calm = true) (hu : X.A.units < cLine) (hN : X.N.Nodup) (hy : X.N[i]? = some y) (hyl : X.env.scope.names.lookup y = some .local)
    (hsw : swapsWith (.DictComp kx vx [⟨tg, iter, ifs, 0⟩] scope pos) (some (.Name y py)) spos.line X.env = pure true) (hi : PI X tg iter wi) (bok : BlkOk X.N X.env.scope scope own)
    (hg : ∀ (z : Shared) (H : Hp) (C : Addr) (cl : List (Str × Addr)) (fp : List Addr), PG (X.blk z H scope (compEnvC scope cl C X.env) fp) tg g) (ht : ∀ (z : Shared) (H : Hp) (C : Addr) (cl : List (Str × Addr)) (fp : List Addr), PTs (X.blk z H scope (compEnvC scope cl C X.env) fp) ifs tt)
    (hk : ∀ (z : Shared) (H : Hp) (C : Addr) (cl : List (Str × Addr)) (fp : List Addr), PE (X.blk z H scope (compEnvC scope cl C X.env) fp) kx tk)
    (hv : ∀ (z : Shared) (H : Hp) (C : Addr) (cl : List (Str × Addr)) (fp : List Addr), PE (X.blk z H scope (compEnvC scope cl C X.env) fp) vx tv) (hs : ∀ x, foldedSetIterable iter X.env x = pure x := by intro _; rfl) :
    PS X (.Assign [.Name y py] (.DictComp kx vx [⟨tg, iter, ifs, 0⟩] scope pos) spos) (tAsg (tDcT wi g tt tk tv (own.map (·.2))) (gName i)) := by
  refine ⟨fun ps z σ H D J h => ?_⟩
  rw [exec_Assign_Name_used _ _ _ _ hsw]
  refine wpAny_bind (wpAny_standAt (wpAny_bind ?_))
  show wpAny _ X.A (do let _ ← comprehension (.DictComp kx vx [⟨tg, iter, ifs, 0⟩] scope pos) scope X.env (firstIterPos [⟨tg, iter, ifs, 0⟩] pos) newDict false (eval iter X.env) (some (assign (.Name y py) X.env))) _ _ z
  have h : tDcT wi g tt tk tv (own.map (·.2)) σ H (fun x H1 => gName i x σ H1 D.nx) := h
  refine wpAny_bind (thn (dcT_core (Qf := fun _ z' => SP X ps D .next z') hc hu hN J hi bok hg ht hk hv hs h fun L C z' m H' J' q hn f => ?_) fun _ z' hq => wpAny_pure (wpAny_pure hq))
  show wpAny _ _ (assign (.Name y py) X.env (.ref L)) _ _ _
  refine wpAny_assign_Name (store_ok2 (v := V.ref L) J' hN hy (.inl hyl) rfl (fun z2 J2 ⟨a, sb, ha⟩ => ?_) (.inr hyl))
  obtain ⟨f0, f1, f2, f3, f4, f5⟩ := f
  have nCa : C ≠ a := ha.elim (fun e => by rw [e]; exact f1) fun e e' => f4 y a e e'.symm
  refine ⟨m, hn.sameBut sb nCa, fun h3 sb3 => ?_⟩
  exact ⟨_, H', J2.turned (t' := z2.toks) (fun b o hb e => (sb3.2 b hb).trans e) f0 f1 f3 f4 f5, q⟩
end
/-! ### over a list, over a range -/
theorem dct_list {K : PySem.W.Frag} {a : Addr} {xs : List V} {g : TG} {tt : TT} {tk tv : TE} {vs : List Nat} {σ : L2.St} {H1 : Hp} {Q : VK} {D : Addr} (Pv : Nat → Hp → Prop) (h0 : Pv 0 (upd H1 D (.dT []))) (hl : ∀ i H, i ≤ xs.length → Pv i H → SqL K H a xs)
    (hs : ∀ i x H, xs[i]? = some x → Pv i H → g x (wipe σ vs) H fun σ2 H2 => wipe σ2 vs = wipe σ vs ∧ tt σ2 H2 fun b H3 =>
      if b = true then tk σ2 H3 fun y H4 => tv σ2 H4 fun u H5 => ∃ kvs k q, y = .ref q ∧ H5 q = some (.tup (k.map kV)) ∧ H5 D = some (.dT kvs) ∧ kvs.length < sizeLine ∧ Pv (i + 1) (upd H5 D (.dT (putK kvs k u))) else Pv (i + 1) H3) (hd : ∀ H, Pv xs.length H → Q (.ref D) H) : DcTG (Itl K a) g tt tk tv vs σ D H1 Q := by
  refine ⟨fun i m H => m = xs.length - i ∧ i ≤ xs.length ∧ Pv i H, ⟨xs.length, by simp, Nat.zero_le _, h0⟩, ?_⟩
  rintro i m H ⟨rfl, hi, p⟩
  have q := hl i H hi p
  by_cases hlt : i < xs.length
  · refine .inr ⟨⟨xs, xs[i], q, by simp [hlt]⟩, Pv (i + 1), fun H' p' => ⟨xs.length - (i + 1), by omega, rfl, hlt, p'⟩, fun x H' y => ?_⟩
    obtain ⟨rfl, y⟩ := y
    exact hs i x _ (y xs q) p
  · have e : i = xs.length := by omega
    subst e
    exact .inl ⟨⟨xs, q, Nat.le_refl _⟩, hd H p⟩
theorem dcg_list {K : PySem.W.Frag} {a : Addr} {xs : List V} {g : TG} {tt : TT} {tk tv : TE} {vs : List Nat} {σ : L2.St} {H1 : Hp} {Q : VK} {D : Addr} (Pv : Nat → Hp → Prop) (h0 : Pv 0 (upd H1 D (.dK []))) (hl : ∀ i H, i ≤ xs.length → Pv i H → SqL K H a xs)
    (hs : ∀ i x H, xs[i]? = some x → Pv i H → g x (wipe σ vs) H fun σ2 H2 => wipe σ2 vs = wipe σ vs ∧ tt σ2 H2 fun b H3 =>
      if b = true then tk σ2 H3 fun y H4 => tv σ2 H4 fun u H5 => ∃ kvs k, y = kV k ∧ H5 D = some (.dK kvs) ∧ kvs.length < sizeLine ∧ Pv (i + 1) (upd H5 D (.dK (putK kvs k u))) else Pv (i + 1) H3) (hd : ∀ H, Pv xs.length H → Q (.ref D) H) : DcG (Itl K a) g tt tk tv vs σ D H1 Q := by
  refine ⟨fun i m H => m = xs.length - i ∧ i ≤ xs.length ∧ Pv i H, ⟨xs.length, by simp, Nat.zero_le _, h0⟩, ?_⟩
  rintro i m H ⟨rfl, hi, p⟩
  have q := hl i H hi p
  by_cases hlt : i < xs.length
  · refine .inr ⟨⟨xs, xs[i], q, by simp [hlt]⟩, Pv (i + 1), fun H' p' => ⟨xs.length - (i + 1), by omega, rfl, hlt, p'⟩, fun x H' y => ?_⟩
    obtain ⟨rfl, y⟩ := y
    exact hs i x _ (y xs q) p
  · have e : i = xs.length := by omega
    subst e
    exact .inl ⟨⟨xs, q, Nat.le_refl _⟩, hd H p⟩
end BC

set_option Elab.async false
set_option linter.all false
set_option maxRecDepth 100000
set_option maxHeartbeats 4000000
/-! dicts whose keys are tuples: d.update(e), dict(d) -/
namespace BC
open PySem PySem.Spec PyProof.Rows L2 Evl PySem.Calls
theorem kt_fst {H : Hp} : ∀ {kvs : List (List Key × V)} {xs : List (List Key × Addr × Value)}, KT H kvs xs → xs.map (·.1) = kvs.map (·.1)
  | _, _, .nil => rfl
  | _, _, .cons h t => by rw [List.map_cons, List.map_cons, kt_fst t, h.1]
theorem kt_app {H : Hp} : ∀ {kvs ls : List (List Key × V)} {xs ys : List (List Key × Addr × Value)}, KT H kvs xs → KT H ls ys → KT H (kvs ++ ls) (xs ++ ys)
  | _, _, _, _, .nil, r => r
  | _, _, _, _, .cons h t, r => .cons h (kt_app t r)
def rUpdT : V → V → Hp → VK → Prop := fun x y H Q => ∃ d o kvs more, x = .ref d ∧ y = .ref o ∧ H d = some (.dT kvs) ∧ H o = some (.dT more) ∧ d ≠ o ∧ kvs ≠ [] ∧ (∀ p ∈ more, p.1 ∉ kvs.map (·.1)) ∧ kvs.length + more.length ≤ sizeLine ∧ Q .non (upd H d (.dT (kvs ++ more)))
def tUpdT (td te : TE) : TE := fun σ H Q => td σ H fun x H1 => ∃ a, x = .ref a ∧ IsD H1 a ∧ te σ H1 fun y H2 => rUpdT (.ref a) y H2 Q
theorem x_updT {td te : TE} {σ : L2.St} {H : Hp} {Q : VK} : tUpdT td te σ H Q = td σ H (fun x H1 => ∃ a, x = .ref a ∧ IsD H1 a ∧ te σ H1 fun y H2 => rUpdT (.ref a) y H2 Q) := rfl
section
variable {X : Cx} {o e : Expr} {apos cpos : Pos} {td te : TE}
theorem pe_updT (hu : X.A.units + 1 < cLine) (ho : PE X o td) (he : PE X e te) (m : M1 X o "update" apos e cpos) : PE X (.Call (.Attribute o "update" apos) [e] [] cpos) (tUpdT td te) := by
  refine ⟨fun ps z σ H Q J h => ?_⟩
  refine wpAny_Call_method m.base m.few m.line PySem.F.plainAttrs_dict PySem.F.slot_dict_update PySem.F.type_dict_update (thn (ho.run ps z σ H _ J h) fun u z1 ⟨x, H1, J1, rx, a, ex, d, q1⟩ => ?_)
  cases ex
  cases (show u = Value.ref a from rx)
  obtain ⟨t1, t2, _⟩ := isD_at J1 d
  refine ⟨t1, t2, ?_⟩
  rw [m.trees]
  refine Calls.callWith_builtin rfl (Calls.evalArgs_plain (Calls.spliced_cons (thn (he.run ps z1 σ H1 _ J1 q1) fun iv z2 ⟨y, H2, J2, ry, q2⟩ => Calls.spliced_nil ?_)))
  obtain ⟨d1, o1, kvs, more, e1, e2, hd, ho1, ne, nn, dis, hz, q⟩ := q2
  cases e1
  cases e2
  cases (show iv = Value.ref o1 from ry)
  obtain ⟨n1, n2, xs, rel, dd⟩ := dt_of J2.hok hd
  obtain ⟨k1, k2, ys, rel2, dd2⟩ := dt_of J2.hok ho1
  have lx := Paired.length rel
  have ly := Paired.length rel2
  have nx : xs ≠ [] := fun z => nn (List.length_eq_zero_iff.mp (by rw [lx, z]; rfl))
  have nd : ((xs ++ ys).map (·.1)).Nodup := by
    rw [List.map_append, List.nodup_append]
    refine ⟨Heap.DictOfH.nodup dd, Heap.DictOfH.nodup dd2, fun p hp q hq e => ?_⟩
    rw [kt_fst rel] at hp
    rw [kt_fst rel2] at hq
    obtain ⟨w, hw, rfl⟩ := List.mem_map.mp hq
    exact dis w hw (e ▸ hp)
  refine call_update_dictH (knd := tupleKind (mixKind X.prog X.w)) (tupleKind_room_in1 hu) ne k2 dd dd2 (.inl nx) (by rw [← lx, ← ly]; exact hz) fun h' d' _ same => ?_
  rw [storedAllH_append_of_fresh _ _ nd] at d'
  obtain ⟨ob, es, ep, hob, a2, a3, a4, _, a5⟩ := d'
  refine ⟨.non, upd H2 a (.dT (kvs ++ more)), d_write J2 (t' := z2.toks) (by rw [hd]; exact True.intro) same ⟨ob, hob⟩ ⟨by rw [List.length_append]; exact hz, n2, xs ++ ys, (kt_app rel rel2).keeps fun c ws ec => ?_, ob, es, ep, hob, a2, a3, a4, a5⟩, rfl, q⟩
  rw [upd_ne (ne_of ec hd (fun z => nomatch z))]; exact ec
end
/-! ### dict(d) -/
/-- the hash of a tuple of numbers -/
def hkI (ns : List Int) : Int := reduceHash (Builtin.Tuple.tupleHashOf (ns.map hashInt))
theorem hk_mix (P : Program) (w : World) (ns : List Int) : (tupleKind (mixKind P w)).hash (ns.map Sum.inl) = hkI ns := by
  show reduceHash (Builtin.Tuple.tupleHashOf ((ns.map Sum.inl).map (keyH w))) = _
  rw [List.map_map]
  rfl
def rDictT : List V → Hp → VK → Prop := fun vs H Q => ∃ a kvs, ∃ ks : List (List Int), vs = [.ref a] ∧ H a = some (.dT kvs) ∧ kvs.map (·.1) = ks.map (fun ns => ns.map Sum.inl) ∧ (ks.map hkI).Nodup ∧ ∀ p, H p = none → Q (.ref p) (upd H p (.dT kvs))
theorem upd_two {H : Hp} {D : Addr} {x y : HO} : upd (upd H D x) D y = upd H D y := by
  funext b
  by_cases c : b = D
  · rw [c, upd_same, upd_same]
  · rw [upd_ne c, upd_ne c, upd_ne c]
theorem cr_dictT {X : Cx} (hu : X.A.units + 64 < cLine) : CallR X (.type "dict") rDictT := by
  intro ps z σ H vs us Q J r h
  obtain ⟨a, kvs, ks, rfl, ha, hk, nd, q⟩ := h
  obtain rfl := Vals.ref1 r
  refine callType_codes (Q₁ := fun obj z1 => obj = .ref z.heap.objs.size ∧ z1 = { z with heap := z.heap.push { cls := .type "dict", data := .dict #[] } }) PySem.F.kt_called_dict (PySem.F.kt_typeCall_dict_1 _) PySem.F.entry_dict_init (kt_code_dict_new _ ⟨rfl, rfl⟩) ?_
  rintro obj z1 ⟨rfl, rfl⟩
  have nD : H z.heap.objs.size = none := J.hok.fresh (Nat.le_refl _)
  have J1 : Inv X ps σ (upd H z.heap.objs.size (.dT [])) { z with heap := z.heap.push { cls := .type "dict", data := .dict #[] } } := J.laid (t' := z.toks) (fun b o q => Heap.get?_push_of_some _ q) (Nat.le_refl _) (dt_empty z.heap J.big)
  have ha1 : (upd H z.heap.objs.size (.dT [])) a = some (.dT kvs) := by rw [upd_ne (ne_of_none ha nD)]; exact ha
  have nda : z.heap.objs.size ≠ a := fun e => by rw [e, ha] at nD; cases nD
  obtain ⟨_, n2, xs, rel, dd⟩ := dt_of J1.hok (upd_same (H := H) (a := z.heap.objs.size) (o := .dT []))
  obtain ⟨k1, k2, ys, rel2, dd2⟩ := dt_of J1.hok ha1
  cases rel
  have ly := Paired.length rel2
  have hap : (ys.map fun x => (tupleKind (mixKind X.prog X.w)).hash x.1).Nodup := by
    have e : (ys.map fun x => (tupleKind (mixKind X.prog X.w)).hash x.1) = ks.map hkI := by
      have : (ys.map (·.1)).map (tupleKind (mixKind X.prog X.w)).hash = (ks.map fun ns => ns.map Sum.inl).map (tupleKind (mixKind X.prog X.w)).hash := by rw [kt_fst rel2, hk]
      rw [List.map_map, List.map_map] at this
      refine this.trans (List.map_congr_left fun ns _ => hk_mix _ _ ns)
    rw [e]; exact nd
  have hty : ∀ x ∈ ys, ({ z with heap := z.heap.push { cls := .type "dict", data := .dict #[] } } : Shared).TypeIs (.ref x.2.1) "tuple" := fun x hx => by
    obtain ⟨i, hi⟩ := List.getElem?_of_mem hx
    obtain ⟨p, hp⟩ : ∃ p, kvs[i]? = some p := ⟨_, List.getElem?_eq_getElem (by rw [ly]; exact (List.getElem?_eq_some_iff.mp hi).1)⟩
    obtain ⟨b, hb, e1, e2, e3⟩ := paired_get rel2 (show kvs[i]? = some (p.1, p.2) from hp)
    rw [hi] at hb
    cases hb
    obtain ⟨o, its, n, g1, g2, g3⟩ := key_of J1.hok e2
    exact ⟨o, g1, g2⟩
  refine ⟨dd.typeIs, PySem.F.args_dict_init_2 _ _, ?_⟩
  unfold Builtin.«dict.__init__»
  refine wpAny_bind ?_
  unfold Builtin.Dict.selfAndRest
  refine wpAny_bind (wpAny_notOrdered_dict dd.typeIs ?_)
  show wpAny _ _ (pure (z.heap.objs.size, [Value.ref a])) _ _ _
  refine wpAny_pure ?_
  show wpAny _ _ (Builtin.Dict.updateFrom "dict.__init__" z.heap.objs.size (.ref a) [] .none) _ _ _
  refine updateFrom_dictH (knd := tupleKind (mixKind X.prog X.w)) (A := X.A.in1) .none (show X.A.units + 1 + 1 < cLine by omega) nda k2 dd dd2 (.inr ⟨hty, hap⟩) (by rw [List.length_nil, Nat.zero_add, ← ly]; exact k1) fun h' d' _ same => ?_
  rw [storedAllH_nil_of_nodup _ (Heap.DictOfH.nodup dd2)] at d'
  obtain ⟨ob, es, ep, hob, a2, a3, a4, _, a5⟩ := d'
  have hD := upd_same (H := H) (a := z.heap.objs.size) (o := .dT [])
  have J2 := d_write J1 (t' := z.toks) (ob := .dT kvs) (by rw [hD]; exact True.intro) same ⟨ob, hob⟩ ⟨k1, n2, ys, rel2.keeps fun c ws ec => by rw [upd_ne (ne_of ec hD (fun z => nomatch z))]; exact ec, ob, es, ep, hob, a2, a3, a4, a5⟩
  rw [upd_two] at J2
  exact ⟨rfl, .ref z.heap.objs.size, _, J2, rfl, q _ nD⟩
theorem k_dictT {X : Cx} (hu : X.A.units + 64 < cLine) : CallR X (.type "dict") rDictT := cr_dictT hu
end BC

set_option Elab.async false
set_option linter.all false
set_option maxRecDepth 100000
set_option maxHeartbeats 4000000
/-! lists of lists of numbers that are made row by row -/
namespace BC
open PySem PySem.Spec PyProof.Rows L2 Evl
def RwL (H : Hp) (s : Addr) (F : List (List Int)) : Prop := ∃ ps : List Addr, H s = some (.lst (ps.map V.ref)) ∧ ps.length = F.length ∧ ∀ i p, ps[i]? = some p → H p = some (.lst ((F.getD i []).map V.int))
/-- .. all new since H0 -/
def RwN (H0 H : Hp) (s : Addr) (F : List (List Int)) : Prop := H0 s = none ∧ ∃ ps : List Addr, H s = some (.lst (ps.map V.ref)) ∧ ps.length = F.length ∧ s ∉ ps ∧ ∀ i p, ps[i]? = some p → H0 p = none ∧ H p = some (.lst ((F.getD i []).map V.int))
section
variable {H0 H H' H1 : Hp} {s p : Addr} {F X : List (List Int)}
theorem RwN.at (h : RwN H0 H s F) : RwL H s F := by
  obtain ⟨_, ps, a, b, _, c⟩ := h
  exact ⟨ps, a, b, fun i p q => (c i p q).2⟩
theorem RwL.ex (h : RwL H s F) (e : Ex H H') : RwL H' s F := by
  obtain ⟨ps, a, b, c⟩ := h
  exact ⟨ps, e _ _ a, b, fun i p q => e _ _ (c i p q)⟩
theorem RwN.ex (h : RwN H0 H s F) (e : Ex H H') : RwN H0 H' s F := by
  obtain ⟨n, ps, a, b, d, c⟩ := h
  exact ⟨n, ps, e _ _ a, b, d, fun i p q => ⟨(c i p q).1, e _ _ (c i p q).2⟩⟩
theorem RwN.back (h : RwN H0 H s F) (e : Ex H1 H0) : RwN H1 H s F := by
  obtain ⟨n, ps, a, b, d, c⟩ := h
  exact ⟨fresh_back e n, ps, a, b, d, fun i p q => ⟨fresh_back e (c i p q).1, (c i p q).2⟩⟩
theorem RwN.nil (h : H0 s = none) (e : H s = some (.lst [])) : RwN H0 H s [] := ⟨h, [], e, rfl, List.not_mem_nil, fun i p e => by simp at e⟩
theorem RwL.get (h : RwL H s F) {i : Nat} (hi : i < F.length) : ∃ p xs, H s = some (.lst xs) ∧ xs.length = F.length ∧ xs[i]? = some (.ref p) ∧ H p = some (.lst ((F.getD i []).map V.int)) := by
  obtain ⟨ps, h1, h2, h3⟩ := h
  have hx : ps[i]? = some ps[i] := List.getElem?_eq_getElem (by omega)
  exact ⟨ps[i], _, h1, by rw [List.length_map]; exact h2, by rw [List.getElem?_map, hx]; rfl, h3 i _ hx⟩
theorem RwL.lst (h : RwL H s F) : ∃ xs, H s = some (.lst xs) ∧ xs.length = F.length ∧ ∀ (i : Nat) (v : V), xs[i]? = some v → i < F.length ∧ ∃ p, v = .ref p ∧ H p = some (.lst ((F.getD i []).map V.int)) := by
  obtain ⟨ps, h1, h2, h3⟩ := h
  refine ⟨_, h1, by rw [List.length_map]; exact h2, fun i v e => ?_⟩
  rw [List.getElem?_map] at e
  cases q : ps[i]? with
  | none => rw [q] at e; cases e
  | some p =>
    rw [q] at e
    cases e
    exact ⟨by have := (List.getElem?_eq_some_iff.mp q).1; omega, p, rfl, h3 i p q⟩
theorem RwN.push {r : List Int} (h : RwN H0 H1 s F) (nH : H0 p = none) (np : H1 p = none) (e : Ex H1 H') (hp : H' p = some (.lst (r.map V.int))) :
    ∃ xs, H' s = some (.lst xs) ∧ xs.length = F.length ∧ RwN H0 (upd H' s (.lst (xs ++ [.ref p]))) s (F ++ [r]) := by
  obtain ⟨h0, ps, h1, h2, h5, h3⟩ := h
  have hs : p ≠ s := Ne.symm (ne_of_none h1 np)
  refine ⟨_, e _ _ h1, by rw [List.length_map]; exact h2, h0, ps ++ [p], by rw [upd_same, List.map_append]; rfl, by rw [List.length_append, List.length_append, h2]; rfl, ?_, fun i q eq => ?_⟩
  · intro m
    rcases List.mem_append.mp m with m | m
    · exact h5 m
    · exact hs (List.mem_singleton.mp m).symm
  · by_cases hi : i < ps.length
    · rw [List.getElem?_append_left hi] at eq
      have := h3 i q eq
      have ns : q ≠ s := fun z => h5 (z ▸ List.mem_of_getElem? eq)
      refine ⟨this.1, ?_⟩
      rw [upd_ne ns, e _ _ this.2]
      rw [List.getD_eq_getElem?_getD, List.getD_eq_getElem?_getD, List.getElem?_append_left (by omega)]
    · rw [List.getElem?_append_right (by omega)] at eq
      have hi2 : i - ps.length = 0 := by
        have := (List.getElem?_eq_some_iff.mp eq).1
        rw [List.length_singleton] at this
        omega
      rw [hi2] at eq
      obtain rfl : p = q := by simpa using eq
      refine ⟨nH, ?_⟩
      rw [upd_ne hs, hp]
      have : i = F.length := by omega
      rw [this, List.getD_eq_getElem?_getD, List.getElem?_append_right (Nat.le_refl _), Nat.sub_self]
      rfl
/-- .. by the rows of another list, made while s stood -/
theorem RwN.app {Hb : Hp} {d : Addr} (h : RwN H0 H s F) (g : RwN Hb H d X) (hb : Hb s ≠ none) (e : Ex H0 Hb) :
    ∃ xs zs, H s = some (.lst xs) ∧ H d = some (.lst zs) ∧ xs.length = F.length ∧ zs.length = X.length ∧ d ≠ s ∧ RwN H0 (upd H s (.lst (xs ++ zs))) s (F ++ X) := by
  obtain ⟨h0, ps, h1, h2, h5, h3⟩ := h
  obtain ⟨g0, qs, g1, g2, g5, g3⟩ := g
  have hs : ∀ {q : Addr}, Hb q = none → q ≠ s := fun n z => hb (z ▸ n)
  refine ⟨_, _, h1, g1, by rw [List.length_map]; exact h2, by rw [List.length_map]; exact g2, hs g0, h0, ps ++ qs, by rw [upd_same, List.map_append], by rw [List.length_append, List.length_append, h2, g2], ?_, fun i q eq => ?_⟩
  · intro m
    rcases List.mem_append.mp m with m | m
    · exact h5 m
    · obtain ⟨j, hj⟩ := List.getElem?_of_mem m
      exact hs (g3 j s hj).1 rfl
  · by_cases hi : i < ps.length
    · rw [List.getElem?_append_left hi] at eq
      have := h3 i q eq
      have ns : q ≠ s := fun z => h5 (z ▸ List.mem_of_getElem? eq)
      refine ⟨this.1, ?_⟩
      rw [upd_ne ns, this.2]
      rw [List.getD_eq_getElem?_getD, List.getD_eq_getElem?_getD, List.getElem?_append_left (by omega)]
    · rw [List.getElem?_append_right (by omega)] at eq
      obtain ⟨k1, k2⟩ := g3 _ q eq
      refine ⟨fresh_back e k1, ?_⟩
      rw [upd_ne (hs k1), k2]
      rw [List.getD_eq_getElem?_getD, List.getD_eq_getElem?_getD, List.getElem?_append_right (by omega), h2]
theorem RwL.dp {K : PySem.W.Frag} (h : RwL H s F) : Dp K H (.ref s) (dLL F) := by
  obtain ⟨ps, h1, h2, h3⟩ := h
  refine .lst (.inl (.inl h1)) (dp_ll h2 fun i p l a b => ?_)
  have := h3 i p a
  rw [List.getD_eq_getElem?_getD, b] at this
  exact .inl (.inl this)
theorem eqRows {K : PySem.W.Frag} {Q : VK} {a b : Addr} {F G : List (List Int)} (h : RwL H a F) (g : RwL H b G) (q : Q (.bl (decide (F = G))) H) : rEqD K (.ref a) (.ref b) H Q :=
  ⟨_, _, h.dp, g.dp, shp_LL _, shp_LL _, by rw [eqv_LL]; exact q⟩
theorem neRows {K : PySem.W.Frag} {Q : VK} {a b : Addr} {F G : List (List Int)} (h : RwL H a F) (g : RwL H b G) (q : Q (.bl (!decide (F = G))) H) : rNeD K (.ref a) (.ref b) H Q :=
  ⟨_, _, h.dp, g.dp, shp_LL _, shp_LL _, by rw [eqv_LL]; exact q⟩
/-- some lists of numbers in one list -/
theorem rows_cat {c : Addr} {ps qs : List Addr} (h1 : ps.length = F.length) (h2 : ∀ i p, ps[i]? = some p → H p = some (.lst ((F.getD i []).map V.int))) (g1 : qs.length = X.length) (g2 : ∀ i p, qs[i]? = some p → H p = some (.lst ((X.getD i []).map V.int))) (hc : H c = some (.lst ((ps ++ qs).map V.ref))) : RwL H c (F ++ X) := by
  refine ⟨ps ++ qs, hc, by rw [List.length_append, List.length_append, h1, g1], fun i q eq => ?_⟩
  by_cases hi : i < ps.length
  · rw [List.getElem?_append_left hi] at eq
    rw [h2 i q eq, List.getD_eq_getElem?_getD, List.getD_eq_getElem?_getD, List.getElem?_append_left (by omega)]
  · rw [List.getElem?_append_right (by omega)] at eq
    rw [g2 _ q eq, List.getD_eq_getElem?_getD, List.getD_eq_getElem?_getD, List.getElem?_append_right (by omega), h1]
end
end BC

set_option Elab.async false
set_option linter.all false
set_option maxRecDepth 100000
set_option maxHeartbeats 4000000
/-! effects of visits: for each page its exit -/
namespace EF
open PySem PySem.Spec PyProof.Rows L2 BC TR
/-- the exit of a page: what comes behind its last visit -/
def nx : List Int → Int → Option Int
  | [], _ => none
  | a :: r, p => match nx r p with
    | some y => some y
    | none => if a = p then some (r.headD a) else none
theorem nx_some {a p y : Int} {r : List Int} (h : nx r p = some y) : nx (a :: r) p = some y := by
  show (match nx r p with | some y => some y | none => _) = _
  rw [h]
theorem nx_none {a p : Int} {r : List Int} (h : nx r p = none) : nx (a :: r) p = if a = p then some (r.headD a) else none := by
  show (match nx r p with | some y => some y | none => _) = _
  rw [h]
theorem nx_mem : ∀ {row : List Int} {p : Int}, p ∈ row → ∃ y, nx row p = some y
  | a :: r, p, h => by
    cases e : nx r p with
    | some y => exact ⟨y, nx_some e⟩
    | none =>
      rcases List.mem_cons.mp h with rfl | h
      · exact ⟨_, by rw [nx_none e, if_pos rfl]⟩
      · obtain ⟨y, hy⟩ := nx_mem h
        rw [e] at hy
        cases hy
theorem headD_mem {a : Int} : ∀ {r : List Int}, r.headD a ∈ a :: r
  | [] => List.mem_cons_self
  | b :: r => List.mem_cons_of_mem _ List.mem_cons_self
theorem mem_nx : ∀ {row : List Int} {p y : Int}, nx row p = some y → p ∈ row ∧ y ∈ row
  | a :: r, p, y, h => by
    cases e : nx r p with
    | some z =>
      rw [nx_some e] at h
      cases h
      obtain ⟨h1, h2⟩ := mem_nx e
      exact ⟨List.mem_cons_of_mem _ h1, List.mem_cons_of_mem _ h2⟩
    | none =>
      rw [nx_none e] at h
      split at h
      · next q =>
        cases h
        subst q
        exact ⟨List.mem_cons_self, headD_mem⟩
      · cases h
/-- the pages by their last visits -/
def dd : List Int → List Int
  | [] => []
  | a :: r => if a ∈ r then dd r else a :: dd r
theorem dd_mem : ∀ {row : List Int} {p : Int}, p ∈ dd row ↔ p ∈ row
  | [], p => Iff.rfl
  | a :: r, p => by
    unfold dd
    split
    · next h =>
      rw [dd_mem (row := r), List.mem_cons]
      exact ⟨fun m => .inr m, fun m => m.elim (fun e => by rw [e]; exact h) id⟩
    · rw [List.mem_cons, List.mem_cons, dd_mem (row := r)]
theorem dd_nodup : ∀ row : List Int, (dd row).Nodup
  | [] => List.nodup_nil
  | a :: r => by
    unfold dd
    split
    · exact dd_nodup r
    · next h => exact List.nodup_cons.mpr ⟨fun m => h (dd_mem.mp m), dd_nodup r⟩
def ix (row : List Int) (p : Int) : Nat := (dd row).idxOf p
theorem ix_lt {row : List Int} {p : Int} (h : p ∈ row) : ix row p < (dd row).length := List.idxOf_lt_length_of_mem (dd_mem.mpr h)
/-- the last page -/
def lst (row : List Int) : Int := row.getLast?.getD 0
theorem lst_cons {a b : Int} {r : List Int} : lst (a :: b :: r) = lst (b :: r) := by unfold lst; rw [List.getLast?_cons_cons]
theorem nx_ix : ∀ {row : List Int} {p y : Int}, nx row p = some y → (y = p ∧ p = lst row) ∨ (p ≠ y ∧ p ≠ lst row ∧ ix row p < ix row y)
  | a :: r, p, y, h => by
    cases e : nx r p with
    | some z =>
      rw [nx_some e] at h
      cases h
      obtain ⟨hp, hy⟩ := mem_nx e
      obtain ⟨b, r', rfl⟩ : ∃ b r', r = b :: r' := by
        cases r with
        | nil => cases hp
        | cons b r' => exact ⟨b, r', rfl⟩
      rw [lst_cons]
      rcases nx_ix e with ⟨h1, h2⟩ | ⟨h1, h2, h3⟩
      · exact .inl ⟨h1, h2⟩
      · refine .inr ⟨h1, h2, ?_⟩
        unfold ix dd
        split
        · exact h3
        · next na =>
          have pa : ¬ a = p := fun e => na (by rw [e]; exact hp)
          have ya : ¬ a = y := fun e => na (by rw [e]; exact hy)
          rw [List.idxOf_cons, List.idxOf_cons, beq_eq_false_iff_ne.mpr pa, beq_eq_false_iff_ne.mpr ya]
          show (dd (b :: r')).idxOf p + 1 < (dd (b :: r')).idxOf y + 1
          unfold ix at h3
          omega
    | none =>
      rw [nx_none e] at h
      split at h
      · next q =>
        subst q
        cases h
        have na : a ∉ r := fun m => by
          obtain ⟨z, hz⟩ := nx_mem m
          rw [e] at hz
          cases hz
        cases r with
        | nil => exact .inl ⟨rfl, rfl⟩
        | cons b r' =>
          have ab : a ≠ b := fun z => na (by rw [z]; exact List.mem_cons_self)
          refine .inr ⟨ab, ?_, ?_⟩
          · rw [lst_cons]
            intro z
            refine na ?_
            rw [z]
            unfold lst
            rw [List.getLast?_eq_some_getLast (by simp)]
            exact List.getLast_mem _
          · unfold ix dd
            rw [if_neg na, List.idxOf_cons_self, List.idxOf_cons, beq_eq_false_iff_ne.mpr (show ¬ a = (b :: r').headD a from ab)]
            exact Nat.succ_pos _
      · cases h
theorem lst_mem : ∀ {row : List Int}, row ≠ [] → lst row ∈ row := fun {row} h => by
  unfold lst
  rw [List.getLast?_eq_some_getLast h]
  exact List.getLast_mem h
theorem nx_lst {row : List Int} (h : row ≠ []) : nx row (lst row) = some (lst row) := by
  obtain ⟨y, hy⟩ := nx_mem (lst_mem h)
  rcases nx_ix hy with ⟨h1, _⟩ | ⟨_, h2, _⟩
  · rw [hy, h1]
  · exact absurd rfl h2
/-- do so many steps lead to the root? -/
def lead (f : Int → Int) (root : Int) : Nat → Int → Bool
  | 0, _ => false
  | n + 1, p => if p = root then true else lead f root n (f p)
def nxt (row : List Int) (p : Int) : Int := (nx row p).getD 0
theorem nxt_at {row : List Int} {p y : Int} (h : nx row p = some y) : nxt row p = y := by unfold nxt; rw [h]; rfl
theorem lead_ok {row : List Int} : ∀ (n : Nat) {p : Int}, p ∈ row → (dd row).length ≤ n + ix row p → lead (nxt row) (lst row) n p = true
  | 0, p, hp, h => by have := ix_lt hp; omega
  | n + 1, p, hp, h => by
    show (if p = lst row then true else _) = true
    split
    · rfl
    · next ne =>
      obtain ⟨y, hy⟩ := nx_mem hp
      rw [nxt_at hy]
      rcases nx_ix hy with ⟨_, h2⟩ | ⟨_, _, h3⟩
      · exact absurd h2 ne
      · exact lead_ok n (mem_nx hy).2 (by omega)
/-! ### as a list of pairs in order -/
def exs (row : List Int) : List (Int × Int) := ((List.range 40).map fun i : Nat => (i : Int)).filterMap fun p => (nx row p).map fun y => (p, y)
theorem mem_exs {row : List Int} (hp : Pg 40 row) {x y : Int} : (x, y) ∈ exs row ↔ nx row x = some y := by
  unfold exs
  rw [List.mem_filterMap]
  constructor
  · rintro ⟨p, _, h⟩
    cases e : nx row p with
    | none => rw [e] at h; cases h
    | some z => rw [e] at h; cases h; exact e
  · intro h
    have hx := hp x (mem_nx h).1
    refine ⟨x, List.mem_map.mpr ⟨x.toNat, List.mem_range.mpr (by omega), by omega⟩, ?_⟩
    rw [h]
    rfl
def ltF (a b : Int × Int) : Prop := a.1 < b.1
theorem exs_srt (row : List Int) : (exs row).Pairwise ltF := by
  unfold exs
  rw [List.pairwise_filterMap]
  have : ((List.range 40).map fun i : Nat => (i : Int)).Pairwise (· < ·) := by
    rw [List.pairwise_map]
    exact List.pairwise_lt_range.imp fun h => by omega
  refine this.imp fun {a b} h x hx y hy => ?_
  have ex : x.1 = a := by
    cases e : nx row a with
    | none => rw [e] at hx; cases hx
    | some z => rw [e] at hx; cases hx; rfl
  have ey : y.1 = b := by
    cases e : nx row b with
    | none => rw [e] at hy; cases hy
    | some z => rw [e] at hy; cases hy; rfl
  show x.1 < y.1
  rw [ex, ey]
  exact h
theorem srt_nodup {l : List (Int × Int)} (h : l.Pairwise ltF) : (l.map (·.1)).Nodup := by
  rw [List.nodup_iff_pairwise_ne, List.pairwise_map]
  exact h.imp fun {a b} h e => by
    have : a.1 < b.1 := h
    omega
/-- two lists in order with the same members -/
theorem srt_uniq : ∀ {l m : List (Int × Int)}, l.Pairwise ltF → m.Pairwise ltF → (∀ q, q ∈ l ↔ q ∈ m) → l = m
  | [], [], _, _, _ => rfl
  | [], b :: m, _, _, h => (List.not_mem_nil ((h b).mpr List.mem_cons_self)).elim
  | a :: l, [], _, _, h => (List.not_mem_nil ((h a).mp List.mem_cons_self)).elim
  | a :: l, b :: m, hl, hm, h => by
    rw [List.pairwise_cons] at hl hm
    have e : a = b := by
      have h1 := (h a).mp List.mem_cons_self
      have h2 := (h b).mpr List.mem_cons_self
      rcases List.mem_cons.mp h1 with h1 | h1
      · exact h1
      · rcases List.mem_cons.mp h2 with h2 | h2
        · exact h2.symm
        · have a1 : b.1 < a.1 := hm.1 a h1
          have a2 : a.1 < b.1 := hl.1 b h2
          omega
    subst e
    have ne : ∀ {k : List (Int × Int)}, (∀ q ∈ k, ltF a q) → a ∉ k := fun hk m => by
      have : a.1 < a.1 := hk a m
      omega
    rw [srt_uniq hl.2 hm.2 fun q => ?_]
    have hq := h q
    rw [List.mem_cons, List.mem_cons] at hq
    by_cases c : q = a
    · subst c
      exact ⟨fun m => absurd m (ne hl.1), fun m => absurd m (ne hm.1)⟩
    · exact ⟨fun m => (hq.mp (.inr m)).resolve_left c, fun m => (hq.mpr (.inr m)).resolve_left c⟩
/-- numbers in order with the same members -/
theorem ints_uniq : ∀ {l m : List Int}, l.Pairwise (· < ·) → m.Pairwise (· < ·) → (∀ q, q ∈ l ↔ q ∈ m) → l = m
  | [], [], _, _, _ => rfl
  | [], b :: m, _, _, h => (List.not_mem_nil ((h b).mpr List.mem_cons_self)).elim
  | a :: l, [], _, _, h => (List.not_mem_nil ((h a).mp List.mem_cons_self)).elim
  | a :: l, b :: m, hl, hm, h => by
    rw [List.pairwise_cons] at hl hm
    have e : a = b := by
      have h1 := (h a).mp List.mem_cons_self
      have h2 := (h b).mpr List.mem_cons_self
      rcases List.mem_cons.mp h1 with h1 | h1
      · exact h1
      · rcases List.mem_cons.mp h2 with h2 | h2
        · exact h2.symm
        · have a1 := hm.1 a h1
          have a2 := hl.1 b h2
          omega
    subst e
    have ne : ∀ {k : List Int}, (∀ q ∈ k, a < q) → a ∉ k := fun hk m => by
      have := hk a m
      omega
    rw [ints_uniq hl.2 hm.2 fun q => ?_]
    have hq := h q
    rw [List.mem_cons, List.mem_cons] at hq
    by_cases c : q = a
    · subst c
      exact ⟨fun m => absurd m (ne hl.1), fun m => absurd m (ne hm.1)⟩
    · exact ⟨fun m => (hq.mp (.inr m)).resolve_left c, fun m => (hq.mpr (.inr m)).resolve_left c⟩
/-! ### a dict of numbers by numbers -/
def getI (qs : List (Int × Int)) (x : Int) : Option Int := (qs.find? fun q => decide (q.1 = x)).map (·.2)
def putI (qs : List (Int × Int)) (x y : Int) : List (Int × Int) := if (qs.any fun q => decide (q.1 = x)) = true then qs.map (fun q => if q.1 = x then (q.1, y) else q) else qs ++ [(x, y)]
theorem getI_val (x : Int) : ∀ qs : List (Int × Int), valV (qs.map itK) (Sum.inl x) = (getI qs x).map V.int
  | [] => rfl
  | q :: qs => by
    have ih := getI_val x qs
    rw [List.map_cons]
    by_cases e : q.1 = x
    · rw [valV_pos (by show (Sum.inl q.1 : Key) = Sum.inl x; rw [e])]
      simp [getI, e, itK]
    · rw [valV_neg (by show ¬ (Sum.inl q.1 : Key) = Sum.inl x; exact fun z => e (Sum.inl.inj z)), ih]
      simp [getI, e]
theorem any_itK (x : Int) (qs : List (Int × Int)) : ((qs.map itK).any fun kv => decide (kv.1 = Sum.inl x)) = qs.any fun q => decide (q.1 = x) := by
  rw [List.any_map]
  congr 1
  funext q
  exact decide_eq_decide.mpr ⟨fun e => Sum.inl.inj e, fun e => congrArg Sum.inl e⟩
theorem putI_put (qs : List (Int × Int)) (x y : Int) : putK (qs.map itK) (Sum.inl x) (.int y) = (putI qs x y).map itK := by
  unfold putK putI
  rw [any_itK]
  by_cases c : (qs.any fun q => decide (q.1 = x)) = true
  · rw [if_pos c, if_pos c, List.map_map, List.map_map]
    refine List.map_congr_left fun q _ => ?_
    show (if (Sum.inl q.1 : Key) = Sum.inl x then ((Sum.inl q.1 : Key), V.int y) else (Sum.inl q.1, V.int q.2)) = itK (if q.1 = x then (q.1, y) else q)
    by_cases e : q.1 = x
    · rw [if_pos (by rw [e]), if_pos e]; rfl
    · rw [if_neg (fun z => e (Sum.inl.inj z)), if_neg e]; rfl
  · rw [if_neg c, if_neg c, List.map_append]
    rfl
theorem getI_any (x : Int) : ∀ qs : List (Int × Int), (qs.any fun q => decide (q.1 = x)) = (getI qs x).isSome
  | [] => rfl
  | q :: qs => by
    rw [List.any_cons, getI_any x qs]
    by_cases e : q.1 = x
    · simp [getI, e]
    · simp [getI, e]
theorem getI_map (x y z : Int) : ∀ qs : List (Int × Int), getI (qs.map fun q => if q.1 = x then (q.1, y) else q) z = if z = x then (getI qs z).map fun _ => y else getI qs z
  | [] => by simp [getI]
  | q :: qs => by
    have ih := getI_map x y z qs
    by_cases e : q.1 = z
    · by_cases c : z = x
      · subst c; simp [getI, e]
      · rw [if_neg c]
        have : ¬ q.1 = x := fun w => c (by rw [← e, w])
        simp [getI, e, this, c]
    · have hk : (if q.1 = x then (q.1, y) else q).1 = q.1 := by split <;> rfl
      have g1 : getI ((q :: qs).map fun q => if q.1 = x then (q.1, y) else q) z = getI (qs.map fun q => if q.1 = x then (q.1, y) else q) z := by
        unfold getI
        rw [List.map_cons, List.find?_cons, hk, decide_eq_false e]
      have g2 : getI (q :: qs) z = getI qs z := by
        unfold getI
        rw [List.find?_cons, decide_eq_false e]
      rw [g1, g2, ih]
theorem getI_append (x y z : Int) (qs : List (Int × Int)) (h : getI qs x = none) : getI (qs ++ [(x, y)]) z = if z = x then some y else getI qs z := by
  unfold getI at h ⊢
  rw [List.find?_append]
  cases c : qs.find? fun q => decide (q.1 = z) with
  | some q =>
    by_cases e : z = x
    · subst e; rw [c] at h; cases h
    · rw [if_neg e]; rfl
  | none =>
    by_cases e : z = x
    · subst e; simp
    · have : ¬ x = z := fun w => e w.symm
      simp [this, e]
theorem getI_put (qs : List (Int × Int)) (x y z : Int) : getI (putI qs x y) z = if z = x then some y else getI qs z := by
  unfold putI
  by_cases c : (qs.any fun q => decide (q.1 = x)) = true
  · rw [if_pos c, getI_map]
    rw [getI_any] at c
    by_cases e : z = x
    · subst e
      rw [if_pos rfl, if_pos rfl]
      cases h : getI qs z with
      | none => rw [h] at c; cases c
      | some v => rfl
    · rw [if_neg e, if_neg e]
  · rw [if_neg c]
    rw [getI_any] at c
    exact getI_append x y z qs (by cases h : getI qs x with | none => rfl | some v => rw [h] at c; exact absurd rfl c)
theorem putI_nodup {qs : List (Int × Int)} {x y : Int} (h : (qs.map (·.1)).Nodup) : ((putI qs x y).map (·.1)).Nodup := by
  unfold putI
  split
  · rw [List.map_map]
    have e : ((fun p : Int × Int => p.1) ∘ fun q : Int × Int => if q.1 = x then (q.1, y) else q) = fun p => p.1 := funext fun p => by
      show (if p.1 = x then (p.1, y) else p).1 = p.1
      split <;> rfl
    rw [e]
    exact h
  · next c =>
    rw [List.map_append, List.nodup_append]
    refine ⟨h, by simp, fun a ha b hb e => ?_⟩
    obtain ⟨p, hp, rfl⟩ := List.mem_map.mp ha
    have hb' : b = x := by simpa using hb
    refine c (List.any_eq_true.mpr ⟨p, hp, decide_eq_true ?_⟩)
    rw [e, hb']
theorem putI_len (qs : List (Int × Int)) (x y : Int) : (putI qs x y).length ≤ qs.length + 1 := by
  unfold putI
  split
  · rw [List.length_map]; omega
  · rw [List.length_append, List.length_singleton]; omega
theorem getI_mem {qs : List (Int × Int)} (nd : (qs.map (·.1)).Nodup) {x y : Int} : (x, y) ∈ qs ↔ getI qs x = some y := by
  induction qs with
  | nil => exact ⟨fun h => (List.not_mem_nil h).elim, fun h => by cases h⟩
  | cons q qs ih =>
    rw [List.map_cons, List.nodup_cons] at nd
    by_cases e : q.1 = x
    · have g : getI (q :: qs) x = some q.2 := by simp [getI, e]
      rw [g]
      constructor
      · intro h
        rcases List.mem_cons.mp h with h | h
        · rw [← h]
        · exact absurd (List.mem_map.mpr ⟨(x, y), h, e.symm⟩) nd.1
      · intro h
        have : q = (x, y) := by
          have := Option.some.inj h
          rw [← e, ← this]
        rw [this]
        exact List.mem_cons_self
    · have g : getI (q :: qs) x = getI qs x := by simp [getI, e]
      rw [g, ← ih nd.2, List.mem_cons]
      exact ⟨fun h => h.resolve_left fun z => e (by rw [← z]), .inr⟩
theorem srt_of {rs qs : List (Int × Int)} (p : rs.Perm qs) (s : rs.Pairwise leP) (nd : (qs.map (·.1)).Nodup) : rs.Pairwise ltF := by
  have nr : (rs.map (·.1)).Nodup := (p.map (·.1)).nodup_iff.mpr nd
  rw [List.nodup_iff_pairwise_ne, List.pairwise_map] at nr
  refine (s.and nr).imp fun {a b} h => ?_
  have h1 : a.1 < b.1 ∨ (a.1 = b.1 ∧ a.2 ≤ b.2) := h.1
  have h2 : a.1 ≠ b.1 := h.2
  show a.1 < b.1
  omega
/-- what a dict of all exits gives when it is sorted -/
theorem srt_exs {row : List Int} (hp : Pg 40 row) {rs qs : List (Int × Int)} (p : rs.Perm qs) (s : rs.Pairwise leP) (nd : (qs.map (·.1)).Nodup) (g : ∀ x, getI qs x = nx row x) : rs = exs row :=
  srt_uniq (srt_of p s nd) (exs_srt row) fun q => by
    obtain ⟨x, y⟩ := q
    rw [mem_exs hp, ← g x, ← getI_mem nd, p.mem_iff]
/-! ### the dict as it is filled from the front -/
def foldP (qs : List (Int × Int)) : List Int → List (Int × Int)
  | [] => qs
  | a :: r => foldP (putI qs a (r.headD a)) r
theorem foldP_get (x : Int) : ∀ (row : List Int) (qs : List (Int × Int)), getI (foldP qs row) x = match nx row x with | some y => some y | none => getI qs x
  | [], qs => rfl
  | a :: r, qs => by
    show getI (foldP (putI qs a (r.headD a)) r) x = _
    rw [foldP_get x r]
    cases e : nx r x with
    | some y => rw [nx_some e]
    | none =>
      rw [nx_none e]
      show getI (putI qs a (r.headD a)) x = _
      rw [getI_put]
      by_cases c : x = a
      · rw [if_pos c, if_pos c.symm]
      · rw [if_neg c, if_neg (fun z => c z.symm)]
theorem foldP_nodup : ∀ (row : List Int) (qs : List (Int × Int)), (qs.map (·.1)).Nodup → ((foldP qs row).map (·.1)).Nodup
  | [], _, h => h
  | a :: r, qs, h => foldP_nodup r _ (putI_nodup h)
theorem foldP_all (row : List Int) (x : Int) : getI (foldP [] row) x = nx row x := by
  rw [foldP_get]
  cases nx row x <;> rfl
/-! ### first page, root, leaves -/
def rootsOf (qs : List (Int × Int)) : List Int := (qs.filter fun q => decide (q.1 = q.2)).map (·.1)
def usedOf (qs : List (Int × Int)) : List Int := (qs.filter fun q => !decide (q.1 = q.2)).map (·.2)
def leavesOf (qs : List (Int × Int)) : List Int := (qs.filter fun q => !decide (q.1 ∈ usedOf qs)).map (·.1)
theorem filter_one {α : Type} {P : α → Bool} {a : α} : ∀ {l : List α}, l.Nodup → a ∈ l → (∀ b ∈ l, P b = true ↔ b = a) → l.filter P = [a]
  | [], _, h, _ => (List.not_mem_nil h).elim
  | b :: l, nd, h, hP => by
    rw [List.nodup_cons] at nd
    rcases List.mem_cons.mp h with e | h
    · subst e
      rw [List.filter_cons_of_pos ((hP a List.mem_cons_self).mpr rfl)]
      congr 1
      rw [List.filter_eq_nil_iff]
      intro c hc pc
      have := (hP c (List.mem_cons_of_mem _ hc)).mp pc
      exact nd.1 (this ▸ hc)
    · have nb : ¬ P b = true := fun pb => by
        have := (hP b List.mem_cons_self).mp pb
        exact nd.1 (this ▸ h)
      rw [List.filter_cons_of_neg nb]
      exact filter_one nd.2 h fun c hc => hP c (List.mem_cons_of_mem _ hc)
theorem srt_nd {l : List (Int × Int)} (h : l.Pairwise ltF) : l.Nodup := by
  rw [List.nodup_iff_pairwise_ne]
  exact h.imp fun {a b} h e => by
    have : a.1 < b.1 := h
    rw [e] at this
    omega
theorem roots_exs {row : List Int} (hp : Pg 40 row) (h : row ≠ []) : rootsOf (exs row) = [lst row] := by
  unfold rootsOf
  rw [filter_one (a := (lst row, lst row)) (srt_nd (exs_srt row)) ((mem_exs hp).mpr (nx_lst h)) fun b hb => ?_]
  · rfl
  · obtain ⟨x, y⟩ := b
    have hx := (mem_exs hp).mp hb
    rw [decide_eq_true_iff]
    constructor
    · intro e
      have e' : x = y := e
      rcases nx_ix hx with ⟨_, h2⟩ | ⟨h1, _⟩
      · rw [← e', h2]
      · exact absurd e' h1
    · intro e
      cases e
      rfl
theorem exs_len {row : List Int} (hp : Pg 40 row) : (exs row).length = (dd row).length := by
  have h1 : ((exs row).map (·.1)).Nodup := srt_nodup (exs_srt row)
  have h2 : ((exs row).map (·.1)).Perm (dd row) := by
    rw [List.perm_ext_iff_of_nodup h1 (dd_nodup row)]
    intro x
    rw [dd_mem]
    constructor
    · intro h
      obtain ⟨⟨a, b⟩, hq, rfl⟩ := List.mem_map.mp h
      exact (mem_nx ((mem_exs hp).mp hq)).1
    · intro h
      obtain ⟨y, hy⟩ := nx_mem h
      exact List.mem_map.mpr ⟨(x, y), (mem_exs hp).mpr hy, rfl⟩
  have := h2.length_eq
  rw [List.length_map] at this
  exact this
theorem exs_len40 (row : List Int) : (exs row).length ≤ 40 := by
  unfold exs
  refine Nat.le_trans (List.length_filterMap_le _ _) ?_
  rw [List.length_map, List.length_range]
  exact Nat.le_refl _
end EF

set_option Elab.async false
set_option linter.all false
set_option maxRecDepth 100000
set_option maxHeartbeats 4000000
/-! shortest lists of visits with a given effect -/
namespace EF
open PySem PySem.Spec PyProof.Rows L2 BC TR
theorem nx_none_iff {row : List Int} {p : Int} : nx row p = none ↔ p ∉ row := by
  constructor
  · intro h m
    obtain ⟨y, hy⟩ := nx_mem m
    rw [h] at hy
    cases hy
  · intro h
    cases c : nx row p with
    | none => rfl
    | some y => exact absurd (mem_nx c).1 h
theorem nx_app_last {x z : Int} (ne : x ≠ z) : ∀ {f : List Int}, f.getLast? = some x → nx (f ++ [z]) x = some z
  | [], h => by cases h
  | [a], h => by
    have ha : a = x := by simpa using h
    subst ha
    show nx (a :: [z]) a = some z
    rw [nx_none (by show nx (z :: []) a = none; rw [nx_none rfl, if_neg (fun e => ne e.symm)]), if_pos rfl]
    rfl
  | a :: b :: r, h => by
    rw [List.getLast?_cons_cons] at h
    exact nx_some (nx_app_last ne h)
theorem nx_app_old {x z : Int} (ne : x ≠ z) : ∀ {f : List Int}, f.getLast? ≠ some x → nx (f ++ [z]) x = nx f x
  | [], _ => by
    show nx (z :: []) x = none
    rw [nx_none rfl, if_neg (fun e => ne e.symm)]
  | [a], h => by
    have ha : ¬ a = x := fun e => h (by rw [e]; rfl)
    show nx (a :: [z]) x = nx (a :: []) x
    rw [nx_none (p := x) (r := [z]) (by show nx (z :: []) x = none; rw [nx_none rfl, if_neg (fun e => ne e.symm)]), nx_none (r := []) rfl, if_neg ha, if_neg ha]
  | a :: b :: r, h => by
    rw [List.getLast?_cons_cons] at h
    have ih := nx_app_old ne (f := b :: r) h
    show nx (a :: (b :: r ++ [z])) x = nx (a :: b :: r) x
    cases c : nx (b :: r) x with
    | some y => rw [nx_some c, nx_some (ih.trans c)]
    | none =>
      rw [nx_none c, nx_none (ih.trans c)]
      rfl
theorem mem_used {row : List Int} (hp : Pg 40 row) {x : Int} : x ∈ usedOf (exs row) ↔ ∃ c, c ≠ x ∧ nx row c = some x := by
  unfold usedOf
  rw [List.mem_map]
  constructor
  · rintro ⟨⟨c, y⟩, h, e⟩
    rw [List.mem_filter] at h
    obtain ⟨h1, h2⟩ := h
    have e' : y = x := e
    subst e'
    refine ⟨c, fun q => ?_, (mem_exs hp).mp h1⟩
    rw [q] at h2
    simp at h2
  · rintro ⟨c, h1, h2⟩
    refine ⟨(c, x), List.mem_filter.mpr ⟨(mem_exs hp).mpr h2, ?_⟩, rfl⟩
    simp [h1]
theorem mem_leaves {row : List Int} (hp : Pg 40 row) {x : Int} : x ∈ leavesOf (exs row) ↔ x ∈ row ∧ ∀ c, c ≠ x → nx row c ≠ some x := by
  unfold leavesOf
  rw [List.mem_map]
  constructor
  · rintro ⟨⟨c, y⟩, h, e⟩
    rw [List.mem_filter] at h
    obtain ⟨h1, h2⟩ := h
    have e' : c = x := e
    subst e'
    refine ⟨(mem_nx ((mem_exs hp).mp h1)).1, fun d hd hn => ?_⟩
    have := (mem_used hp).mpr ⟨d, hd, hn⟩
    simp [this] at h2
  · rintro ⟨h1, h2⟩
    obtain ⟨y, hy⟩ := nx_mem h1
    refine ⟨(x, y), List.mem_filter.mpr ⟨(mem_exs hp).mpr hy, ?_⟩, rfl⟩
    have : x ∉ usedOf (exs row) := fun m => by
      obtain ⟨c, h3, h4⟩ := (mem_used hp).mp m
      exact h2 c h3 h4
    simp [this]
theorem leaves_nodup (row : List Int) : (leavesOf (exs row)).Nodup := by
  unfold leavesOf
  have := srt_nodup (exs_srt row)
  exact this.sublist ((List.filter_sublist (l := exs row)).map (·.1))
/-- for a page, how many other pages with this exit are not done -/
def cnt (row D : List Int) (y : Int) : Nat := ((exs row).filter fun q => decide (q.2 = y ∧ q.1 ≠ y ∧ q.1 ∉ D)).length
theorem cnt_pos {row D : List Int} (hp : Pg 40 row) {y : Int} : cnt row D y ≠ 0 ↔ ∃ c, c ≠ y ∧ nx row c = some y ∧ c ∉ D := by
  unfold cnt
  rw [← Nat.pos_iff_ne_zero, List.length_pos_iff_exists_mem]
  constructor
  · rintro ⟨⟨c, z⟩, h⟩
    rw [List.mem_filter, decide_eq_true_eq] at h
    obtain ⟨h1, h2, h3, h4⟩ := h
    have h2' : z = y := h2
    subst h2'
    exact ⟨c, h3, (mem_exs hp).mp h1, h4⟩
  · rintro ⟨c, h1, h2, h3⟩
    exact ⟨(c, y), List.mem_filter.mpr ⟨(mem_exs hp).mpr h2, decide_eq_true ⟨rfl, h1, h3⟩⟩⟩
theorem cnt_other {row D : List Int} (hp : Pg 40 row) {x y z : Int} (hx : nx row x = some y) (hz : z ≠ y) : cnt row (x :: D) z = cnt row D z := by
  unfold cnt
  congr 1
  refine List.filter_congr fun q hq => decide_eq_decide.mpr ?_
  obtain ⟨c, w⟩ := q
  have hc := (mem_exs hp).mp hq
  constructor
  · rintro ⟨h1, h2, h3⟩
    exact ⟨h1, h2, fun m => h3 (List.mem_cons_of_mem _ m)⟩
  · rintro ⟨h1, h2, h3⟩
    refine ⟨h1, h2, fun m => (List.mem_cons.mp m).elim (fun e => ?_) h3⟩
    have e' : c = x := e
    have h1' : w = z := h1
    rw [e', hx] at hc
    cases hc
    exact hz h1'.symm
theorem filt_one {α : Type} {p q : α → Bool} {a : α} : ∀ {l : List α}, l.Nodup → a ∈ l → p a = true → q a = false → (∀ b ∈ l, b ≠ a → p b = q b) → (l.filter p).length = (l.filter q).length + 1
  | [], _, h, _, _, _ => by cases h
  | b :: l, nd, h, h1, h2, h3 => by
    rw [List.nodup_cons] at nd
    by_cases e : b = a
    · subst e
      rw [List.filter_cons_of_pos h1, List.filter_cons_of_neg (by rw [h2]; exact Bool.false_ne_true), List.length_cons]
      congr 2
      exact List.filter_congr fun c hc => h3 c (List.mem_cons_of_mem _ hc) (fun e => nd.1 (by rw [← e]; exact hc))
    · have hm : a ∈ l := (List.mem_cons.mp h).resolve_left (fun e' => e e'.symm)
      have ih := filt_one nd.2 hm h1 h2 (fun c hc ne => h3 c (List.mem_cons_of_mem _ hc) ne)
      have hb := h3 b List.mem_cons_self e
      cases c : q b with
      | true =>
        rw [c] at hb
        rw [List.filter_cons_of_pos hb, List.filter_cons_of_pos c, List.length_cons, List.length_cons, ih]
      | false =>
        rw [c] at hb
        rw [List.filter_cons_of_neg (by rw [hb]; exact Bool.false_ne_true), List.filter_cons_of_neg (by rw [c]; exact Bool.false_ne_true), ih]
theorem cnt_exit {row D : List Int} (hp : Pg 40 row) {x y : Int} (hx : nx row x = some y) (ne : y ≠ x) (hD : x ∉ D) : cnt row D y = cnt row (x :: D) y + 1 := by
  unfold cnt
  refine filt_one (a := (x, y)) (srt_nd (exs_srt row)) ((mem_exs hp).mpr hx) (decide_eq_true ⟨rfl, ne.symm, hD⟩) (decide_eq_false fun h => h.2.2 List.mem_cons_self) fun q hq hne => decide_eq_decide.mpr ?_
  obtain ⟨c, w⟩ := q
  have hc := (mem_exs hp).mp hq
  have cx : c ≠ x := fun e => by
    subst e
    rw [hx] at hc
    cases hc
    exact hne rfl
  show (w = y ∧ c ≠ y ∧ c ∉ D) ↔ (w = y ∧ c ≠ y ∧ c ∉ x :: D)
  rw [List.mem_cons, not_or]
  exact ⟨fun ⟨a, b, c'⟩ => ⟨a, b, cx, c'⟩, fun ⟨a, b, _, c'⟩ => ⟨a, b, c'⟩⟩
/-- a list in the making: the pages D are left for the last time, the leaves T are taken -/
structure LW (row D found T : List Int) (b : Nat) : Prop where
  dm : ∀ x ∈ D, x ∈ row ∧ x ≠ lst row
  dnd : D.Nodup
  cl : ∀ x ∈ D, ∀ c, nx row c = some x → c ∈ D
  nxD : ∀ x ∈ D, nx found x = nx row x
  fm : ∀ x ∈ found, x ∈ row
  ln : found.length = T.length + D.length + b
  st : ∀ x ∈ row, x ∉ D → x ≠ lst row → found.getLast? ≠ some x → (∃ c, c ≠ x ∧ nx row c = some x ∧ c ∉ D) ∨ (x ∈ leavesOf (exs row) ∧ x ∉ T)
  la : ∀ x, found.getLast? = some x → x ∉ D
  fl : found.filter (fun x => decide (x ∈ leavesOf (exs row))) = T
  hd : ∀ x, found.head? = some x → x = row.headD 0
theorem LW.step {row D found T : List Int} {b : Nat} (hp : Pg 40 row) (h : LW row D found T b) {x y : Int} (hx : found.getLast? = some x) (h0 : cnt row D x = 0) (hy : nx row x = some y) (ne : y ≠ x) : LW row (x :: D) (found ++ [y]) T b := by
  have xD := h.la x hx
  have yD : y ∉ D := fun m => xD (h.cl y m x hy)
  have hxr := (mem_nx hy).1
  have hyr := (mem_nx hy).2
  have xl : x ≠ lst row := by
    rcases nx_ix hy with ⟨e, _⟩ | ⟨_, q, _⟩
    · exact absurd e ne
    · exact q
  have lastY : (found ++ [y]).getLast? = some y := List.getLast?_concat
  constructor
  · intro z hz
    rcases List.mem_cons.mp hz with rfl | hz
    · exact ⟨hxr, xl⟩
    · exact h.dm z hz
  · exact List.nodup_cons.mpr ⟨xD, h.dnd⟩
  · intro z hz c hc
    rcases List.mem_cons.mp hz with rfl | hz
    · by_cases e : c = z
      · rw [e]; exact List.mem_cons_self
      · refine List.mem_cons_of_mem _ ?_
        by_cases m : c ∈ D
        · exact m
        · exact absurd h0 ((cnt_pos hp).mpr ⟨c, e, hc, m⟩)
    · exact List.mem_cons_of_mem _ (h.cl z hz c hc)
  · intro z hz
    rcases List.mem_cons.mp hz with rfl | hz
    · rw [nx_app_last ne.symm hx, hy]
    · rw [nx_app_old (fun e => yD (by rw [← e]; exact hz)) (fun e => h.la z e hz)]
      exact h.nxD z hz
  · intro z hz
    rcases List.mem_append.mp hz with hz | hz
    · exact h.fm z hz
    · rw [List.mem_singleton.mp hz]; exact hyr
  · rw [List.length_append, h.ln, List.length_singleton, List.length_cons]; omega
  · intro z hz hzD hzl hzy
    have zx : z ≠ x := fun e => hzD (by rw [e]; exact List.mem_cons_self)
    have zD : z ∉ D := fun m => hzD (List.mem_cons_of_mem _ m)
    have zy : z ≠ y := fun e => hzy (by rw [lastY, e])
    rcases h.st z hz zD hzl (fun e => zx (Option.some.inj (hx.symm.trans e)).symm) with ⟨c, h1, h2, h3⟩ | q
    · refine .inl ⟨c, h1, h2, fun m => (List.mem_cons.mp m).elim (fun e => ?_) h3⟩
      subst e
      rw [hy] at h2
      exact zy (Option.some.inj h2).symm
    · exact .inr q
  · intro z hz hm
    rw [lastY] at hz
    cases hz
    exact (List.mem_cons.mp hm).elim ne yD
  · rw [List.filter_append, h.fl]
    have : y ∉ leavesOf (exs row) := fun m => ((mem_leaves hp).mp m).2 x ne.symm hy
    have e : [y].filter (fun x => decide (x ∈ leavesOf (exs row))) = [] := by simp [this]
    rw [e, List.append_nil]
  · intro z hz
    cases found with
    | nil => cases hx
    | cons a r => exact h.hd z hz
theorem LW.leaf {row D found T : List Int} {b : Nat} (hp : Pg 40 row) (h : LW row D found T b) (hs : ∀ x, found.getLast? = some x → cnt row D x ≠ 0 ∨ x = lst row) {z : Int} (hz : z ∈ leavesOf (exs row)) (hT : z ∉ T) (h0 : found = [] → z = row.headD 0) : LW row D (found ++ [z]) (T ++ [z]) b := by
  have hzr := ((mem_leaves hp).mp hz).1
  have lastZ : (found ++ [z]).getLast? = some z := List.getLast?_concat
  have zf : z ∉ found := fun m => hT (by rw [← h.fl]; exact List.mem_filter.mpr ⟨m, decide_eq_true hz⟩)
  have zD : z ∉ D := fun m => by
    have e := h.nxD z m
    obtain ⟨y, hy⟩ := nx_mem hzr
    rw [hy] at e
    exact zf (mem_nx e).1
  constructor
  · exact h.dm
  · exact h.dnd
  · exact h.cl
  · intro x hx
    rw [nx_app_old (fun e => zD (by rw [← e]; exact hx)) (fun e => h.la x e hx)]
    exact h.nxD x hx
  · intro x hx
    rcases List.mem_append.mp hx with hx | hx
    · exact h.fm x hx
    · rw [List.mem_singleton.mp hx]; exact hzr
  · rw [List.length_append, List.length_append, h.ln, List.length_singleton]; omega
  · intro x hx xD xl xz
    have ne : x ≠ z := fun e => xz (by rw [lastZ, e])
    by_cases c : found.getLast? = some x
    · rcases hs x c with q | q
      · exact .inl ((cnt_pos hp).mp q)
      · exact absurd q xl
    · rcases h.st x hx xD xl c with q | ⟨q1, q2⟩
      · exact .inl q
      · refine .inr ⟨q1, fun m => (List.mem_append.mp m).elim q2 fun m => ne (List.mem_singleton.mp m)⟩
  · intro x hx
    rw [lastZ] at hx
    cases hx
    exact zD
  · have e : [z].filter (fun x => decide (x ∈ leavesOf (exs row))) = [z] := by simp [hz]
    rw [List.filter_append, h.fl, e]
  · intro x hx
    cases found with
    | nil => cases hx; exact h0 rfl
    | cons a r => exact h.hd x hx
/-- nothing is left at the end -/
theorem LW.all {row D found T : List Int} {b : Nat} (hp : Pg 40 row) (h : LW row D found T b) (hs : ∀ x, found.getLast? = some x → cnt row D x ≠ 0 ∨ x = lst row) (hT : ∀ x ∈ leavesOf (exs row), x ∈ T) : ∀ x ∈ row, x ≠ lst row → x ∈ D := by
  suffices hh : ∀ n x, ix row x < n → x ∈ row → x ≠ lst row → x ∈ D from fun x hx hl => hh _ x (Nat.lt_succ_self _) hx hl
  intro n
  induction n with
  | zero => intro x hx; omega
  | succ n ih =>
    intro x hx hr hl
    by_cases m : x ∈ D
    · exact m
    have key : (∃ c, c ≠ x ∧ nx row c = some x ∧ c ∉ D) ∨ (x ∈ leavesOf (exs row) ∧ x ∉ T) := by
      by_cases c : found.getLast? = some x
      · rcases hs x c with q | q
        · exact .inl ((cnt_pos hp).mp q)
        · exact absurd q hl
      · exact h.st x hr m hl c
    rcases key with ⟨c, h1, h2, h3⟩ | ⟨h1, h2⟩
    · rcases nx_ix h2 with ⟨e, _⟩ | ⟨_, q, lt⟩
      · exact absurd e.symm h1
      · exact absurd (ih c (by omega) (mem_nx h2).1 q) h3
    · exact absurd (hT x h1) h2
theorem exs_congr {row l : List Int} (h : ∀ x, nx l x = nx row x) : exs l = exs row := by
  unfold exs
  congr 1
  funext p
  rw [h]
theorem getLast?_mem' {l : List Int} {x : Int} (h : l.getLast? = some x) : x ∈ l := List.mem_of_getLast? h
theorem LW.fin {row D found T : List Int} {b : Nat} (hp : Pg 40 row) (hne : row ≠ []) (h : LW row D found T b) (hs : ∀ x, found.getLast? = some x → cnt row D x ≠ 0 ∨ x = lst row) (hT : ∀ x ∈ leavesOf (exs row), x ∈ T) (h0 : found ≠ []) :
    exs found = exs row ∧ found.headD 0 = row.headD 0 ∧ found.length + 1 = T.length + (exs row).length + b ∧ (∀ x ∈ found, x ∈ row) := by
  have hall := h.all hp hs hT
  obtain ⟨z, hz⟩ : ∃ z, found.getLast? = some z := ⟨_, List.getLast?_eq_some_getLast h0⟩
  have hzr := h.fm z (getLast?_mem' hz)
  have zl : z = lst row := by
    by_cases e : z = lst row
    · exact e
    · exact absurd (hall z hzr e) (h.la z hz)
  subst zl
  have lf : lst found = lst row := by unfold lst at hz ⊢; rw [hz]; rfl
  refine ⟨exs_congr fun x => ?_, ?_, ?_, h.fm⟩
  · by_cases m : x ∈ row
    · by_cases e : x = lst row
      · subst e
        rw [nx_lst hne, ← lf, nx_lst h0]
      · exact h.nxD x (hall x m e)
    · rw [nx_none_iff.mpr m, nx_none_iff.mpr fun q => m (h.fm x q)]
  · cases found with
    | nil => exact absurd rfl h0
    | cons a r => exact h.hd a rfl
  · have e : (lst row :: D).length = (exs row).length := by
      have p : (lst row :: D).Perm ((exs row).map (·.1)) := by
        refine (List.perm_ext_iff_of_nodup (List.nodup_cons.mpr ⟨fun m => (h.dm _ m).2 rfl, h.dnd⟩) (srt_nodup (exs_srt row))).mpr fun x => ?_
        rw [List.mem_cons]
        have hk : x ∈ (exs row).map (·.1) ↔ x ∈ row := by
          rw [List.mem_map]
          constructor
          · rintro ⟨⟨c, y⟩, h1, e⟩
            cases e
            exact (mem_nx ((mem_exs hp).mp h1)).1
          · intro m
            obtain ⟨y, hy⟩ := nx_mem m
            exact ⟨(x, y), (mem_exs hp).mpr hy, rfl⟩
        rw [hk]
        constructor
        · rintro (rfl | m)
          · exact lst_mem hne
          · exact (h.dm x m).1
        · intro m
          by_cases e : x = lst row
          · exact .inl e
          · exact .inr (hall x m e)
      rw [p.length_eq, List.length_map]
    rw [List.length_cons] at e
    rw [h.ln]
    omega
/-- the leaves but for the first page -/
def frL (row : List Int) : List Int := (leavesOf (exs row)).filter fun x => decide (x ≠ row.headD 0)
def lfB (row : List Int) : Bool := decide (row.headD 0 ∈ leavesOf (exs row))
/-- the number of visits of the shortest lists -/
def few (row : List Int) : Nat := if row = [] then 0 else (exs row).length + (leavesOf (exs row)).length - (if lfB row = true then 1 else 0)
theorem LW.init {row : List Int} (hp : Pg 40 row) (hne : row ≠ []) : LW row [] (if lfB row = true then [] else [row.headD 0]) [] (if lfB row = true then 0 else 1) := by
  have hh : row.headD 0 ∈ row := by
    cases row with
    | nil => exact absurd rfl hne
    | cons a r => exact List.mem_cons_self
  constructor
  · intro x hx; cases hx
  · exact List.nodup_nil
  · intro x hx; cases hx
  · intro x hx; cases hx
  · intro x hx
    split at hx
    · cases hx
    · rw [List.mem_singleton.mp hx]; exact hh
  · split <;> rfl
  · intro x hx _ hl hla
    by_cases m : x ∈ leavesOf (exs row)
    · exact .inr ⟨m, by simp⟩
    · refine .inl ?_
      by_cases q : ∃ c, c ≠ x ∧ nx row c = some x
      · obtain ⟨c, h1, h2⟩ := q
        exact ⟨c, h1, h2, by simp⟩
      · exact absurd ((mem_leaves hp).mpr ⟨hx, fun c h1 h2 => q ⟨c, h1, h2⟩⟩) m
  · intro x _ hx; cases hx
  · split
    · rfl
    · next c =>
      unfold lfB at c
      rw [List.filter_cons_of_neg (by exact c), List.filter_nil]
  · intro x hx
    split at hx
    · cases hx
    · cases hx; rfl
/-- the leaves in the order in which they are taken -/
def todo (row order : List Int) : List Int := if lfB row = true then row.headD 0 :: order else order
theorem todo_perm {row order : List Int} (hne : row ≠ []) (h : order.Perm (frL row)) : (todo row order).Perm (leavesOf (exs row)) := by
  unfold todo
  cases c : lfB row with
  | true =>
    rw [if_pos rfl]
    have m : row.headD 0 ∈ leavesOf (exs row) := by unfold lfB at c; exact of_decide_eq_true c
    have nd := leaves_nodup row
    refine (List.Perm.cons _ h).trans ((List.perm_ext_iff_of_nodup (List.nodup_cons.mpr ⟨fun q => ?_, nd.sublist List.filter_sublist⟩) nd).mpr fun x => ?_)
    · unfold frL at q
      rw [List.mem_filter, decide_eq_true_eq] at q
      exact q.2 rfl
    · rw [List.mem_cons, List.mem_filter, decide_eq_true_eq]
      constructor
      · rintro (rfl | q)
        · exact m
        · exact q.1
      · intro q
        by_cases e : x = row.headD 0
        · exact .inl e
        · exact .inr ⟨q, e⟩
  | false =>
    rw [if_neg (by decide)]
    unfold frL at h
    rw [List.filter_eq_self.mpr fun x hx => ?_] at h
    · exact h
    · refine decide_eq_true fun e => ?_
      unfold lfB at c
      exact of_decide_eq_false c (by rw [← e]; exact hx)
/-- a shortest list with the effect of these visits -/
structure Short (row l : List Int) : Prop where
  pg : Pg 40 l
  ex : exs l = exs row
  hd : l.headD 0 = row.headD 0
  nil : l = [] ↔ row = []
  len : l.length = few row
  nd : (l.filter fun x => decide (x ∈ leavesOf (exs row))).Nodup
theorem Short.nil_nil : Short [] [] := ⟨pg_nil _, rfl, rfl, Iff.rfl, rfl, by exact List.nodup_nil⟩
theorem LW.short {row D found order : List Int} (hp : Pg 40 row) (hne : row ≠ []) (ho : order.Perm (frL row)) (h : LW row D found (todo row order) (if lfB row = true then 0 else 1)) (hs : ∀ x, found.getLast? = some x → cnt row D x ≠ 0 ∨ x = lst row) : Short row found := by
  have tp := todo_perm hne ho
  have h0 : found ≠ [] := fun e => by
    have l := h.ln
    rw [e] at l
    cases c : lfB row with
    | true =>
      unfold todo at l
      rw [c, if_pos rfl] at l
      simp at l
      omega
    | false =>
      rw [c] at l
      simp at l
  obtain ⟨h1, h2, h3, h4⟩ := h.fin hp hne hs (fun x hx => tp.mem_iff.mpr hx) h0
  refine ⟨fun x hx => hp x (h4 x hx), h1, h2, ⟨fun e => absurd e h0, fun e => absurd e hne⟩, ?_, ?_⟩
  · unfold few
    rw [if_neg hne]
    rw [tp.length_eq] at h3
    have : (exs row).length ≠ 0 := fun e => by
      have := (mem_exs hp).mpr (nx_lst hne)
      rw [List.length_eq_zero_iff.mp e] at this
      cases this
    cases c : lfB row with
    | true => rw [c, if_pos rfl] at h3; rw [if_pos rfl]; omega
    | false => rw [c, if_neg (by decide)] at h3; rw [if_neg (by decide)]; omega
  · rw [h.fl]
    exact tp.nodup_iff.mpr (leaves_nodup row)
theorem few_congr {row l : List Int} (e : exs l = exs row) (hd : l.headD 0 = row.headD 0) (n : l = [] ↔ row = []) : few l = few row := by
  unfold few lfB
  rw [e, hd]
  by_cases c : row = []
  · rw [if_pos c, if_pos (n.mpr c)]
  · rw [if_neg c, if_neg (fun q => c (n.mp q))]
theorem Short.few {row l : List Int} (h : Short row l) : EF.few l = l.length := by rw [h.len, few_congr h.ex h.hd h.nil]
theorem leaves_le (row : List Int) : (leavesOf (exs row)).length ≤ (exs row).length := by
  unfold leavesOf
  rw [List.length_map]
  exact List.length_filter_le _ _
theorem few_le (row : List Int) : few row ≤ 2 * (exs row).length := by
  unfold few
  have := leaves_le row
  split
  · omega
  · split <;> omega
theorem few_80 (row : List Int) : few row ≤ 80 := by
  have := few_le row
  have := exs_len40 row
  omega
theorem dd_le : ∀ row : List Int, (dd row).length ≤ row.length
  | [] => Nat.le_refl _
  | a :: r => by
    unfold dd
    have := dd_le r
    split
    · rw [List.length_cons]; omega
    · rw [List.length_cons, List.length_cons]; omega
theorem sub_len {l m : List Int} (nd : l.Nodup) (h : ∀ x ∈ l, x ∈ m) : l.length ≤ m.length := by
  induction l generalizing m with
  | nil => exact Nat.zero_le _
  | cons a l ih =>
    rw [List.nodup_cons] at nd
    have ha := h a List.mem_cons_self
    have := ih nd.2 (m := m.erase a) fun x hx => (List.mem_erase_of_ne (fun e => nd.1 (by rw [← e]; exact hx))).mpr (h x (List.mem_cons_of_mem _ hx))
    rw [List.length_erase_of_mem ha] at this
    have : 0 < m.length := List.length_pos_of_mem ha
    rw [List.length_cons]
    omega
/-- a list twice and one page thrice is no shortest one -/
theorem few_twice {l : List Int} {a : Int} (hp : Pg 40 (l ++ l ++ [a, a, a])) (hl : Pg 40 l) : few (l ++ l ++ [a, a, a]) < (l ++ l ++ [a, a, a]).length := by
  have h1 := few_le (l ++ l ++ [a, a, a])
  rw [exs_len hp] at h1
  have h2 : (dd (l ++ l ++ [a, a, a])).length ≤ (a :: dd l).length := by
    refine sub_len (dd_nodup _) fun x hx => ?_
    rw [dd_mem] at hx
    rw [List.mem_cons, dd_mem]
    simp only [List.mem_append, List.mem_cons, List.mem_nil_iff, or_false] at hx
    rcases hx with (h | h) | h | h | h
    · exact .inr h
    · exact .inr h
    · exact .inl h
    · exact .inl h
    · exact .inl h
  have h3 := dd_le l
  rw [List.length_cons] at h2
  simp only [List.length_append, List.length_cons, List.length_nil]
  omega
end EF

set_option Elab.async false
set_option linter.all false
set_option maxRecDepth 100000
set_option maxHeartbeats 4000000
/-! visits are no fewer than the fewest with their effect -/
namespace EF
open PySem PySem.Spec PyProof.Rows L2 BC TR
theorem mem_frl {row : List Int} {x : Int} : x ∈ frL row ↔ x ∈ leavesOf (exs row) ∧ x ≠ row.headD 0 := by
  unfold frL
  rw [List.mem_filter, decide_eq_true_eq]
theorem frl_nodup (row : List Int) : (frL row).Nodup := (leaves_nodup row).sublist List.filter_sublist
theorem nx_again {a : Int} {r : List Int} (h : a ∈ r) (c : Int) : nx (a :: r) c = nx r c := by
  cases e : nx r c with
  | some y => exact nx_some e
  | none =>
    rw [nx_none e, if_neg]
    intro q
    subst q
    exact nx_none_iff.mp e h
theorem frl_cons {a b : Int} {r : List Int} (hp : Pg 40 (a :: b :: r)) : (frL (a :: b :: r)).length ≤ (frL (b :: r)).length + (if a ∈ b :: r then 1 else 0) := by
  have hp' : Pg 40 (b :: r) := fun x hx => hp x (List.mem_cons_of_mem _ hx)
  by_cases m : a ∈ b :: r
  · rw [if_pos m]
    have e : exs (a :: b :: r) = exs (b :: r) := exs_congr fun x => nx_again m x
    have := sub_len (m := b :: frL (b :: r)) (frl_nodup (a :: b :: r)) fun x hx => by
      obtain ⟨h1, h2⟩ := mem_frl.mp hx
      rw [e] at h1
      by_cases q : x = b
      · rw [q]; exact List.mem_cons_self
      · exact List.mem_cons_of_mem _ (mem_frl.mpr ⟨h1, q⟩)
    rw [List.length_cons] at this
    exact this
  · rw [if_neg m]
    refine sub_len (frl_nodup (a :: b :: r)) fun x hx => ?_
    obtain ⟨h1, h2⟩ := mem_frl.mp hx
    have xa : x ≠ a := h2
    obtain ⟨h3, h4⟩ := (mem_leaves hp).mp h1
    have xr : x ∈ b :: r := (List.mem_cons.mp h3).resolve_left xa
    refine mem_frl.mpr ⟨(mem_leaves hp').mpr ⟨xr, fun c hc hn => h4 c hc (nx_some hn)⟩, fun q => ?_⟩
    have q' : x = b := q
    subst q'
    refine h4 a xa.symm ?_
    rw [nx_none (nx_none_iff.mpr m), if_pos rfl]
    rfl
theorem dd_cons (a : Int) (r : List Int) : (dd (a :: r)).length + (if a ∈ r then 1 else 0) = (dd r).length + 1 := by
  show (if a ∈ r then dd r else a :: dd r).length + _ = _
  by_cases m : a ∈ r
  · rw [if_pos m, if_pos m]
  · rw [if_neg m, if_neg m, List.length_cons]
theorem frl_dd : ∀ {row : List Int}, Pg 40 row → (dd row).length + (frL row).length ≤ row.length
  | [], _ => by
    have : (frL []).length = 0 := by
      rw [List.length_eq_zero_iff, List.eq_nil_iff_forall_not_mem]
      intro x hx
      have := ((mem_leaves (row := []) (pg_nil _)).mp (mem_frl.mp hx).1).1
      cases this
    show 0 + _ ≤ 0
    omega
  | [a], hp => by
    have : (frL [a]).length = 0 := by
      rw [List.length_eq_zero_iff, List.eq_nil_iff_forall_not_mem]
      intro x hx
      obtain ⟨h1, h2⟩ := mem_frl.mp hx
      have := ((mem_leaves hp).mp h1).1
      exact h2 (List.mem_singleton.mp this)
    show 1 + _ ≤ 1
    omega
  | a :: b :: r, hp => by
    have ih := frl_dd (row := b :: r) fun x hx => hp x (List.mem_cons_of_mem _ hx)
    have h1 := frl_cons hp
    have h2 := dd_cons a (b :: r)
    rw [List.length_cons]
    omega
theorem few_len {row : List Int} (hp : Pg 40 row) : few row ≤ row.length := by
  unfold few
  by_cases h : row = []
  · rw [if_pos h]; omega
  · rw [if_neg h]
    have h1 := (todo_perm h (List.Perm.refl (frL row))).length_eq
    have h2 := frl_dd hp
    have h3 := exs_len hp
    unfold todo at h1
    cases c : lfB row with
    | true =>
      rw [c, if_pos rfl, List.length_cons] at h1
      rw [if_pos rfl]
      omega
    | false =>
      rw [c, if_neg (by decide)] at h1
      rw [if_neg (by decide)]
      omega
end EF

set_option Elab.async false
set_option linter.all false
set_option maxRecDepth 100000
set_option maxHeartbeats 4000000
/-! an own object is called -/
namespace BC
open PySem PySem.Spec PySem.Calls PyProof.Rows L2 Evl
section
variable {M : Model} {A : Around} {E : Value → Shared → Prop} {s : Shared} {env : Env} {pos : Pos} {x : Addr} {first : List Value} {Q : Value → Shared → Prop}
theorem callWith_own {args : List (Bool × Sem Value)} {keywords : List (Option Str × Sem Value)} (hplain : (args.any (·.1) || keywords.any (·.1.isNone)) = false)
    (h : wpAny M A (evalArgs (.ref x) true args keywords) (fun a s₁ => (∃ C ox od, PySem.W.InstAt s₁.heap x ox C od ∧ ox.data = .plain) ∧ wpAny M A (call (.ref x) (first ++ a.pos) a.kw) Q E s₁) E s) : wpAny M A (callWith pos (.ref x) first args keywords) Q E s := by
  unfold callWith
  refine wpAny_bind (wpAny_holding (wpAny_mono h (fun a s₁ h₁ => wpAny_bind (wpAny_standAt ?_)) fun _ _ y => y))
  obtain ⟨⟨C, ox, od, J, hd⟩, h2⟩ := h₁
  have L := PySem.W.kco_keeper (M := M) J hd
  simp only [hplain]
  refine wpAny_bind (L.here ?_)
  have tail : ∀ {t : Sem Value}, wpAny M A t Q E s₁ → wpAny M A (t >>= fun r => holding [r] point >>= fun _ => pure r) Q E s₁ :=
    fun ht => wpAny_bind (wpAny_mono ht (fun r s₂ hr => wpAny_bind (wpAny_holding (wpAny_point (wpAny_pure hr)))) fun _ _ y => y)
  exact tail (wpAny_operateT h2)
end
section
variable {X : Cx} {CX : CXT} {k : Nat} {f C a : Addr} {fd : FuncData} {ps ks : List Str} {sp : Sp} {E : XK} {x : Str} {p pos : Pos} {e : Expr} {es : List Expr} {kws : List Keyword} {tf : TE} {t tk : TA} {dvs : List V} {ds : List Value}
  {g : List Value → List Value → List Value} {gV : List V → List V → List V}
theorem inst_of {pins : List (Addr × Obj)} {σ : L2.St} {H : Hp} {s : Shared} (I : Inv X pins σ H s) {dx : Addr} {fs : List (Str × V)} (ea : H a = some (.ins C dx fs)) : ∃ ox od, PySem.W.InstAt s.heap a ox C od ∧ ox.data = .plain := by
  obtain ⟨mA, O, _, _, _, _⟩ := ins_get I.hok ea
  obtain ⟨od, J, _⟩ := O.look
  exact ⟨_, od, J, rfl⟩
structure CallOf (K : PySem.W.Frag) (C f : Addr) : Prop where
  hs : PySem.W.findIn K (.ref C) "__call__" = some (some (.ref f))
  hf : PySem.W.isFn K (.ref f) = true
  fn : PySem.W.fnIn K f = true
theorem run_own {pins : List (Addr × Obj)} {σ : L2.St} {H : Hp} {s : Shared} {Q : VK} {us : List Value} {vs : List V} (co : CallOf X.K C f) (F : FnOk X.prog X.w X.K X.mg X.base CX k f fd ps sp) (hr : Room k X.A) (hb : Binds X.K fd ps ds) (hd : Vals dvs ds) (hx : Passes CX X E)
    (I : Inv X pins σ H s) {dx : Addr} {fs : List (Str × V)} (ea : H a = some (.ins C dx fs)) (r : Vals vs us) (h : sp (.ref a :: (vs ++ dvs)) H Q E) : wpAny (model X.prog X.w) X.A (call (.ref a) us) (EP X pins σ Q) X.xe s := by
  obtain ⟨ox, od, J, hdt⟩ := inst_of I ea
  have r2 : Vals ((.ref a :: vs) ++ dvs) ((.ref a :: us) ++ ds) := Vals.append (.cons rfl r) hd
  have hl : ((.ref a :: us) ++ ds).length = ps.length := by rw [← r2.length]; exact F.len _ _ _ _ h
  refine wpAny_call (PySem.W.kco_code I.kIn J hdt co.hs co.hf co.fn ?_)
  refine codeAny_mono (F.run X.A X.stack s H ⟨.ref a :: us, []⟩ ((.ref a :: us) ++ ds) ((.ref a :: vs) ++ dvs) Q E hr I.env0 (hb s (.ref a :: us) I.kIn hl) r2 h) fun r s' hq => ?_
  cases r with
  | error e => exact hx pins σ H s e s' I hq
  | ok fl =>
    cases fl with
    | ret u => exact I.after hq
    | next => exact False.elim hq
    | brk => exact False.elim hq
    | cont => exact False.elim hq
theorem run_ownk {pins : List (Addr × Obj)} {σ : L2.St} {H : Hp} {s : Shared} {Q : VK} {us ws : List Value} {vs zs : List V} (co : CallOf X.K C f) (F : FnOk X.prog X.w X.K X.mg X.base CX k f fd ps sp) (hr : Room k X.A) (hb : KBinds X.K fd ps ks g gV) (hx : Passes CX X E)
    (I : Inv X pins σ H s) {dx : Addr} {fs : List (Str × V)} (ea : H a = some (.ins C dx fs)) (r : Vals vs us) (rz : Vals zs ws) (h : sp (gV (.ref a :: vs) zs) H Q E) : wpAny (model X.prog X.w) X.A (call (.ref a) us (ks.zip ws)) (EP X pins σ Q) X.xe s := by
  obtain ⟨ox, od, J, hdt⟩ := inst_of I ea
  have r2 := hb.rel (vs := .ref a :: vs) (us := .ref a :: us) (.cons rfl r) rz
  have hl : (g (.ref a :: us) ws).length = ps.length := by rw [← r2.length]; exact F.len _ _ _ _ h
  refine wpAny_call (PySem.W.kco_code I.kIn J hdt co.hs co.hf co.fn ?_)
  refine codeAny_mono (F.run X.A X.stack s H ⟨.ref a :: us, ks.zip ws⟩ (g (.ref a :: us) ws) (gV (.ref a :: vs) zs) Q E hr I.env0 (hb.to s (.ref a :: us) ws I.kIn hl) r2 h) fun r s' hq => ?_
  cases r with
  | error e => exact hx pins σ H s e s' I hq
  | ok fl =>
    cases fl with
    | ret u => exact I.after hq
    | next => exact False.elim hq
    | brk => exact False.elim hq
    | cont => exact False.elim hq
/-- o(e, ..) by the class's own __call__ -/
def tCallO (C : Addr) (sp : Sp) (dvs : List V) (E : XK) (tf : TE) (t : TA) : TE := fun σ H Q => tf σ H fun x H1 => ∃ a, x = .ref a ∧ t σ H1 fun vs H2 => (∃ dx fs, H2 a = some (.ins C dx fs)) ∧ sp (.ref a :: (vs ++ dvs)) H2 Q E
def tCallOK (C : Addr) (sp : Sp) (gV : List V → List V → List V) (E : XK) (tf : TE) (tk : TA) : TE := fun σ H Q => tf σ H fun x H1 => ∃ a, x = .ref a ∧ tk σ H1 fun zs H2 => (∃ dx fs, H2 a = some (.ins C dx fs)) ∧ sp (gV [.ref a] zs) H2 Q E
theorem pe_callO (hf : PE X (.Name x p) tf) (co : CallOf X.K C f) (F : FnOk X.prog X.w X.K X.mg X.base CX k f fd ps sp) (hr : Room k X.A) (hb : Binds X.K fd ps ds) (hd : Vals dvs ds) (hx : Passes CX X E) (ha : PA X (e :: es) t)
    (he : starEach (e :: es) X.env = (false, eval e X.env) :: starEach es X.env := by rfl) (hpl : (backTo pos (starEach es X.env)).any (·.1) = false := by rfl) : PE X (.Call (.Name x p) (e :: es) [] pos) (tCallO C sp dvs E tf t) := by
  refine ⟨fun pins s σ H Q I h => ?_⟩
  refine wpAny_Call_Name_kw (thn (hf.run pins s σ H _ I h) fun u s1 ⟨c, H1, I1, rc, a, ec, q1⟩ => ?_)
  subst ec
  obtain rfl : u = Value.ref a := rc
  have hh := thn (ha.run pos pins s1 σ H1 _ I1 q1) (Q' := fun vs s₁ => (∃ C ox od, PySem.W.InstAt s₁.heap a ox C od ∧ ox.data = .plain) ∧ wpAny (model X.prog X.w) X.A (call (.ref a) ([] ++ vs)) (EP X pins σ Q) X.xe s₁) fun us s2 ⟨vs, H2, I2, r, ⟨dx, fs, ea⟩, q2⟩ => by
    obtain ⟨ox, od, J, hdt⟩ := inst_of I2 ea
    exact ⟨⟨C, ox, od, J, hdt⟩, run_own co F hr hb hd hx I2 ea r q2⟩
  rw [he] at hh ⊢
  exact callWith_own (by show ((false || (backTo pos (starEach es X.env)).any (·.1)) || false) = false; rw [hpl]; rfl) (evalArgs_plain hh)
theorem pe_callOK0 (hf : PE X (.Name x p) tf) (co : CallOf X.K C f) (F : FnOk X.prog X.w X.K X.mg X.base CX k f fd ps sp) (hr : Room k X.A) (hb : KBinds X.K fd ps ks g gV) (hx : Passes CX X E) (hkw : PK X kws tk)
    (hall : (backToKw pos (keywordEach kws X.env)).all (·.1.isSome) = true := by rfl) (hks : (backToKw pos (keywordEach kws X.env)).filterMap (·.1) = ks := by rfl)
    (hpl : ((backTo pos (starEach [] X.env)).any (·.1) || (backToKw pos (keywordEach kws X.env)).any (·.1.isNone)) = false := by rfl) : PE X (.Call (.Name x p) [] kws pos) (tCallOK C sp gV E tf tk) := by
  refine ⟨fun pins s σ H Q I h => ?_⟩
  refine wpAny_Call_Name_kw (thn (hf.run pins s σ H _ I h) fun u s1 ⟨c, H1, I1, rc, a, ec, q1⟩ => ?_)
  subst ec
  obtain rfl : u = Value.ref a := rc
  have hh := thn (hkw.run pos pins s1 σ H1 _ I1 q1) (Q' := fun ws s₁ => (∃ C ox od, PySem.W.InstAt s₁.heap a ox C od ∧ ox.data = .plain) ∧ wpAny (model X.prog X.w) X.A (call (.ref a) ([] ++ []) (((backToKw pos (keywordEach kws X.env)).filterMap (·.1)).zip ws)) (EP X pins σ Q) X.xe s₁) fun ws s2 ⟨zs, H2, I2, rz, ⟨dx, fs, ea⟩, q2⟩ => by
    obtain ⟨ox, od, J, hdt⟩ := inst_of I2 ea
    refine ⟨⟨C, ox, od, J, hdt⟩, ?_⟩
    rw [hks]
    exact run_ownk (us := []) (vs := []) co F hr hb hx I2 ea .nil rz q2
  exact callWith_own hpl (evalArgs_kw2_nil hall hh)
theorem x_callO {σ : L2.St} {H : Hp} {Q : VK} : tCallO C sp dvs E tf t σ H Q = tf σ H (fun x H1 => ∃ a, x = .ref a ∧ t σ H1 fun vs H2 => (∃ dx fs, H2 a = some (.ins C dx fs)) ∧ sp (.ref a :: (vs ++ dvs)) H2 Q E) := rfl
theorem x_callOK {σ : L2.St} {H : Hp} {Q : VK} : tCallOK C sp gV E tf tk σ H Q = tf σ H (fun x H1 => ∃ a, x = .ref a ∧ tk σ H1 fun zs H2 => (∃ dx fs, H2 a = some (.ins C dx fs)) ∧ sp (gV [.ref a] zs) H2 Q E) := rfl
end
end BC

set_option Elab.async false
set_option linter.all false
set_option maxRecDepth 100000
set_option maxHeartbeats 4000000
/-! visits behind a trail: page by page, and by the exits -/
namespace EF
open PySem PySem.Spec PyProof.Rows L2 BC TR
/-- from a page along its exits -/
def ch : List Int → Int → List Int
  | [], _ => []
  | a :: r, p => if p ∈ r then ch r p else if p = a then a :: (match r with | [] => [] | b :: _ => ch r b) else []
/-- one more page -/
def st : List Int → Int → List Int
  | [], a => [a]
  | p :: P, a => if p = a then [a] else p :: st P a
def play (P : List Int) : List Int → List Int
  | [] => P
  | a :: r => play (st P a) r
/-- by the effect -/
def ef (row : List Int) : List Int → List Int
  | [] => match row with
    | [] => []
    | b :: _ => ch row b
  | p :: P => if p ∈ row then ch row p else p :: ef row P
theorem ch_self (a : Int) (r : List Int) (h : a ∉ r) : ch (a :: r) a = a :: ef r [] := by
  show (if a ∈ r then _ else if a = a then _ else _) = _
  rw [if_neg h, if_pos rfl]
  cases r <;> rfl
theorem ch_in {a p : Int} {r : List Int} (h : p ∈ r) : ch (a :: r) p = ch r p := by
  show (if p ∈ r then _ else _) = _
  rw [if_pos h]
theorem ef_one (a : Int) (r : List Int) : ef r [a] = ch (a :: r) a := by
  show (if a ∈ r then _ else _) = _
  by_cases h : a ∈ r
  · rw [if_pos h, ch_in h]
  · rw [if_neg h, ch_self a r h]
theorem ef_st (a : Int) (r : List Int) : ∀ P : List Int, ef r (st P a) = ef (a :: r) P
  | [] => by
    show ef r [a] = ch (a :: r) a
    exact ef_one a r
  | p :: P => by
    by_cases e : p = a
    · subst e
      show ef r (if p = p then _ else _) = if p ∈ p :: r then _ else _
      rw [if_pos rfl, if_pos List.mem_cons_self]
      exact ef_one p r
    · show ef r (if p = a then _ else p :: st P a) = if p ∈ a :: r then _ else p :: ef (a :: r) P
      rw [if_neg e]
      show (if p ∈ r then _ else p :: ef r (st P a)) = _
      by_cases h : p ∈ r
      · rw [if_pos h, if_pos (List.mem_cons_of_mem _ h), ch_in h]
      · rw [if_neg h, if_neg (fun m => (List.mem_cons.mp m).elim e h), ef_st a r P]
theorem play_ef : ∀ (row P : List Int), play P row = ef row P
  | [], P => by
    show P = ef [] P
    induction P with
    | nil => rfl
    | cons p P ih =>
      show p :: P = if p ∈ [] then _ else p :: ef [] P
      rw [if_neg List.not_mem_nil, ← ih]
  | a :: r, P => by
    show play (st P a) r = _
    rw [play_ef r, ef_st]
/-- the next page of the way -/
theorem ch_next : ∀ {row : List Int} {p y : Int}, nx row p = some y → (y = p → ch row p = [p]) ∧ (y ≠ p → ch row p = p :: ch row y)
  | a :: r, p, y, h => by
    cases e : nx r p with
    | some z =>
      rw [nx_some e] at h
      cases h
      obtain ⟨hp, hy⟩ := mem_nx e
      rw [ch_in hp, ch_in hy]
      exact ch_next e
    | none =>
      have hp : p ∉ r := fun m => by
        obtain ⟨z, hz⟩ := nx_mem m
        rw [e] at hz
        cases hz
      rw [nx_none e] at h
      split at h
      · next q =>
        subst q
        cases h
        rw [ch_self a r hp]
        cases r with
        | nil => exact ⟨fun _ => rfl, fun n => absurd rfl n⟩
        | cons b r' =>
          have ab : ¬ b = a := fun z => hp (by rw [z]; exact List.mem_cons_self)
          refine ⟨fun z => absurd z ab, fun _ => ?_⟩
          show a :: ch (b :: r') b = a :: ch (a :: b :: r') b
          rw [ch_in List.mem_cons_self]
      · cases h
theorem ch_hd {row : List Int} {p y : Int} (h : nx row p = some y) : ∃ t, ch row p = p :: t := by
  obtain ⟨h1, h2⟩ := ch_next h
  by_cases e : y = p
  · exact ⟨_, h1 e⟩
  · exact ⟨_, h2 e⟩
theorem ch_len : ∀ (row : List Int) (p : Int), (ch row p).length ≤ row.length
  | [], _ => Nat.le_refl _
  | a :: r, p => by
    show (if p ∈ r then _ else if p = a then _ else _ : List Int).length ≤ _
    split
    · exact Nat.le_trans (ch_len r p) (Nat.le_succ _)
    · split
      · cases r with
        | nil => exact Nat.le_refl _
        | cons b r' => exact Nat.succ_le_succ (ch_len (b :: r') b)
      · exact Nat.zero_le _
theorem ch_pg : ∀ {row : List Int} {p : Int}, ∀ x ∈ ch row p, x ∈ row
  | a :: r, p, x, h => by
    have h' := h
    unfold ch at h'
    split at h'
    · exact List.mem_cons_of_mem _ (ch_pg x h')
    · split at h'
      · rcases List.mem_cons.mp h' with rfl | h'
        · exact List.mem_cons_self
        · cases r with
          | nil => cases h'
          | cons b r' => exact List.mem_cons_of_mem _ (ch_pg x h')
      · cases h'
/-- the first page of the trail that is left, and what comes then -/
theorem ef_at {row : List Int} : ∀ {P : List Int} {i : Nat} {p : Int}, (∀ q ∈ P.take i, q ∉ row) → P[i]? = some p → p ∈ row → ef row P = P.take i ++ ch row p
  | [], _, _, _, h, _ => by cases h
  | q :: P, 0, p, _, h, hp => by
    have : q = p := by simpa using h
    subst this
    show (if q ∈ row then _ else _) = _
    rw [if_pos hp]
    rfl
  | q :: P, i + 1, p, h0, h, hp => by
    have hq : q ∉ row := h0 q (by rw [List.take_succ_cons]; exact List.mem_cons_self)
    show (if q ∈ row then _ else q :: ef row P) = _
    rw [if_neg hq, ef_at (fun x hx => h0 x (by rw [List.take_succ_cons]; exact List.mem_cons_of_mem _ hx)) (by simpa using h) hp]
    rfl
theorem ef_no {row : List Int} : ∀ {P : List Int}, (∀ q ∈ P, q ∉ row) → ef row P = P ++ ef row []
  | [], _ => rfl
  | q :: P, h => by
    show (if q ∈ row then _ else q :: ef row P) = _
    rw [if_neg (h q List.mem_cons_self), ef_no fun x hx => h x (List.mem_cons_of_mem _ hx)]
    rfl
/-- one more page, by its place -/
theorem st_no {a : Int} : ∀ {P : List Int}, a ∉ P → st P a = P ++ [a]
  | [], _ => rfl
  | p :: P, h => by
    rw [List.mem_cons, not_or] at h
    show (if p = a then _ else p :: st P a) = _
    rw [if_neg (fun z => h.1 z.symm), st_no h.2]
    rfl
theorem st_at {a : Int} : ∀ {P : List Int} {j : Nat}, P[j]? = some a → (∀ m, m < j → ∀ z, P[m]? = some z → z ≠ a) → st P a = P.take (j + 1)
  | [], _, h, _ => by cases h
  | p :: P, 0, h, _ => by
    have : p = a := by simpa using h
    subst this
    show (if p = p then _ else _) = _
    rw [if_pos rfl]
    rfl
  | p :: P, j + 1, h, h0 => by
    have hp : p ≠ a := h0 0 (by omega) p rfl
    show (if p = a then _ else p :: st P a) = _
    rw [if_neg hp, st_at (P := P) (j := j) (by simpa using h) fun m hm z hz => h0 (m + 1) (by omega) z (by simpa using hz)]
    rfl
theorem st_len (P : List Int) (a : Int) : (st P a).length ≤ P.length + 1 := by
  induction P with
  | nil => exact Nat.le_refl _
  | cons p P ih =>
    show (if p = a then _ else p :: st P a : List Int).length ≤ _
    split
    · simp
    · rw [List.length_cons, List.length_cons]; omega
theorem st_mem {P : List Int} {a : Int} : ∀ x ∈ st P a, x ∈ P ∨ x = a := by
  induction P with
  | nil => intro x h; exact .inr (List.mem_singleton.mp h)
  | cons p P ih =>
    intro x h
    have h' : x ∈ (if p = a then [a] else p :: st P a) := h
    split at h'
    · exact .inr (List.mem_singleton.mp h')
    · rcases List.mem_cons.mp h' with rfl | h'
      · exact .inl List.mem_cons_self
      · exact (ih x h').imp (List.mem_cons_of_mem _) id
theorem st_nodup {P : List Int} {a : Int} (h : P.Nodup) : (st P a).Nodup := by
  induction P with
  | nil => simp [st]
  | cons p P ih =>
    rw [List.nodup_cons] at h
    show (if p = a then [a] else p :: st P a : List Int).Nodup
    split
    · simp
    · next ne =>
      rw [List.nodup_cons]
      refine ⟨fun m => ?_, ih h.2⟩
      rcases st_mem p m with m | m
      · exact h.1 m
      · exact ne m
theorem play_ok : ∀ (row : List Int) {P : List Int}, P.Nodup → Pg 40 P → Pg 40 row → (play P row).Nodup ∧ Pg 40 (play P row)
  | [], P, h, hp, _ => ⟨h, hp⟩
  | a :: r, P, h, hp, hr => play_ok r (st_nodup h) (fun x hx => (st_mem x hx).elim (fun m => hp x m) fun e => by rw [e]; exact hr a List.mem_cons_self) fun x hx => hr x (List.mem_cons_of_mem _ hx)
theorem pg_len {P : List Int} (h : P.Nodup) (hp : Pg 40 P) : P.length ≤ 40 := by
  have h1 : P.Perm ((List.range 40).map (fun i : Nat => (i : Int)) |>.filter (· ∈ P)) := by
    rw [List.perm_ext_iff_of_nodup h ?_]
    · intro x
      rw [List.mem_filter]
      constructor
      · intro m
        have := hp x m
        exact ⟨List.mem_map.mpr ⟨x.toNat, List.mem_range.mpr (by omega), by omega⟩, decide_eq_true m⟩
      · intro m
        exact of_decide_eq_true m.2
    · refine List.Pairwise.filter _ ?_
      rw [List.pairwise_map]
      exact List.pairwise_lt_range.imp fun h => by omega
  rw [h1.length_eq]
  refine Nat.le_trans (List.length_filter_le _ _) ?_
  rw [List.length_map, List.length_range]
  exact Nat.le_refl _
end EF

set_option Elab.async false
set_option linter.all false
set_option maxRecDepth 100000
set_option maxHeartbeats 4000000
/-! trails from which two lists of visits part; the trail after visits by the effect -/
namespace EF
open PySem PySem.Spec PyProof.Rows L2 BC TR
theorem st_vis (a : Int) : ∀ P : List Int, st P a = vis P a
  | [] => by
    unfold vis
    rw [if_neg List.not_mem_nil]
    rfl
  | p :: P => by
    show (if p = a then [a] else p :: st P a) = _
    by_cases e : p = a
    · subst e
      rw [if_pos rfl]
      unfold vis
      rw [if_pos List.mem_cons_self, List.idxOf_cons_self]
      rfl
    · rw [if_neg e, st_vis a P]
      have hb : (p == a) = false := beq_eq_false_iff_ne.mpr e
      unfold vis
      by_cases m : a ∈ P
      · rw [if_pos m, if_pos (List.mem_cons_of_mem _ m), List.idxOf_cons, hb]
        rfl
      · rw [if_neg m, if_neg fun h => (List.mem_cons.mp h).elim (fun q => e q.symm) m]
        rfl
theorem play_vis : ∀ (row P : List Int), play P row = row.foldl vis P
  | [], _ => rfl
  | a :: r, P => by
    show play (st P a) r = r.foldl vis (vis P a)
    rw [st_vis, play_vis r]
theorem ef_vis (row P : List Int) : ef row P = row.foldl vis P := by rw [← play_ef, play_vis]
theorem ch_hd' {row : List Int} {p : Int} (h : p ∈ row) : ∃ t, ch row p = p :: t := by
  obtain ⟨y, hy⟩ := nx_mem h
  exact ch_hd hy
theorem ef_nil_hd (a : Int) (r : List Int) : ∃ t, ef (a :: r) [] = a :: t := ch_hd' List.mem_cons_self
theorem ef_one_hd (row : List Int) (b : Int) : ∃ t, ef row [b] = b :: t := by
  show ∃ t, (if b ∈ row then ch row b else b :: ef row []) = b :: t
  by_cases m : b ∈ row
  · rw [if_pos m]; exact ch_hd' m
  · rw [if_neg m]; exact ⟨_, rfl⟩
theorem ef_in {row : List Int} {p : Int} (h : p ∈ row) (P : List Int) : ef row (p :: P) = ch row p := by
  show (if p ∈ row then _ else _) = _
  rw [if_pos h]
theorem ef_out {row : List Int} {p : Int} (h : p ∉ row) (P : List Int) : ef row (p :: P) = p :: ef row P := by
  show (if p ∈ row then _ else _) = _
  rw [if_neg h]
theorem part_in {r1 r2 : List Int} {a p : Int} {t : List Int} (ha : ef r2 [] = a :: t) (h1 : ef r1 [p] = ef r2 [p]) (h2 : ∀ b : Int, 0 ≤ b → b < 40 → p ≠ b → ef r1 [p, b] = ef r2 [p, b]) (hp : p ∈ r1) : p ∈ r2 := by
  by_cases m : p ∈ r2
  · exact m
  exfalso
  obtain ⟨b, b0, b1, bp, ba⟩ : ∃ b : Int, 0 ≤ b ∧ b < 40 ∧ p ≠ b ∧ a ≠ b := by
    by_cases c0 : p ≠ 0 ∧ a ≠ 0
    · exact ⟨0, by omega, by omega, c0.1, c0.2⟩
    · by_cases c1 : p ≠ 1 ∧ a ≠ 1
      · exact ⟨1, by omega, by omega, c1.1, c1.2⟩
      · exact ⟨2, by omega, by omega, by omega, by omega⟩
  have q := h2 b b0 b1 bp
  rw [ef_in hp, ef_out m] at h1 q
  obtain ⟨u, hu⟩ := ef_one_hd r2 b
  rw [ha] at h1
  rw [hu, h1] at q
  exact ba (List.cons.inj (List.cons.inj q).2).1
/-- no trail parts them: they have one effect -/
theorem parts {r1 r2 : List Int} (p1 : Pg 40 r1) (p2 : Pg 40 r2) (h0 : ef r1 [] = ef r2 []) (h1 : ∀ p : Int, 0 ≤ p → p < 40 → ef r1 [p] = ef r2 [p]) (h2 : ∀ p b : Int, 0 ≤ p → p < 40 → 0 ≤ b → b < 40 → p ≠ b → ef r1 [p, b] = ef r2 [p, b]) : r1.head? = r2.head? ∧ ∀ x, nx r1 x = nx r2 x := by
  cases r1 with
  | nil =>
    cases r2 with
    | nil => exact ⟨rfl, fun _ => rfl⟩
    | cons a s =>
      obtain ⟨t, ht⟩ := ef_nil_hd a s
      rw [ht] at h0
      cases h0
  | cons a s =>
    cases r2 with
    | nil =>
      obtain ⟨t, ht⟩ := ef_nil_hd a s
      rw [ht] at h0
      cases h0
    | cons a' s' =>
      obtain ⟨t, ht⟩ := ef_nil_hd a s
      obtain ⟨t', ht'⟩ := ef_nil_hd a' s'
      have e : a = a' := by
        rw [ht, ht'] at h0
        exact (List.cons.inj h0).1
      subst e
      refine ⟨rfl, fun x => ?_⟩
      generalize a :: s = r1 at *
      generalize a :: s' = r2 at *
      have i12 : x ∈ r1 → x ∈ r2 := fun m => part_in ht' (h1 x (p1 x m).1 (p1 x m).2) (fun b b0 b1 n => h2 x b (p1 x m).1 (p1 x m).2 b0 b1 n) m
      have i21 : x ∈ r2 → x ∈ r1 := fun m => part_in ht (h1 x (p2 x m).1 (p2 x m).2).symm (fun b b0 b1 n => (h2 x b (p2 x m).1 (p2 x m).2 b0 b1 n).symm) m
      have none_of : ∀ {r : List Int}, x ∉ r → nx r x = none := fun {r} h => by
        cases c : nx r x with
        | none => rfl
        | some y => exact absurd (mem_nx c).1 h
      by_cases m : x ∈ r1
      · have m2 := i12 m
        have q := h1 x (p1 x m).1 (p1 x m).2
        rw [ef_in m, ef_in m2] at q
        obtain ⟨y, hy⟩ := nx_mem m
        obtain ⟨z, hz⟩ := nx_mem m2
        obtain ⟨y1, y2⟩ := ch_next hy
        obtain ⟨z1, z2⟩ := ch_next hz
        obtain ⟨ty, hty⟩ := ch_hd' (mem_nx hy).2
        obtain ⟨tz, htz⟩ := ch_hd' (mem_nx hz).2
        rw [hy, hz]
        congr 1
        by_cases cy : y = x
        · by_cases cz : z = x
          · rw [cy, cz]
          · rw [y1 cy, z2 cz, htz] at q
            simp at q
        · by_cases cz : z = x
          · rw [y2 cy, z1 cz, hty] at q
            simp at q
          · rw [y2 cy, z2 cz, hty, htz] at q
            exact (List.cons.inj (List.cons.inj q).2).1
      · rw [none_of m, none_of fun h => m (i21 h)]
end EF

set_option Elab.async false
set_option linter.all false
set_option maxRecDepth 100000
set_option maxHeartbeats 4000000
/-! forests of few pages, in plain numbers -/
namespace FO
structure Fo where
  ms : List Nat
  rt : Option Nat
  deriving DecidableEq
def allow (F : Fo) (p q : Nat) : Bool := if p = q then F.rt.isNone else decide (F.ms.getD p 0 ≠ F.ms.getD q 0)
def choose (F : Fo) (p q : Nat) : Fo := if p = q then ⟨F.ms, some (F.ms.getD p 0)⟩ else ⟨F.ms.map fun x => if x = F.ms.getD p 0 then F.ms.getD q 0 else x, F.rt⟩
def parts (F : Fo) : Nat := F.ms.eraseDups.length
def ways (m : Nat) (F : Fo) : Nat := match F.rt with
  | none => m ^ (parts F - 1)
  | some r => if parts F = 1 then 1 else F.ms.count r * m ^ (parts F - 2)
def new (m : Nat) : Fo := ⟨List.range m, none⟩
/-- the first of the candidates that the rest falls to -/
def pick (m : Nat) (F : Fo) (p : Nat) : Option Nat → Int → List Nat → Option Nat × Int
  | l, r, [] => (l, r)
  | _, r, c :: cs => if r < (ways m (choose F p c) : Nat) then (some c, r) else pick m F p (some c) (r - (ways m (choose F p c) : Nat)) cs
def cands (m : Nat) (F : Fo) (p : Nat) : List Nat := (List.range m).filter fun q => allow F p q
structure St where
  F : Fo
  l : Option Nat
  r : Int
  ex : List (Nat × Nat)
  deriving DecidableEq
def step (m : Nat) (S : St) (p : Nat) : St :=
  let k := pick m S.F p S.l S.r (cands m S.F p)
  ⟨choose S.F p (k.1.getD 0), k.1, k.2, S.ex ++ [(p, k.1.getD 0)]⟩
def run (m : Nat) (r : Int) : Nat → St
  | 0 => ⟨new m, none, r, []⟩
  | p + 1 => step m (run m r p) p
def exitsN (m at_ : Nat) : List (Nat × Nat) := (run m ((at_ % m ^ (m - 1) : Nat) : Int) m).ex
/-- the rank's sum over the smaller pages -/
def small (m : Nat) (F : Fo) (p : Nat) : Nat → Nat
  | 0 => 0
  | q + 1 => small m F p q + if allow F p q then ways m (choose F p q) else 0
def rk (m : Nat) (E : List (Nat × Nat)) : Nat → Fo × Nat
  | 0 => (new m, 0)
  | i + 1 => let F := (rk m E i).1; let e := E.getD i (0, 0)
    (choose F e.1 e.2, (rk m E i).2 + small m F e.1 e.2)
/-- all lists of exits, as the law makes them -/
def rows (m : Nat) : Nat → List (List (Nat × Nat))
  | 0 => [[]]
  | p + 1 => (rows m p).flatMap fun r => (List.range m).map fun q => r ++ [(p, q)]
def to (E : List (Nat × Nat)) (p : Nat) : Nat := (E.getD p (0, 0)).2
def endOf (E : List (Nat × Nat)) : Nat → Nat → Nat
  | 0, p => p
  | n + 1, p => to E (endOf E n p)
def roots (E : List (Nat × Nat)) : List Nat := (E.filter fun e => decide (e.1 = e.2)).map (·.1)
def good (m : Nat) (E : List (Nat × Nat)) : Bool := decide ((roots E).length = 1) && ((List.range m).all fun p => decide (endOf E m p = (roots E).getD 0 0))
def trees (m : Nat) : List (List (Nat × Nat)) := (rows m m).filter (good m)
/-- how deep a page lies -/
def deep (E : List (Nat × Nat)) : Nat → Nat → Nat
  | 0, _ => 0
  | n + 1, p => if to E p = p then 0 else deep E n (to E p) + 1
/-- visits with these exits -/
def visitsOf (m : Nat) (E : List (Nat × Nat)) : List Int := (((List.range (m + 1)).reverse.flatMap fun d => ((List.range m).filter fun p => decide (deep E m p = d)).flatMap fun p => if to E p = p then [p] else [p, to E p]).map fun x : Nat => (x : Int))
def zs (E : List (Nat × Nat)) : List (Int × Int) := E.map fun e => ((e.1 : Int), (e.2 : Int))
def okAt (m a : Nat) : Bool := decide ((trees m)[a % (trees m).length]? = some (exitsN m a)) && decide ((trees m).length = m ^ (m - 1)) && decide ((rk m (exitsN m a) m).2 = a % m ^ (m - 1)) &&
  decide (EF.exs (visitsOf m (exitsN m a)) = zs (exitsN m a)) && (visitsOf m (exitsN m a)).all (fun x => decide (0 ≤ x) && decide (x < 4)) && decide ((exitsN m a).length = m)
def okAll (m : Nat) : Bool := (List.range (m * m ^ (m - 1))).all (okAt m)
theorem ok_1 : okAll 1 = true := by decide +kernel
theorem ok_2 : okAll 2 = true := by decide +kernel
theorem ok_3 : okAll 3 = true := by decide +kernel
theorem ok_4 : okAll 4 = true := by decide +kernel
end FO

set_option Elab.async false
set_option linter.all false
set_option maxRecDepth 100000
set_option maxHeartbeats 4000000
/-! visits of up to three pages: all their effects, and the shortest lists of each (k84) -/
namespace W8
open PySem PySem.Spec PyProof.Rows L2 BC TR EF
/-- all lists of so many visits, in list order -/
def rowsI (m : Nat) : Nat → List (List Int)
  | 0 => [[]]
  | t + 1 => (rowsI m t).flatMap fun one => (List.range m).map fun p : Nat => one ++ [(p : Int)]
def stt (m : Nat) (r : List Int) : Option Int × List (Option Int) := (r.head?, (List.range m).map fun p : Nat => nx r (p : Int))
/-- a list for each effect -/
def reps : Nat → List (List Int)
  | 1 => [[], [0]]
  | 2 => [[], [0], [1], [0, 1], [1, 0], [0, 1, 0], [1, 0, 1]]
  | _ => [[], [0], [1], [2], [0, 1], [0, 2], [1, 0], [1, 2], [2, 0], [2, 1], [0, 1, 0], [0, 1, 2], [0, 2, 0], [0, 2, 1], [1, 0, 1], [1, 0, 2], [1, 2, 0], [1, 2, 1], [2, 0, 1], [2, 0, 2], [2, 1, 0], [2, 1, 2], [0, 1, 0, 2], [0, 1, 2, 0], [0, 1, 2, 1], [0, 2, 0, 1], [0, 2, 1, 0], [0, 2, 1, 2], [1, 0, 1, 2], [1, 0, 2, 0], [1, 0, 2, 1], [1, 2, 0, 1], [1, 2, 0, 2], [1, 2, 1, 0], [2, 0, 1, 0], [2, 0, 1, 2], [2, 0, 2, 1], [2, 1, 0, 1], [2, 1, 0, 2], [2, 1, 2, 0], [0, 1, 0, 2, 0], [1, 0, 1, 2, 1], [2, 0, 2, 1, 2]]
def M3 (m : Nat) : Prop := m = 1 ∨ m = 2 ∨ m = 3
theorem by3 {Q : Nat → Prop} (h1 : Q 1) (h2 : Q 2) (h3 : Q 3) {m : Nat} (h : M3 m) : Q m := by rcases h with rfl | rfl | rfl <;> assumption
theorem M3.le {m : Nat} (h : M3 m) : 1 ≤ m ∧ m ≤ 3 := by rcases h with rfl | rfl | rfl <;> decide
def closB (m : Nat) : Bool := (reps m).all fun r => (List.range m).all fun a : Nat => (reps m).any fun q => decide (stt m q = stt m ((a : Int) :: r))
theorem clos_ok {m : Nat} (h : M3 m) : closB m = true := by3 (Q := fun m => closB m = true) (by decide +kernel) (by decide +kernel) (by decide +kernel) h
def pgB (m : Nat) : Bool := (reps m).all fun r => r.all fun x => decide (0 ≤ x) && decide (x < (m : Int))
theorem pg_ok {m : Nat} (h : M3 m) : pgB m = true := by3 (Q := fun m => pgB m = true) (by decide +kernel) (by decide +kernel) (by decide +kernel) h
theorem reps_pg {m : Nat} (h : M3 m) {q : List Int} (hq : q ∈ reps m) : Pg m q := fun x hx => by
  have := List.all_eq_true.mp (List.all_eq_true.mp (pg_ok h) q hq) x hx
  rw [Bool.and_eq_true, decide_eq_true_eq, decide_eq_true_eq] at this
  exact this
/-! the same effect -/
def Alk (r q : List Int) : Prop := r.head? = q.head? ∧ ∀ x, nx r x = nx q x
theorem Alk.refl (r : List Int) : Alk r r := ⟨rfl, fun _ => rfl⟩
theorem Alk.symm {r q : List Int} (h : Alk r q) : Alk q r := ⟨h.1.symm, fun x => (h.2 x).symm⟩
theorem Alk.trans {r q s : List Int} (h : Alk r q) (g : Alk q s) : Alk r s := ⟨h.1.trans g.1, fun x => (h.2 x).trans (g.2 x)⟩
theorem Alk.stt {r q : List Int} (h : Alk r q) (m : Nat) : stt m r = stt m q := by
  unfold W8.stt
  rw [h.1]
  congr 1
  exact List.map_congr_left fun p _ => h.2 _
theorem alk_of {m : Nat} {r q : List Int} (hr : Pg m r) (hq : Pg m q) (h : stt m r = stt m q) : Alk r q := by
  obtain ⟨h1, h2⟩ := Prod.mk.inj h
  refine ⟨h1, fun x => ?_⟩
  by_cases c : 0 ≤ x ∧ x < (m : Int)
  · have e := congrArg (fun l => l[x.toNat]?) h2
    have hx : x.toNat < m := by omega
    have e2 : ((x.toNat : Nat) : Int) = x := by omega
    simp only [List.getElem?_map, List.getElem?_range hx, Option.map_some, e2] at e
    exact Option.some.inj e
  · have a : nx r x = none := nx_none_iff.mpr fun m => c (hr x m)
    have b : nx q x = none := nx_none_iff.mpr fun m => c (hq x m)
    rw [a, b]
theorem Alk.headD {r q : List Int} (h : Alk r q) (a : Int) : r.headD a = q.headD a := by
  rw [List.headD_eq_head?_getD, List.headD_eq_head?_getD, h.1]
theorem Alk.nil {r q : List Int} (h : Alk r q) : r = [] ↔ q = [] := by
  have e := h.1
  cases r <;> cases q <;> simp at e ⊢
theorem Alk.cons {r q : List Int} (h : Alk r q) (a : Int) : Alk (a :: r) (a :: q) := by
  refine ⟨rfl, fun x => ?_⟩
  cases e : nx r x with
  | some y => rw [nx_some e, nx_some ((h.2 x).symm.trans e)]
  | none => rw [nx_none e, nx_none ((h.2 x).symm.trans e), h.headD]
theorem rep_of {m : Nat} (h : M3 m) : ∀ {r : List Int}, Pg m r → ∃ q ∈ reps m, Alk r q
  | [], _ => ⟨[], by rcases h with rfl | rfl | rfl <;> decide, Alk.refl _⟩
  | a :: r, hp => by
    obtain ⟨q, hq, hA⟩ := rep_of h (r := r) fun x hx => hp x (List.mem_cons_of_mem _ hx)
    have ha := hp a List.mem_cons_self
    have c := List.all_eq_true.mp (List.all_eq_true.mp (clos_ok h) q hq) a.toNat (List.mem_range.mpr (by omega))
    obtain ⟨u, hu, e⟩ := List.any_eq_true.mp c
    have e := of_decide_eq_true e
    rw [show ((a.toNat : Nat) : Int) = a by omega] at e
    refine ⟨u, hu, (hA.cons a).trans (alk_of (m := m) (fun x hx => ?_) (reps_pg h hu) e.symm)⟩
    rcases List.mem_cons.mp hx with rfl | hx
    · exact ha
    · exact reps_pg h hq x hx
theorem Alk.mem {r q : List Int} (h : Alk r q) {x : Int} : x ∈ r ↔ x ∈ q := by
  have e := h.2 x
  constructor
  · intro m
    exact Classical.byContradiction fun n => nx_none_iff.mp (e.trans (nx_none_iff.mpr n)) m
  · intro m
    exact Classical.byContradiction fun n => nx_none_iff.mp (e.symm.trans (nx_none_iff.mpr n)) m
theorem ch_alk {r q : List Int} (h : Alk r q) : ∀ (n : Nat) {p : Int}, (ch r p).length ≤ n → p ∈ r → ch r p = ch q p
  | 0, p, hn, hp => by
    obtain ⟨y, hy⟩ := nx_mem hp
    obtain ⟨t, ht⟩ := ch_hd hy
    rw [ht] at hn
    simp at hn
  | n + 1, p, hn, hp => by
    obtain ⟨y, hy⟩ := nx_mem hp
    obtain ⟨a1, a2⟩ := ch_next hy
    obtain ⟨b1, b2⟩ := ch_next ((h.2 p).symm.trans hy)
    by_cases c : y = p
    · rw [a1 c, b1 c]
    · rw [a2 c, b2 c, ch_alk h n (by rw [a2 c, List.length_cons] at hn; omega) (mem_nx hy).2]
theorem ef_alk {r q : List Int} (h : Alk r q) : ∀ P : List Int, ef r P = ef q P
  | [] => by
    have e := h.1
    cases r with
    | nil =>
      cases q with
      | nil => rfl
      | cons b u => simp at e
    | cons a t =>
      cases q with
      | nil => simp at e
      | cons b u =>
        obtain rfl : a = b := by simpa using e
        exact ch_alk h _ (Nat.le_refl _) List.mem_cons_self
  | p :: P => by
    show (if p ∈ r then ch r p else p :: ef r P) = if p ∈ q then ch q p else p :: ef q P
    by_cases c : p ∈ r
    · rw [if_pos c, if_pos (h.mem.mp c)]
      exact ch_alk h _ (Nat.le_refl _) c
    · rw [if_neg c, if_neg fun m => c (h.mem.mpr m), ef_alk h P]
theorem Alk.exs {r q : List Int} (h : Alk r q) : EF.exs r = EF.exs q := exs_congr h.2
theorem alk_exs {r q : List Int} (hr : Pg 40 r) (hq : Pg 40 q) (h : r.head? = q.head?) (e : EF.exs r = EF.exs q) : Alk r q := by
  refine ⟨h, fun x => ?_⟩
  cases c : nx r x with
  | some y =>
    have := (mem_exs hr).mpr c
    rw [e] at this
    exact ((mem_exs hq).mp this).symm
  | none =>
    cases d : nx q x with
    | none => rfl
    | some y =>
      have := (mem_exs hq).mpr d
      rw [← e] at this
      rw [(mem_exs hr).mp this] at c
      cases c
theorem Alk.few {r q : List Int} (h : Alk r q) : EF.few r = EF.few q := few_congr h.exs (h.headD 0) h.nil
theorem Alk.frL {r q : List Int} (h : Alk r q) : EF.frL r = EF.frL q := by unfold EF.frL; rw [h.exs, h.headD]
theorem pg_40 {m : Nat} (h : M3 m) {r : List Int} (hr : Pg m r) : Pg 40 r := fun x hx => by
  have := hr x hx
  have := h.le
  omega
/-! all trails -/
def lay (m : Nat) : Nat → List (List Int)
  | 0 => [[]]
  | k + 1 => (lay m k).flatMap fun one => ((List.range m).filter fun p : Nat => !decide ((p : Int) ∈ one)).map fun p : Nat => one ++ [(p : Int)]
def trls (m : Nat) : Nat → List (List Int)
  | 0 => [[]]
  | k + 1 => trls m k ++ lay m (k + 1)
def trails (m : Nat) : List (List Int) := trls (m + 1) (m + 1)
def ends (m : Nat) (r : List Int) : List (List Int) := (trails m).map fun t => ef r t
def endsB (m : Nat) : Bool := (reps m).all fun r => (reps m).all fun q => decide (r = q) || (trails m).any fun t => !decide (ef r t = ef q t)
theorem ends_ok {m : Nat} (h : M3 m) : endsB m = true := by3 (Q := fun m => endsB m = true) (by decide +kernel) (by decide +kernel) (by decide +kernel) h
theorem ends_iff {m : Nat} (h : M3 m) {r s : List Int} (hr : Pg m r) (hs : Pg m s) : ends m r = ends m s ↔ Alk r s := by
  constructor
  · intro e
    obtain ⟨q, hq, aq⟩ := rep_of h hr
    obtain ⟨u, hu, au⟩ := rep_of h hs
    have c := List.all_eq_true.mp (List.all_eq_true.mp (ends_ok h) q hq) u hu
    rcases Bool.or_eq_true_iff.mp c with c | c
    · obtain rfl := of_decide_eq_true c
      exact aq.trans au.symm
    · exfalso
      obtain ⟨t, ht, ne⟩ := List.any_eq_true.mp c
      obtain ⟨i, hi⟩ := List.getElem?_of_mem ht
      have e2 := congrArg (fun l => l[i]?) e
      unfold ends at e2
      simp only [List.getElem?_map, hi, Option.map_some, Option.some.injEq] at e2
      rw [ef_alk aq, ef_alk au] at e2
      rw [decide_eq_true e2] at ne
      cases ne
  · intro a
    unfold ends
    exact List.map_congr_left fun t _ => ef_alk a t
/-! the lists of visits -/
theorem mem_rows {m : Nat} : ∀ {t : Nat} {l : List Int}, l ∈ rowsI m t ↔ l.length = t ∧ Pg m l
  | 0, l => by
    constructor
    · intro h
      obtain rfl : l = [] := List.mem_singleton.mp h
      exact ⟨rfl, fun x hx => by cases hx⟩
    · rintro ⟨h, _⟩
      rw [List.length_eq_zero_iff.mp h]
      exact List.mem_singleton.mpr rfl
  | t + 1, l => by
    constructor
    · intro h
      obtain ⟨one, h1, h2⟩ := List.mem_flatMap.mp h
      obtain ⟨p, hp, rfl⟩ := List.mem_map.mp h2
      obtain ⟨e, pg⟩ := mem_rows.mp h1
      have hp := List.mem_range.mp hp
      refine ⟨by rw [List.length_append, List.length_singleton, e], fun x hx => ?_⟩
      rcases List.mem_append.mp hx with hx | hx
      · exact pg x hx
      · rw [List.mem_singleton.mp hx]
        omega
    · rintro ⟨e, pg⟩
      have ne : l ≠ [] := fun z => by rw [z] at e; cases e
      have hx := pg _ (List.getLast_mem ne)
      refine List.mem_flatMap.mpr ⟨l.dropLast, mem_rows.mpr ⟨by rw [List.length_dropLast, e]; rfl, fun x hx => pg x (List.dropLast_subset _ hx)⟩, List.mem_map.mpr ⟨(l.getLast ne).toNat, List.mem_range.mpr (by omega), ?_⟩⟩
      rw [show (((l.getLast ne).toNat : Nat) : Int) = l.getLast ne by omega]
      exact List.dropLast_concat_getLast ne
/-! shortest lists -/
def fc : Nat → Nat
  | 0 => 1
  | n + 1 => fc n * (n + 1)
/-- the order with an index -/
def permN : Nat → List Int → Nat → List Int
  | 0, _, _ => []
  | k + 1, left, i => left.getD (i / fc k) 0 :: permN k (left.eraseIdx (i / fc k)) (i % fc k)
def rankN : List Int → List Int → Nat
  | _, [] => 0
  | left, x :: xs => left.idxOf x * fc (left.length - 1) + rankN (left.erase x) xs
def ord (r l : List Int) : List Int := l.filter fun x => decide (x ∈ frL r)
def S (m : Nat) (r : List Int) : List (List Int) := (rowsI m (few r)).filter fun l => decide (stt m l = stt m r)
def chk (m : Nat) (q : List Int) : Bool := decide (few q ≤ 5) && ((List.range (few q)).all fun t => (rowsI m t).all fun l => !decide (stt m l = stt m q)) && decide ((S m q).length = fc (frL q).length) &&
  (List.range (S m q).length).all fun i => decide (ord q ((S m q).getD i []) = permN (frL q).length (frL q) i) && decide (rankN (frL q) (ord q ((S m q).getD i [])) = i)
def chkB (m : Nat) : Bool := (reps m).all (chk m)
theorem chk_ok {m : Nat} (h : M3 m) : chkB m = true := by3 (Q := fun m => chkB m = true) (by decide +kernel) (by decide +kernel) (by decide +kernel) h
theorem S_alk {m : Nat} {r q : List Int} (h : Alk r q) : S m r = S m q := by
  unfold S
  rw [h.few, h.stt m]
structure SOk (m : Nat) (r : List Int) : Prop where
  few5 : few r ≤ 5
  none : ∀ t, t < few r → ∀ l ∈ rowsI m t, stt m l ≠ stt m r
  len : (S m r).length = fc (frL r).length
  ord : ∀ i l, (S m r)[i]? = some l → ord r l = permN (frL r).length (frL r) i ∧ rankN (frL r) (ord r l) = i
theorem s_ok {m : Nat} (h : M3 m) {r : List Int} (hr : Pg m r) : SOk m r := by
  obtain ⟨q, hq, a⟩ := rep_of h hr
  have c := List.all_eq_true.mp (chk_ok h) q hq
  unfold chk at c
  rw [Bool.and_eq_true, Bool.and_eq_true, Bool.and_eq_true] at c
  obtain ⟨⟨⟨c1, c2⟩, c3⟩, c4⟩ := c
  refine ⟨by rw [a.few]; exact of_decide_eq_true c1, fun t ht l hl e => ?_, ?_, fun i l e => ?_⟩
  · rw [a.few] at ht
    have := List.all_eq_true.mp (List.all_eq_true.mp c2 t (List.mem_range.mpr ht)) l hl
    rw [a.stt m] at e
    rw [decide_eq_true e] at this
    cases this
  · rw [S_alk a, a.frL]; exact of_decide_eq_true c3
  · rw [S_alk a] at e
    have hi := (List.getElem?_eq_some_iff.mp e).1
    have := List.all_eq_true.mp c4 i (List.mem_range.mpr hi)
    rw [Bool.and_eq_true, decide_eq_true_eq, decide_eq_true_eq, List.getD_eq_getElem?_getD, e] at this
    have eo : W8.ord r l = W8.ord q l := by unfold W8.ord; rw [a.frL]
    rw [eo, a.frL]
    exact this
theorem mem_S {m : Nat} {r l : List Int} (hr : Pg m r) : l ∈ S m r ↔ l.length = few r ∧ Pg m l ∧ Alk l r := by
  unfold S
  rw [List.mem_filter, mem_rows, decide_eq_true_eq]
  constructor
  · rintro ⟨⟨a, b⟩, c⟩
    exact ⟨a, b, alk_of b hr c⟩
  · rintro ⟨a, b, c⟩
    exact ⟨⟨a, b⟩, c.stt m⟩
/-- the list with an order is the one with its index -/
theorem S_at {m : Nat} (h : M3 m) {r l : List Int} (hr : Pg m r) (hl : l ∈ S m r) {i : Nat} (hi : i < (S m r).length) (e : ord r l = permN (frL r).length (frL r) i) : (S m r)[i]? = some l := by
  have K := s_ok h hr
  obtain ⟨j, hj⟩ := List.getElem?_of_mem hl
  obtain ⟨u, hu⟩ : ∃ u, (S m r)[i]? = some u := ⟨_, List.getElem?_eq_getElem hi⟩
  obtain ⟨_, b⟩ := K.ord j l hj
  obtain ⟨c, d⟩ := K.ord i u hu
  rw [e, ← c, d] at b
  rw [b]
  exact hj
theorem S_rank {m : Nat} (h : M3 m) {r l : List Int} (hr : Pg m r) {i : Nat} (e : (S m r)[i]? = some l) : rankN (frL r) (ord r l) = i := ((s_ok h hr).ord i l e).2
def few1 (r : List Int) : Nat := few r + 1
/-! all effects -/
def fs : Nat → List (List Int)
  | 1 => [[0]]
  | 2 => [[0, 1], [1, 0], [0, 1, 0], [1, 0, 1]]
  | _ => [[0, 1, 2], [0, 2, 1], [1, 0, 2], [1, 2, 0], [2, 0, 1], [2, 1, 0], [0, 1, 0, 2], [0, 1, 2, 0], [0, 1, 2, 1], [0, 2, 0, 1], [0, 2, 1, 0], [0, 2, 1, 2], [1, 0, 1, 2], [1, 0, 2, 0], [1, 0, 2, 1], [1, 2, 0, 1], [1, 2, 0, 2], [1, 2, 1, 0], [2, 0, 1, 0], [2, 0, 1, 2], [2, 0, 2, 1], [2, 1, 0, 1], [2, 1, 0, 2], [2, 1, 2, 0], [0, 1, 0, 2, 0], [1, 0, 1, 2, 1], [2, 0, 2, 1, 2]]
def srt : Nat → List (List Int)
  | 1 => [[0]]
  | 2 => [[0, 1, 0], [0, 1], [1, 0], [1, 0, 1]]
  | _ => [[0, 1, 0, 2, 0], [0, 2, 1, 0], [0, 1, 2, 0], [0, 2, 0, 1], [0, 1, 2, 1], [0, 1, 2], [0, 1, 0, 2], [0, 2, 1], [0, 2, 1, 2], [1, 0, 2, 0], [1, 2, 1, 0], [1, 2, 0], [1, 2, 0, 1], [1, 0, 1, 2, 1], [1, 0, 1, 2], [1, 0, 2], [1, 0, 2, 1], [1, 2, 0, 2], [2, 0, 1, 0], [2, 1, 0], [2, 1, 2, 0], [2, 0, 1], [2, 1, 0, 1], [2, 0, 1, 2], [2, 1, 0, 2], [2, 0, 2, 1], [2, 0, 2, 1, 2]]
/-- one more list is looked at -/
def acc1 (m : Nat) (f : List (List Int)) (r : List Int) : List (List Int) := if ((List.range m).all fun p : Nat => (nx r (p : Int)).isSome) && !(f.any fun q => decide (stt m q = stt m r)) then f ++ [r] else f
def accs (m : Nat) (f : List (List Int)) (rs : List (List Int)) : List (List Int) := rs.foldl (acc1 m) f
/-- behind the lists of up to t visits -/
def upTo (m : Nat) : Nat → List (List Int)
  | 0 => []
  | t + 1 => accs m (upTo m t) (rowsI m (t + 1))
def fsB (m : Nat) : Bool := decide (upTo m (2 * m - 1) = fs m) && decide ((fs m).length = m ^ m) && (srt m).isPerm (fs m)
theorem fs_ok {m : Nat} (h : M3 m) : fsB m = true := by3 (Q := fun m => fsB m = true) (by decide +kernel) (by decide +kernel) (by decide +kernel) h
def enc (r : List Int) : PyData := .tuple [.int (r.headD 0), .list ((exs r).map fun q => .tuple [.int q.1, .int q.2])]
def srtB (m : Nat) : Bool := (List.range (srt m).length).all fun j => (List.range j).all fun i => PySem.W.dataLt (enc ((srt m).getD i [])) (enc ((srt m).getD j []))
theorem srt_ok {m : Nat} (h : M3 m) : srtB m = true := by3 (Q := fun m => srtB m = true) (by decide +kernel) (by decide +kernel) (by decide +kernel) h
def nthB (m : Nat) : Bool := (List.range (m ^ m)).all fun a => decide ((srt m).getD a [] ≠ []) && decide (((srt m).getD a []).headD 0 = ((a / m ^ (m - 1) : Nat) : Int)) && decide (exs ((srt m).getD a []) = FO.zs (FO.exitsN m a))
theorem nth_ok {m : Nat} (h : M3 m) : nthB m = true := by3 (Q := fun m => nthB m = true) (by decide +kernel) (by decide +kernel) (by decide +kernel) h
theorem le_trans' (a b c : List Int) (h1 : PySem.W.dataLe false enc a b = true) (h2 : PySem.W.dataLe false enc b c = true) : PySem.W.dataLe false enc a c = true := by
  rw [PySem.W.dataLe_eq] at h1 h2 ⊢
  have h1 : PySem.W.dataLt (enc b) (enc a) = false := by simpa using h1
  have h2 : PySem.W.dataLt (enc c) (enc b) = false := by simpa using h2
  show (!PySem.W.dataLt (enc c) (enc a)) = true
  cases e : PySem.W.dataLt (enc c) (enc a) with
  | false => rfl
  | true =>
    rcases lex_negTrans _ (PySem.W.keyToks (enc b)) _ e with z | z
    · exact absurd (show PySem.W.dataLt (enc c) (enc b) = true from z) (by rw [h2]; decide)
    · exact absurd (show PySem.W.dataLt (enc b) (enc a) = true from z) (by rw [h1]; decide)
theorem lt_asymm' {x y : PyData} (h : PySem.W.dataLt x y = true) : PySem.W.dataLt y x = false := by
  cases e : PySem.W.dataLt y x with
  | false => rfl
  | true =>
    have := lex_trans _ _ _ h e
    rw [lex_irrefl] at this
    cases this
theorem le_total' (a b : List Int) : (PySem.W.dataLe false enc a b || PySem.W.dataLe false enc b a) = true := by
  rw [PySem.W.dataLe_eq]
  show (!PySem.W.dataLt (enc b) (enc a) || !PySem.W.dataLt (enc a) (enc b)) = true
  cases e : PySem.W.dataLt (enc b) (enc a) with
  | false => rfl
  | true => rw [lt_asymm' e]; rfl
theorem perm_sorted {α : Type} {le : α → α → Bool} : ∀ {s m : List α}, s.Perm m → s.Pairwise (fun a b => le a b = true) → m.Pairwise (fun a b => le a b = true ∧ le b a = false) → s = m
  | s, [], p, _, _ => p.eq_nil
  | [], b :: m, p, _, _ => absurd p.symm.eq_nil (by simp)
  | a :: s, b :: m, p, hs, hm => by
    rw [List.pairwise_cons] at hs hm
    have e : a = b := by
      have h1 : a ∈ b :: m := p.mem_iff.mp List.mem_cons_self
      have h2 : b ∈ a :: s := p.mem_iff.mpr List.mem_cons_self
      rcases List.mem_cons.mp h1 with h1 | h1
      · exact h1
      · rcases List.mem_cons.mp h2 with h2 | h2
        · exact h2.symm
        · have := (hm.1 a h1).2
          rw [hs.1 b h2] at this
          cases this
    subst e
    rw [perm_sorted (List.Perm.cons_inv p) hs.2 hm.2]
theorem srt_sorts {m : Nat} (h : M3 m) : (fs m).mergeSort (PySem.W.dataLe false enc) = srt m := by
  have c := fs_ok h
  unfold fsB at c
  rw [Bool.and_eq_true, Bool.and_eq_true] at c
  have p : (srt m).Perm (fs m) := List.isPerm_iff.mp c.2
  refine perm_sorted ((List.mergeSort_perm _ _).trans p.symm) (List.pairwise_mergeSort le_trans' le_total' _) ?_
  rw [List.pairwise_iff_getElem]
  intro i j hi hj hij
  have b := List.all_eq_true.mp (List.all_eq_true.mp (srt_ok h) j (List.mem_range.mpr hj)) i (List.mem_range.mpr hij)
  rw [List.getD_eq_getElem?_getD, List.getD_eq_getElem?_getD, List.getElem?_eq_getElem hi, List.getElem?_eq_getElem hj] at b
  have b : PySem.W.dataLt (enc (srt m)[i]) (enc (srt m)[j]) = true := b
  rw [PySem.W.dataLe_eq]
  exact ⟨by show (!PySem.W.dataLt _ _) = true; rw [lt_asymm' b]; rfl, by show (!PySem.W.dataLt _ _) = false; rw [b]; rfl⟩
theorem srt_len {m : Nat} (h : M3 m) : (srt m).length = m ^ m := by
  have c := fs_ok h
  unfold fsB at c
  rw [Bool.and_eq_true, Bool.and_eq_true] at c
  rw [(List.isPerm_iff.mp c.2).length_eq]
  exact of_decide_eq_true c.1.2
theorem fs_len {m : Nat} (h : M3 m) : (fs m).length = m ^ m := by
  have c := fs_ok h
  unfold fsB at c
  rw [Bool.and_eq_true, Bool.and_eq_true] at c
  exact of_decide_eq_true c.1.2
theorem upTo_fs {m : Nat} (h : M3 m) : upTo m (2 * m - 1) = fs m := by
  have c := fs_ok h
  unfold fsB at c
  rw [Bool.and_eq_true, Bool.and_eq_true] at c
  exact of_decide_eq_true c.1.1
theorem srt_at {m : Nat} (h : M3 m) {a : Nat} (ha : a < m ^ m) : ∃ r, (srt m)[a]? = some r ∧ r ≠ [] ∧ r.headD 0 = ((a / m ^ (m - 1) : Nat) : Int) ∧ exs r = FO.zs (FO.exitsN m a) := by
  have c := List.all_eq_true.mp (nth_ok h) a (List.mem_range.mpr ha)
  have hl : a < (srt m).length := by rw [srt_len h]; exact ha
  rw [List.getD_eq_getElem?_getD, List.getElem?_eq_getElem hl] at c
  rw [Bool.and_eq_true, Bool.and_eq_true] at c
  exact ⟨_, List.getElem?_eq_getElem hl, of_decide_eq_true c.1.1, of_decide_eq_true c.1.2, of_decide_eq_true c.2⟩
theorem m27 {m : Nat} (h : M3 m) : m ^ m ≤ 27 := by3 (Q := fun m => m ^ m ≤ 27) (by decide) (by decide) (by decide) h
/-! in words of the effects -/
theorem full_iff {m : Nat} (h : M3 m) {r : List Int} (hr : Pg m r) : ((List.range m).all fun p : Nat => (nx r (p : Int)).isSome) = decide ((exs r).length = m) := by
  have c : ∀ q ∈ reps m, ((List.range m).all fun p : Nat => (nx q (p : Int)).isSome) = decide ((exs q).length = m) := by
    have d : ((reps m).all fun q => decide (((List.range m).all fun p : Nat => (nx q (p : Int)).isSome) = decide ((exs q).length = m))) = true := by3 (Q := fun m => ((reps m).all fun q => decide (((List.range m).all fun p : Nat => (nx q (p : Int)).isSome) = decide ((exs q).length = m))) = true) (by decide +kernel) (by decide +kernel) (by decide +kernel) h
    exact fun q hq => of_decide_eq_true (List.all_eq_true.mp d q hq)
  obtain ⟨q, hq, a⟩ := rep_of h hr
  rw [a.exs, ← c q hq]
  congr 1
  funext p
  rw [a.2]
theorem stt_iff {m : Nat} (h : M3 m) {r q : List Int} (hr : Pg m r) (hq : Pg m q) : stt m r = stt m q ↔ r.head? = q.head? ∧ exs r = exs q := by
  constructor
  · intro e
    have a := alk_of hr hq e
    exact ⟨a.1, a.exs⟩
  · rintro ⟨a, b⟩
    exact (alk_exs (pg_40 h hr) (pg_40 h hq) a b).stt m
theorem accs_pg {m : Nat} : ∀ {rs f : List (List Int)}, (∀ r ∈ f, Pg m r ∧ r ≠ []) → (∀ r ∈ rs, Pg m r ∧ r ≠ []) → ∀ r ∈ accs m f rs, Pg m r ∧ r ≠ []
  | [], f, hf, _ => hf
  | a :: rs, f, hf, hr => by
    show ∀ r ∈ accs m (acc1 m f a) rs, _
    refine accs_pg (fun r hm => ?_) fun r hm => hr r (List.mem_cons_of_mem _ hm)
    unfold acc1 at hm
    split at hm
    · rcases List.mem_append.mp hm with hm | hm
      · exact hf r hm
      · rw [List.mem_singleton.mp hm]; exact hr a List.mem_cons_self
    · exact hf r hm
theorem upTo_pg {m : Nat} : ∀ t, ∀ r ∈ upTo m t, Pg m r ∧ r ≠ []
  | 0 => fun r h => by cases h
  | t + 1 => accs_pg (upTo_pg t) fun r hr => by
    obtain ⟨e, p⟩ := mem_rows.mp hr
    exact ⟨p, fun z => by rw [z] at e; cases e⟩
theorem accs_len {m : Nat} : ∀ {rs f : List (List Int)}, (accs m f rs).length ≤ f.length + rs.length
  | [], f => Nat.le_refl _
  | a :: rs, f => by
    show (accs m (acc1 m f a) rs).length ≤ _
    have h1 := accs_len (m := m) (rs := rs) (f := acc1 m f a)
    have h2 : (acc1 m f a).length ≤ f.length + 1 := by
      unfold acc1
      split
      · rw [List.length_append, List.length_singleton]; exact Nat.le_refl _
      · omega
    rw [List.length_cons]
    omega
end W8

set_option Elab.async false
set_option linter.all false
set_option maxRecDepth 100000
set_option maxHeartbeats 4000000
/-! x in a list of data; sorted of effects as tuples (k84) -/
namespace BC
open PySem PySem.Spec PyProof.Rows L2 Evl
theorem units65 {k : Nat} {A : Around} (r : Room k A) : A.units + 65 < cLine := by have := r.un; omega
theorem k_inD {X : Cx} {K : PySem.W.Frag} (hK : X.K = K) (hu : X.A.units + 65 < cLine) : OpR X (compareOp .In) (rInD K) := by subst hK; exact op_inD hu
theorem k_notInD {X : Cx} {K : PySem.W.Frag} (hK : X.K = K) (hu : X.A.units + 65 < cLine) : OpR X (compareOp .NotIn) (rNotInD K) := by subst hK; exact op_notInD hu
def rSortE (K : PySem.W.Frag) : List V → Hp → VK → Prop := fun xs H Q => ∃ (a : Addr) (rs : List Addr) (F : List (List Int)), xs = [.ref a] ∧ H a = some (.lst (rs.map V.ref)) ∧ rs.length = F.length ∧ (∀ (i : Nat) (r : Addr) (b : List Int), rs[i]? = some r → F[i]? = some b → Dp K H (.ref r) (W8.enc b)) ∧
  ∀ p (rs' : List Addr), H p = none → rs'.length = F.length → (∀ (i : Nat) (r : Addr) (b : List Int), rs'[i]? = some r → (F.mergeSort (PySem.W.dataLe false W8.enc))[i]? = some b → ∃ j : Nat, rs[j]? = some r ∧ F[j]? = some b) → Q (.ref p) (upd H p (.lst (rs'.map V.ref)))
theorem alike_prs : ∀ as bs : List (Int × Int), PySem.W.alikeAll (as.map fun q => .tuple [.int q.1, .int q.2]) (bs.map fun q => .tuple [.int q.1, .int q.2]) = true
  | [], _ => by simp [PySem.W.alikeAll]
  | _ :: _, [] => by simp [PySem.W.alikeAll]
  | a :: as, b :: bs => by
    rw [List.map_cons, List.map_cons, PySem.W.alikeAll, alike_prs as bs]
    simp [PySem.W.alike, PySem.W.alikeAll]
theorem enc_alike (a b : List Int) : PySem.W.alike (W8.enc a) (W8.enc b) = true := by
  unfold W8.enc
  simp only [PySem.W.alike, PySem.W.alikeAll]
  rw [alike_prs]
  rfl
theorem prs_depth : ∀ as : List (Int × Int), PyData.depthAll (as.map fun q => .tuple [.int q.1, .int q.2]) ≤ 1
  | [] => by simp [PyData.depthAll]
  | a :: as => by
    rw [List.map_cons, PyData.depthAll]
    have := prs_depth as
    simp only [PyData.depth, PyData.depthAll]
    omega
theorem enc_depth (a : List Int) : (W8.enc a).depth ≤ 3 := by
  unfold W8.enc
  have := prs_depth (EF.exs a)
  simp only [PyData.depth, PyData.depthAll]
  omega
theorem eachE_of {P : Addr → List Int → Prop} : ∀ (rs : List Addr) (ls : List (List Int)), rs.length = ls.length → (∀ (i : Nat) (r : Addr) (l : List Int), rs[i]? = some r → ls[i]? = some l → P r l) →
    PySem.W.EachIs (fun (v : Value) (b : List Int) => ∃ r, v = .ref r ∧ P r b) (rs.map Value.ref) ls
  | [], [], _, _ => .nil
  | r :: rs, l :: ls, hl, h => .cons ⟨r, rfl, h 0 r l rfl rfl⟩ (eachE_of rs ls (by simpa using hl) fun i r l a b => h (i + 1) r l a b)
theorem eachE_to {P : Addr → List Int → Prop} : ∀ {out : List Value} {bs : List (List Int)}, PySem.W.EachIs (fun (v : Value) (b : List Int) => ∃ r, v = .ref r ∧ P r b) out bs → ∃ rs : List Addr, out = rs.map Value.ref ∧ rs.length = bs.length ∧ ∀ (i : Nat) (r : Addr) (b : List Int), rs[i]? = some r → bs[i]? = some b → P r b
  | _, _, .nil => ⟨[], rfl, rfl, fun i r b e => by simp at e⟩
  | _, _, .cons h t => by
    obtain ⟨r, rfl, hp⟩ := h
    obtain ⟨rs, rfl, hl, ha⟩ := eachE_to t
    refine ⟨r :: rs, rfl, by rw [List.length_cons, List.length_cons, hl], fun i r' b' e1 e2 => ?_⟩
    match i with
    | 0 => cases e1; cases e2; exact hp
    | i + 1 => exact ha i r' b' e1 e2
theorem vals_of_refs : ∀ rs : List Addr, Vals (rs.map V.ref) (rs.map Value.ref)
  | [] => .nil
  | r :: rs => .cons rfl (vals_of_refs rs)
theorem cr_sortE {X : Cx} (hc : X.calm = true) (hu : X.A.units + 64 < cLine) : CallR X (.builtin "sorted") (rSortE X.K) := by
  intro pins s σ H xs us Q I r h
  obtain ⟨a, rs, F, rfl, ha, hl, hd, q⟩ := h
  obtain rfl := Vals.ref1 r
  obtain ⟨hz, vs, c, rv, ho⟩ := (show ObjOk X.prog X.w H s.heap a (.lst (rs.map V.ref)) from I.hok a _ ha)
  obtain rfl := vals_refs' rv
  rw [List.length_map] at hz
  have e1 := eachE_of (P := fun r b => ∃ j : Nat, rs[j]? = some r ∧ F[j]? = some b) rs F hl fun i r l a b => ⟨i, a, b⟩
  have e2 : PySem.W.EachIs (fun (v : Value) (b : List Int) => ∃ as, Reads s.heap v (W8.enc b) as) (rs.map Value.ref) F := e1.mono fun v b h => by
    obtain ⟨r, rfl, j, hp1, hp2⟩ := h
    exact Dp.reads I _ (.ref r) (.ref r) (hd j r b hp1 hp2) rfl
  refine PySem.W.sorted_data (enc := W8.enc) ⟨_, ho, rfl, _, rfl⟩ e1 e2 (PySem.W.AllAlike.of fun b b' => enc_alike b b') (PySem.W.Sortable.tuples fun b => ⟨_, _, rfl⟩) (by rw [← hl]; exact hz)
    (fun b _ => by have := enc_depth b; omega) fun out ho2 e3 => ?_
  obtain ⟨rs', rfl, hl', hd'⟩ := eachE_to e3
  rw [List.length_mergeSort] at hl'
  obtain ⟨ep, he'⟩ := PyProof.Rows.sortedAll_at s.heap (rs.map Value.ref) (rs'.map Value.ref).toArray
  have hn : H (s.heap.objs.size + 1) = none := I.hok.fresh (Nat.le_succ _)
  exact ⟨.ref _, upd H (s.heap.objs.size + 1) (.lst (rs'.map V.ref)), I.laid (t' := s.toks) (fun _ _ => PyProof.Rows.sortedAll_old) (Nat.le_succ _) ⟨by rw [List.length_map, hl', ← hl]; exact hz, rs'.map Value.ref, ep, vals_of_refs rs', he'⟩, rfl, q _ rs' hn hl' hd'⟩
theorem k_sortE {X : Cx} {K : PySem.W.Frag} (hK : X.K = K) (hc : X.calm = true) (hu : X.A.units + 64 < cLine) : CallR X (.builtin "sorted") (rSortE K) := by subst hK; exact cr_sortE hc hu
end BC

set_option Elab.async false
set_option linter.all false
set_option maxRecDepth 100000
set_option maxHeartbeats 4000000
/-! sorted of integers, any length -/
namespace BC
open PySem PySem.Spec PyProof.Rows L2 Evl
def rSortI (K : PySem.W.Frag) : List V → Hp → VK → Prop := fun vs H Q => ∃ (a : Addr) (ns : List Int), vs = [V.ref a] ∧ SqL K H a (ns.map V.int) ∧ ns.length ≤ 100000 ∧
  ∀ (ns' : List Int) (p : Addr), ns'.Perm ns → ns'.Pairwise (· ≤ ·) → H p = none → Q (.ref p) (upd H p (.lst (ns'.map V.int)))
theorem each_ints : ∀ {ns : List Int} {vs : List Value}, Vals (ns.map V.int) vs → PySem.W.EachIs (fun (v : Value) (b : Int) => L2.RelV (.int b) v) vs ns
  | [], _, .nil => .nil
  | n :: ns, _, .cons h t => .cons h (each_ints t)
theorem ints_each : ∀ {vs : List Value} {ns : List Int}, PySem.W.EachIs (fun (v : Value) (b : Int) => L2.RelV (.int b) v) vs ns → Vals (ns.map V.int) vs
  | _, _, .nil => .nil
  | _, _, .cons h t => .cons h (ints_each t)
theorem cr_sortI {X : Cx} (hu : X.A.units + 64 < cLine) : CallR X (.builtin "sorted") (rSortI X.K) := by
  intro pins s σ H xs us Q I r h
  obtain ⟨a, ns, rfl, hs, hl, q⟩ := h
  obtain ⟨its, rv, hI, _⟩ := I.list hs
  obtain rfl := Vals.ref1 r
  have e1 := each_ints rv
  have e2 : PySem.W.EachIs (fun (v : Value) (b : Int) => ∃ as, Reads s.heap v (PyData.int b) as) its ns := e1.mono fun v b h => by
    obtain ⟨t, rfl⟩ := h
    exact ⟨_, .int _ _⟩
  have hL : ns.length ≤ sizeLine := by rw [sizeLine_eq]; omega
  refine PySem.W.sorted_data (enc := PyData.int) hI.isList e1 e2 (PySem.W.AllAlike.of fun b b' => rfl) (PySem.W.Sortable.others fun b => ⟨nofun, nofun⟩) hL (fun b _ => by show X.A.units + 2 + 0 < cLine; omega) fun out ho2 e3 => ?_
  have hv := ints_each e3
  obtain ⟨ep, he'⟩ := PyProof.Rows.sortedAll_at s.heap its out.toArray
  have hn : H (s.heap.objs.size + 1) = none := I.hok.fresh (Nat.le_succ _)
  have hle : PySem.W.dataLe false PyData.int = fun a b : Int => decide (a ≤ b) := PySem.W.dataLe_int fun b : Int => b
  have hp : (ns.mergeSort (PySem.W.dataLe false PyData.int)).Perm ns := List.mergeSort_perm _ _
  have hs2 : (ns.mergeSort (PySem.W.dataLe false PyData.int)).Pairwise (· ≤ ·) := by
    rw [hle]
    refine (List.pairwise_mergeSort (fun a b c h1 h2 => ?_) (fun a b => ?_) ns).imp fun h => of_decide_eq_true h
    · exact decide_eq_true (Int.le_trans (of_decide_eq_true h1) (of_decide_eq_true h2))
    · rw [Bool.or_eq_true, decide_eq_true_eq, decide_eq_true_eq]
      exact Int.le_total a b
  exact ⟨.ref _, upd H (s.heap.objs.size + 1) (.lst ((ns.mergeSort (PySem.W.dataLe false PyData.int)).map V.int)), I.laid (t' := s.toks) (fun _ _ => PyProof.Rows.sortedAll_old) (Nat.le_succ _) ⟨by rw [List.length_map, List.length_mergeSort]; exact hL, out, ep, hv, he'⟩, rfl, q _ _ hp hs2 hn⟩
theorem k_sortI {X : Cx} {K : PySem.W.Frag} (hK : X.K = K) (hu : X.A.units + 64 < cLine) : CallR X (.builtin "sorted") (rSortI K) := by subst hK; exact cr_sortI hu
end BC

set_option Elab.async false
set_option linter.all false
set_option maxRecDepth 100000
set_option maxHeartbeats 4000000
namespace LW
open PySem PySem.Spec PyProof.Rows L2 BC Evl TR
def topS (i : Nat) : Stmt := PySem.Challenge.pw_breadcrumbs_k75_stays_and_cuts.main.body.getD i (.Pass ⟨0, 0, 0, 0⟩)
abbrev s_is_integer : Stmt := topS 4
theorem sc_is_integer : FnScope ["value", "least", "most"] ["value", "least", "most"] (defScope s_is_integer) := ⟨rfl, rfl, rfl, by decide +kernel, rfl, by decide +kernel, by decide +kernel⟩
abbrev s_is_page : Stmt := topS 8
theorem sc_is_page : FnScope ["value"] ["value"] (defScope s_is_page) := ⟨rfl, rfl, rfl, by decide +kernel, rfl, by decide +kernel, by decide +kernel⟩
abbrev s_is_visits : Stmt := topS 9
theorem sc_is_visits : FnScope ["value", "page"] ["value"] (defScope s_is_visits) := ⟨rfl, rfl, rfl, by decide +kernel, rfl, by decide +kernel, by decide +kernel⟩
abbrev s_check_visits : Stmt := topS 10
theorem sc_check_visits : FnScope ["visits"] ["visits"] (defScope s_check_visits) := ⟨rfl, rfl, rfl, by decide +kernel, rfl, by decide +kernel, by decide +kernel⟩
abbrev s_visited : Stmt := topS 11
theorem sc_visited : FnScope ["trail", "page"] ["trail", "page"] (defScope s_visited) := ⟨rfl, rfl, rfl, by decide +kernel, rfl, by decide +kernel, by decide +kernel⟩
abbrev s_stays : Stmt := topS 12
theorem sc_stays : FnScope ["visits", "found", "trail", "places", "index", "page", "kept", "place"] ["visits"] (defScope s_stays) := ⟨rfl, rfl, rfl, by decide +kernel, rfl, by decide +kernel, by decide +kernel⟩
abbrev s_cuts : Stmt := topS 13
theorem sc_cuts : FnScope ["visits", "found", "trail", "index", "page"] ["visits"] (defScope s_cuts) := ⟨rfl, rfl, rfl, by decide +kernel, rfl, by decide +kernel, by decide +kernel⟩
abbrev s_law_pool : Stmt := topS 15
theorem sc_law_pool : FnScope ["_law_script", "_law_k", "_law_cell"] ["_law_script", "_law_k"] (defScope s_law_pool) := ⟨rfl, rfl, rfl, by decide +kernel, rfl, by decide +kernel, by decide +kernel⟩
abbrev s_law_draw : Stmt := topS 16
theorem sc_law_draw : FnScope ["_law_pool_here", "_law_many", "_law_mixed", "_law_digit"] ["_law_pool_here", "_law_many"] (defScope s_law_draw) := ⟨rfl, rfl, rfl, by decide +kernel, rfl, by decide +kernel, by decide +kernel⟩
abbrev s_law_line : Stmt := topS 17
theorem sc_law_line : FnScope ["_law_pool_here", "_law_script", "_law_wide", "_law_turn", "_law_many", "_law_style", "_law_low", "_law_found", "_law_last", "_law_spot", "_law_fresh", "_law_step"] ["_law_pool_here", "_law_script"] (defScope s_law_line) := ⟨rfl, rfl, rfl, by decide +kernel, rfl, by decide +kernel, by decide +kernel⟩
abbrev s_law_after : Stmt := topS 18
theorem sc_law_after : FnScope ["_law_row", "_law_spot"] ["_law_row", "_law_spot"] (defScope s_law_after) := ⟨rfl, rfl, rfl, by decide +kernel, rfl, by decide +kernel, by decide +kernel⟩
abbrev s_law_trails : Stmt := topS 19
theorem sc_law_trails : FnScope ["_law_row", "_law_line_here", "_law_found", "_law_spot"] ["_law_row", "_law_line_here"] (defScope s_law_trails) := ⟨rfl, rfl, rfl, by decide +kernel, rfl, by decide +kernel, by decide +kernel⟩
abbrev s_law_due : Stmt := topS 20
theorem sc_law_due : FnScope ["_law_line_here", "_law_rows", "_law_kept", "_law_lost", "_law_at", "_law_spot", "_law_later", "_law_far"] ["_law_line_here"] (defScope s_law_due) := ⟨rfl, rfl, rfl, by decide +kernel, rfl, by decide +kernel, by decide +kernel⟩
abbrev s_law_right : Stmt := topS 21
theorem sc_law_right : FnScope ["_law_line_here", "_law_told", "_law_before", "_law_due_here", "_law_at", "_law_row"] ["_law_line_here"] (defScope s_law_right) := ⟨rfl, rfl, rfl, by decide +kernel, rfl, by decide +kernel, by decide +kernel⟩
abbrev s_law : Stmt := topS 22
theorem sc_law : FnScope ["_law_script", "_law_k", "_law_pool_here", "_law_line_here"] ["_law_script"] (defScope s_law) := ⟨rfl, rfl, rfl, by decide +kernel, rfl, by decide +kernel, by decide +kernel⟩
structure Txt (K : PySem.W.Frag) (mg : Str → Option Value) where
  f_is_integer : Addr
  fd_is_integer : FuncData
  F_is_integer : Fun K "is_integer" "is_integer" s_is_integer f_is_integer fd_is_integer
  m_is_integer : mg "is_integer" = some (.ref f_is_integer)
  b_is_integer : Binds K fd_is_integer ["value", "least", "most"] []
  f_is_page : Addr
  fd_is_page : FuncData
  F_is_page : Fun K "is_page" "is_page" s_is_page f_is_page fd_is_page
  m_is_page : mg "is_page" = some (.ref f_is_page)
  b_is_page : Binds K fd_is_page ["value"] []
  f_is_visits : Addr
  fd_is_visits : FuncData
  F_is_visits : Fun K "is_visits" "is_visits" s_is_visits f_is_visits fd_is_visits
  m_is_visits : mg "is_visits" = some (.ref f_is_visits)
  b_is_visits : Binds K fd_is_visits ["value"] []
  f_check_visits : Addr
  fd_check_visits : FuncData
  F_check_visits : Fun K "check_visits" "check_visits" s_check_visits f_check_visits fd_check_visits
  m_check_visits : mg "check_visits" = some (.ref f_check_visits)
  b_check_visits : Binds K fd_check_visits ["visits"] []
  f_visited : Addr
  fd_visited : FuncData
  F_visited : Fun K "visited" "visited" s_visited f_visited fd_visited
  m_visited : mg "visited" = some (.ref f_visited)
  b_visited : Binds K fd_visited ["trail", "page"] []
  f_stays : Addr
  fd_stays : FuncData
  F_stays : Fun K "stays" "stays" s_stays f_stays fd_stays
  m_stays : mg "stays" = some (.ref f_stays)
  b_stays : Binds K fd_stays ["visits"] []
  f_cuts : Addr
  fd_cuts : FuncData
  F_cuts : Fun K "cuts" "cuts" s_cuts f_cuts fd_cuts
  m_cuts : mg "cuts" = some (.ref f_cuts)
  b_cuts : Binds K fd_cuts ["visits"] []
  f_law_pool : Addr
  fd_law_pool : FuncData
  F_law_pool : Fun K "_law_pool" "_law_pool" s_law_pool f_law_pool fd_law_pool
  m_law_pool : mg "_law_pool" = some (.ref f_law_pool)
  b_law_pool : Binds K fd_law_pool ["_law_script", "_law_k"] []
  f_law_draw : Addr
  fd_law_draw : FuncData
  F_law_draw : Fun K "_law_draw" "_law_draw" s_law_draw f_law_draw fd_law_draw
  m_law_draw : mg "_law_draw" = some (.ref f_law_draw)
  b_law_draw : Binds K fd_law_draw ["_law_pool_here", "_law_many"] []
  f_law_line : Addr
  fd_law_line : FuncData
  F_law_line : Fun K "_law_line" "_law_line" s_law_line f_law_line fd_law_line
  m_law_line : mg "_law_line" = some (.ref f_law_line)
  b_law_line : Binds K fd_law_line ["_law_pool_here", "_law_script"] []
  f_law_after : Addr
  fd_law_after : FuncData
  F_law_after : Fun K "_law_after" "_law_after" s_law_after f_law_after fd_law_after
  m_law_after : mg "_law_after" = some (.ref f_law_after)
  b_law_after : Binds K fd_law_after ["_law_row", "_law_spot"] []
  f_law_trails : Addr
  fd_law_trails : FuncData
  F_law_trails : Fun K "_law_trails" "_law_trails" s_law_trails f_law_trails fd_law_trails
  m_law_trails : mg "_law_trails" = some (.ref f_law_trails)
  b_law_trails : Binds K fd_law_trails ["_law_row", "_law_line_here"] []
  f_law_due : Addr
  fd_law_due : FuncData
  F_law_due : Fun K "_law_due" "_law_due" s_law_due f_law_due fd_law_due
  m_law_due : mg "_law_due" = some (.ref f_law_due)
  b_law_due : Binds K fd_law_due ["_law_line_here"] []
  f_law_right : Addr
  fd_law_right : FuncData
  F_law_right : Fun K "_law_right" "_law_right" s_law_right f_law_right fd_law_right
  m_law_right : mg "_law_right" = some (.ref f_law_right)
  b_law_right : Binds K fd_law_right ["_law_line_here"] []
  f_law : Addr
  fd_law : FuncData
  F_law : Fun K "law" "law" s_law f_law fd_law
  m_law : mg "law" = some (.ref f_law)
  b_law : Binds K fd_law ["_law_script"] []
  k_cuts_0_0 : KBinds K fd_cuts ["visits"] ["visits"] (kg .none 0 1 [0]) (kg .non 0 1 [0])
  k_stays_0_0 : KBinds K fd_stays ["visits"] ["visits"] (kg .none 0 1 [0]) (kg .non 0 1 [0])
  t_MOST_PAGE : Tok
  c_MOST_PAGE : mg "MOST_PAGE" = some (.int 39 t_MOST_PAGE)
  t_MOST_VISITS : Tok
  c_MOST_VISITS : mg "MOST_VISITS" = some (.int 300 t_MOST_VISITS)
  n_all : mg "all" = none
  n_bool : mg "bool" = none
  n_enumerate : mg "enumerate" = none
  n_int : mg "int" = none
  n_isinstance : mg "isinstance" = none
  n_len : mg "len" = none
  n_list : mg "list" = none
  n_max : mg "max" = none
  n_min : mg "min" = none
  n_range : mg "range" = none
  n_repr : mg "repr" = none
local macro_rules | `(tactic| walk_at "sx") => `(tactic| try simp only [x_dcT, x_dc, x_updT, x_iitemsT, x_dispT1, x_valsT, x_lockT, SL.x_yfor, SL.x_yplain, SL.x_ythen, SL.x_y0, SL.x_yyield, SL.x_ywhile, SL.x_callY, SL.x_callYK, x_gwhile, x_callG, x_g0, x_gfor, x_gplain, x_gthen, x_gyield, x_listG, x_dnewT, x_dget, x_dget2, x_dput, x_seq, x_next, x_brk, x_cnt, x_nev, x_ret, x_retN, x_drop, x_ifS, x_asg, x_gn, x_gsub, x_par, x_par3, x_aug, x_for, x_lc, x_rng1, x_rng2, x_rng3, x_ilist, x_itup, x_ienum, x_izip, x_izipA, x_istr, x_var, x_c, x_op, x_un, x_test, x_b, x_chain, x_and, x_or, x_not, x_andV, x_orV, x_notV, x_ife, x_nil, x_cons, x_lst, x_tup, x_cb, x_call, x_callK, x_bm, x_bm0, x_tru, x_sl, x_nopart, x_part, x_revL, x_I0, x_I, x_U, x_ip, x_ipC, x_eqI, x_neI, x_eqB, x_neB, x_eqS, x_neS, x_isB, x_isNB, x_lrg, x_gall, x_lenSet, x_augS, x_sortSet, x_rg1, x_rg2,
  L2.start, List.map_cons, List.map_nil, List.length_cons, List.length_nil, Nat.reduceAdd, Nat.reduceSub, Nat.sub_self, Nat.zero_add, List.replicate, List.replicate_succ, List.replicate_zero, List.append_nil, List.cons_append, List.nil_append, List.set_cons_zero, List.set_cons_succ, List.getElem?_cons_zero, List.getElem?_cons_succ, Option.some.injEq, V.int.injEq, V.bl.injEq, V.ref.injEq, V.str.injEq, List.cons.injEq, and_true, true_and, exists_eq_left', exists_eq_left, exists_and_left, exists_eq, if_true, if_false, ite_true, ite_false, Bool.true_eq_false, Bool.false_eq_true, reduceIte, reduceCtorEq, Bool.not_true, Bool.not_false, decide_true, decide_false, decide_eq_true_eq, Bool.and_true, Bool.true_and, Bool.and_self, Bool.and_false, Bool.false_and, Bool.or_self, Bool.or_false, Bool.false_or, Bool.or_true, Bool.true_or, eq_self])
section
variable {P : Program} {w : World} {K : PySem.W.Frag} {mg : Str → Option Value} {base : Heap}
def spIsInt : Sp := fun vs H Q _ => ∃ i lo hi : Int, vs = [.int i, .int lo, .int hi] ∧ Q (.bl (decide (lo ≤ i) && decide (i ≤ hi))) H
theorem ok_is_integer (T : Txt K mg) : FnOk P w K mg base CX0 1 T.f_is_integer T.fd_is_integer ["value", "least", "most"] spIsInt := by
  refine T.F_is_integer.ok sc_is_integer (fun vs H Q E h => ?_) (fun cdv A outer s H vs Q E hr h => ?_)
  · obtain ⟨i, lo, hi, rfl, _⟩ := h
    rfl
  · obtain ⟨i, lo, hi, rfl, k⟩ := h
    apply Exists.intro
    apply And.intro
    · apply pss_one
      exact (ps_ret (pe_and (pe_callB (k_isi (K := K) rfl) (by rfl) T.n_isinstance (by decide +kernel) (pa_cons (pv 0) (pa_cons (pe_bltn (v := .ty "int") (by rfl) T.n_int (by decide +kernel) rfl) pa_nil))) (pe_and (pe_not (pe_callB (k_isi (K := K) rfl) (by rfl) T.n_isinstance (by decide +kernel) (pa_cons (pv 0) (pa_cons (pe_bltn (v := .ty "bool") (by rfl) T.n_bool (by decide +kernel) rfl) pa_nil)))) (pe_one (pe_chain op_le op_le (pv 1) (pv 0) (pv 2))))))
    walk_at "sx"
    refine isi_int (b := true) (by decide +kernel) ?_
    walk_at "sx"
    refine isi_int (b := false) (by decide +kernel) ?_
    walk_at "sx"
    by_cases h1 : lo ≤ i
    · simpa [h1] using k
    · simpa [h1] using k
end
/-! ### trails.py and lengths.py -/
section
variable {P : Program} {w : World} {K : PySem.W.Frag} {mg : Str → Option Value} {base : Heap}
theorem ints_at {ns : List Int} {i : Nat} {v : V} (h : (ns.map V.int)[i]? = some v) : ∃ n, ns[i]? = some n ∧ v = .int n := by
  rw [List.getElem?_map] at h
  cases e : ns[i]? with
  | none => rw [e] at h; cases h
  | some n => rw [e] at h; cases h; exact ⟨n, rfl, rfl⟩
theorem at_ints {ns : List Int} {i : Nat} {n : Int} (h : ns[i]? = some n) : (ns.map V.int)[i]? = some (.int n) := by rw [List.getElem?_map, h]; rfl
def spIsPage : Sp := fun vs H Q _ => ∃ i : Int, vs = [.int i] ∧ Q (.bl (decide (0 ≤ i) && decide (i ≤ 39))) H
theorem ok_is_page (T : Txt K mg) : FnOk P w K mg base CX0 2 T.f_is_page T.fd_is_page ["value"] spIsPage := by
  refine T.F_is_page.ok sc_is_page (fun vs H Q E h => ?_) (fun cdv A outer s H vs Q E hr h => ?_)
  · obtain ⟨i, rfl, _⟩ := h
    rfl
  · obtain ⟨i, rfl, k⟩ := h
    apply Exists.intro
    apply And.intro
    · apply pss_one
      exact (ps_ret (pe_call (ok_is_integer T) (hr.mono (by decide)) (by rfl) T.m_is_integer T.F_is_integer.kp T.b_is_integer .nil pass0 (pa_cons (pv 0) (pa_cons pe_int (pa_cons (pe_glob (v := .int 39) rfl T.c_MOST_PAGE ⟨_, rfl⟩) pa_nil)))))
    walk_at "sx"
    exact ⟨i, 0, 39, rfl, k⟩
def spIsVisits (K : PySem.W.Frag) : Sp := fun vs H Q _ => ∃ (a : Addr) (ns : List Int), vs = [.ref a] ∧ SqL K H a (ns.map V.int) ∧ ns.length ≤ 300 ∧ Pg 40 ns ∧ ∀ H', Ex H H' → Q (.bl true) H'
theorem ok_is_visits (T : Txt K mg) : FnOk P w K mg base CX0 3 T.f_is_visits T.fd_is_visits ["value"] (spIsVisits K) := by
  refine T.F_is_visits.ok sc_is_visits (fun vs H Q E h => ?_) (fun cdv A outer s H vs Q E hr h => ?_)
  · obtain ⟨a, ns, rfl, _⟩ := h
    rfl
  · obtain ⟨a, ns, rfl, hA, hl, hp, k⟩ := h
    apply Exists.intro
    apply And.intro
    · apply pss_one
      exact (ps_ret (pe_and (pe_callB (k_isi (K := K) rfl) (by rfl) T.n_isinstance (by decide +kernel) (pa_cons (pv 0) (pa_cons (pe_bltn (v := .ty "list") (by rfl) T.n_list (by decide +kernel) rfl) pa_nil))) (pe_and (pe_cmpR op_le (pe_callB (k_len (K := K) rfl) (by rfl) T.n_len PySem.boot_len (pa_cons (pv 0) pa_nil)) (pe_glob (v := .int 300) rfl T.c_MOST_VISITS ⟨_, rfl⟩) (by rfl)) (pe_one (pe_callB (k_all (K := K) rfl rfl) (by rfl) T.n_all (by decide +kernel) (pa_cons (pe_lc (own := [("page", 1)]) rfl sc_is_visits.nd (k_pi_list (K := K) rfl (pv 0)) (blkOk_by (own := [("page", 1)]) (N := ["value", "page"]) (sc := defScope s_is_visits) (by decide +kernel)) (fun _ _ _ _ _ => by exact (pg_name (i := 1) sc_is_visits.nd rfl (.inl rfl))) (fun _ _ _ _ _ => by exact pts_nil) (fun _ _ _ _ _ => by exact (pe_call (ok_is_page T) (hr.mono (by decide)) (by rfl) T.m_is_page T.F_is_page.kp T.b_is_page .nil pass0 (pa_cons (pv 1) pa_nil)))) pa_nil))))))
    walk_at "sx"
    refine isi_x (b := true) (tyx_l hA) (by decide +kernel) ?_
    walk_at "sx"
    refine lenL hA ?_
    walk_at "sx"
    rw [List.length_map]
    have e1 : ((ns.length : Nat) : Int) ≤ 300 := by omega
    simp only [e1]
    walk_at "sx"
    refine ⟨⟨_, hA⟩, fun D nD => ?_⟩
    refine lc_list (fun _ => true) (fun _ => V.bl true) hA nD (by rw [List.length_map]; omega) (fun u => rfl) (fun i x _ => tyes) (fun i x hx _ => ?_) (fun H2 e2 hD => ?_)
    · obtain ⟨n, hn, rfl⟩ := ints_at hx
      obtain ⟨n0, n1⟩ := hp.at hn
      refine ev_call (vs := [.int n]) (ea_cons (ev_var rfl) ea_nil) (fun H3 e3 Q3 q3 E3 => ⟨n, rfl, ?_⟩)
      have z1 : n ≤ 39 := by omega
      rw [decide_eq_true n0, decide_eq_true z1]
      exact q3 H3 (Ex.refl _)
    · rw [kept_const] at hD
      have e5 : List.replicate (ns.map V.int).length (V.bl true) = (List.replicate ns.length true).map V.bl := by rw [List.map_replicate, List.length_map]
      rw [e5] at hD
      refine allL (.inl (.inl hD)) ?_
      rw [all_true]
      exact k _ e2
def spCheckVisits (K : PySem.W.Frag) : Sp := fun vs H Q _ => ∃ (a : Addr) (ns : List Int), vs = [.ref a] ∧ SqL K H a (ns.map V.int) ∧ ns.length ≤ 300 ∧ Pg 40 ns ∧ ∀ H', Ex H H' → Q .non H'
theorem ok_check_visits (T : Txt K mg) : FnOk P w K mg base CX0 4 T.f_check_visits T.fd_check_visits ["visits"] (spCheckVisits K) := by
  refine T.F_check_visits.ok sc_check_visits (fun vs H Q E h => ?_) (fun cdv A outer s H vs Q E hr h => ?_)
  · obtain ⟨a, ns, rfl, _⟩ := h
    rfl
  · obtain ⟨a, ns, rfl, hA, hl, hp, k⟩ := h
    apply Exists.intro
    apply And.intro
    · apply pss_one
      apply ps_if
      · exact (pt_not (pt_val (pe_call (ok_is_visits T) (hr.mono (by decide)) (by rfl) T.m_is_visits T.F_is_visits.kp T.b_is_visits .nil pass0 (pa_cons (pv 0) pa_nil))))
      · apply pss_one
        exact ps_never
      · exact pss_nil
    walk_at "sx"
    refine ⟨a, ns, rfl, hA, hl, hp, fun H1 e1 => ?_⟩
    walk_at "sx"
    exact k _ e1
def spVisited (K : PySem.W.Frag) : Sp := fun vs H Q _ => ∃ (a : Addr) (t : List Int) (p : Int), vs = [.ref a, .int p] ∧ H a = some (.lst (t.map V.int)) ∧ t.length ≤ 1000 ∧ ∀ r H', H r = none → Ex H H' → H' r = some (.lst ((vis t p).map V.int)) → Q (.ref r) H'
theorem ok_visited (T : Txt K mg) : FnOk P w K mg base CX0 1 T.f_visited T.fd_visited ["trail", "page"] (spVisited K) := by
  refine T.F_visited.ok sc_visited (fun vs H Q E h => ?_) (fun cdv A outer s H vs Q E hr h => ?_)
  · obtain ⟨a, t, p, rfl, _⟩ := h
    rfl
  · obtain ⟨a, t, p, rfl, hA, hl, k⟩ := h
    apply Exists.intro
    apply And.intro
    · apply pss_one
      exact (ps_ret (pe_ifExp (pt_cmpR (k_in (K := K) rfl) (pv 1) (pv 0) (by rfl)) (pe_slice (k_sl_list (K := K) rfl) (pv 0) po_none (po_some (pe_op op_add (k_bm (K := K) rfl (pe_bm PySem.F.plainAttrs_list PySem.F.slot_list_index PySem.F.type_list_index (k_index (K := K) rfl) (pv 0) (pa_cons (pv 1) pa_nil))) pe_int))) (pe_op op_cat (pv 0) (pe_lst (pa_cons (pv 1) pa_nil)))))
    walk_at "sx"
    refine inL (.inl (.inl hA)) ?_
    walk_at "sx"
    by_cases m : p ∈ t
    · have hi := List.idxOf_lt_length_of_mem m
      simp only [m]
      walk_at "sx"
      refine ⟨tyL hA, ?_⟩
      refine idxL (.inl (.inl hA)) m ?_
      walk_at "sx"
      refine slL (.inl (.inl hA)) fun r nr => ?_
      refine k r _ nr (Ex.new nr) ?_
      rw [upd_same, cut_to (j := t.idxOf p + 1) _ (by omega) (by rw [List.length_map]; omega)]
      unfold vis
      rw [if_pos m, List.map_take]
    · simp only [m]
      walk_at "sx"
      refine ⟨sz_ok (by omega), fun z nz => ?_⟩
      have e1 := Ex.new nz (o := .lst [V.int p])
      refine catL (e1 _ _ hA) upd_same (sz_ok (by rw [List.length_map, List.length_singleton]; omega)) fun r nr => ?_
      refine k r _ (fresh_back e1 nr) (e1.trans (Ex.new nr)) ?_
      rw [upd_same]
      unfold vis
      rw [if_neg m, List.map_append]
      rfl
end
end LW

set_option Elab.async false
set_option linter.all false
set_option maxRecDepth 100000
set_option maxHeartbeats 4000000
/-! stays and cuts of visits, in closed form -/
namespace ST
open PySem PySem.Spec PyProof.Rows L2 BC TR
/-- the trail after i visits -/
def tr (ns : List Int) (i : Nat) : List Int := (ns.take i).foldl vis []
def pg (ns : List Int) (i : Nat) : Int := ns.getD i 0
def isNew (ns : List Int) (i : Nat) : Bool := decide (pg ns i ∉ tr ns i)
def gr (ns : List Int) (i : Nat) : List Nat := (List.range i).filter (isNew ns)
def ctn (ns : List Int) (i : Nat) : List Nat := (List.range i).filter fun j => !isNew ns j
/-- where the stay that begins at j ends, as far as i visits tell -/
def endOf (ns : List Int) (i j : Nat) : Option Nat := (List.range i).find? fun k => decide (j < k) && decide (pg ns j ∉ tr ns (k + 1))
def opn (ns : List Int) (i : Nat) : List Nat := (gr ns i).filter fun j => (endOf ns i j).isNone
theorem tr_succ {ns : List Int} {i : Nat} (h : i < ns.length) : tr ns (i + 1) = vis (tr ns i) (pg ns i) := by
  unfold tr pg
  rw [List.take_add_one, List.getElem?_eq_getElem h, List.foldl_append, List.getD_eq_getElem?_getD, List.getElem?_eq_getElem h]
  rfl
theorem vis_nodup {t : List Int} {p : Int} (h : t.Nodup) : (vis t p).Nodup := by
  unfold vis
  split
  · exact h.sublist (List.take_sublist _ _)
  · rename_i c
    rw [List.nodup_append]
    refine ⟨h, by simp, fun a ha b hb e => ?_⟩
    rw [List.mem_singleton.mp hb] at e
    exact c (e ▸ ha)
theorem tr_nodup (ns : List Int) (i : Nat) : (tr ns i).Nodup := by
  unfold tr
  generalize ns.take i = l
  have : ∀ (l t : List Int), t.Nodup → (l.foldl vis t).Nodup := fun l => by
    induction l with
    | nil => exact fun t h => h
    | cons a l ih => exact fun t h => ih _ (vis_nodup h)
  exact this l [] List.nodup_nil
theorem gr_yes {ns : List Int} {i : Nat} (h : isNew ns i = true) : gr ns (i + 1) = gr ns i ++ [i] := by
  unfold gr
  rw [List.range_succ, List.filter_append, List.filter_cons_of_pos h]
  rfl
theorem gr_no {ns : List Int} {i : Nat} (h : isNew ns i = false) : gr ns (i + 1) = gr ns i := by
  unfold gr
  rw [List.range_succ, List.filter_append, List.filter_cons_of_neg (by rw [h]; decide), List.filter_nil, List.append_nil]
theorem ctn_yes {ns : List Int} {i : Nat} (h : isNew ns i = false) : ctn ns (i + 1) = ctn ns i ++ [i] := by
  unfold ctn
  rw [List.range_succ, List.filter_append, List.filter_cons_of_pos (by rw [h]; rfl)]
  rfl
theorem ctn_no {ns : List Int} {i : Nat} (h : isNew ns i = true) : ctn ns (i + 1) = ctn ns i := by
  unfold ctn
  rw [List.range_succ, List.filter_append, List.filter_cons_of_neg (by rw [h]; decide), List.filter_nil, List.append_nil]
theorem gr_lt {ns : List Int} {i j : Nat} (h : j ∈ gr ns i) : j < i := List.mem_range.mp (List.mem_filter.mp h).1
theorem end_succ (ns : List Int) (i j : Nat) : endOf ns (i + 1) j = (endOf ns i j).or (if j < i ∧ pg ns j ∉ tr ns (i + 1) then some i else none) := by
  unfold endOf
  rw [List.range_succ, List.find?_append]
  congr 1
  by_cases c : j < i ∧ pg ns j ∉ tr ns (i + 1)
  · rw [if_pos c, List.find?_cons_of_pos]
    rw [decide_eq_true c.1, decide_eq_true c.2]; rfl
  · rw [if_neg c, List.find?_cons_of_neg]
    · rfl
    · intro h
      rw [Bool.and_eq_true, decide_eq_true_eq, decide_eq_true_eq] at h
      exact c h
theorem end_lt {ns : List Int} {i j k : Nat} (h : endOf ns i j = some k) : j < k ∧ k < i ∧ pg ns j ∉ tr ns (k + 1) := by
  unfold endOf at h
  have h1 := List.mem_range.mp (List.mem_of_find?_eq_some h)
  have h2 := List.find?_some h
  rw [Bool.and_eq_true, decide_eq_true_eq, decide_eq_true_eq] at h2
  exact ⟨h2.1, h1, h2.2⟩
theorem end_none {ns : List Int} {i j k : Nat} (h : endOf ns i j = none) (h1 : j < k) (h2 : k < i) : pg ns j ∈ tr ns (k + 1) := by
  unfold endOf at h
  have := List.find?_eq_none.mp h k (List.mem_range.mpr h2)
  rw [Bool.and_eq_true, decide_eq_true_eq, decide_eq_true_eq] at this
  exact Classical.byContradiction fun c => this ⟨h1, c⟩
theorem end_late {ns : List Int} {i j : Nat} (h : i ≤ j + 1) : endOf ns i j = none := by
  cases e : endOf ns i j with
  | none => rfl
  | some k =>
    have := end_lt e
    omega
theorem nodup_take {l : List Int} (h : l.Nodup) (k : Nat) : l.filter (fun x => decide (x ∈ l.take k)) = l.take k := by
  induction l generalizing k with
  | nil => simp
  | cons a l ih =>
    rw [List.nodup_cons] at h
    cases k with
    | zero => simp
    | succ k =>
      rw [List.take_succ_cons, List.filter_cons_of_pos (p := fun x => decide (x ∈ a :: List.take k l)) (by simp)]
      congr 1
      rw [← ih h.2 k]
      refine List.filter_congr fun x hx => decide_eq_decide.mpr ?_
      rw [ih h.2 k, List.mem_cons]
      exact ⟨fun m => m.resolve_left fun e => h.1 (e ▸ hx), .inr⟩
theorem nodup_drop {l : List Int} (h : l.Nodup) (k : Nat) : l.filter (fun x => !decide (x ∈ l.take k)) = l.drop k := by
  induction l generalizing k with
  | nil => simp
  | cons a l ih =>
    rw [List.nodup_cons] at h
    cases k with
    | zero => simp
    | succ k =>
      rw [List.take_succ_cons, List.drop_succ_cons, List.filter_cons_of_neg (p := fun x => !decide (x ∈ a :: List.take k l)) (by simp), ← ih h.2 k]
      refine List.filter_congr fun x hx => ?_
      congr 1
      refine decide_eq_decide.mpr ?_
      rw [List.mem_cons]
      exact ⟨fun m => m.resolve_left fun e => h.1 (e ▸ hx), .inr⟩
/-- one more visit of a page that is there: what stays open -/
theorem opn_old {ns : List Int} {i : Nat} (h : isNew ns i = false) : opn ns (i + 1) = (opn ns i).filter fun j => decide (pg ns j ∈ tr ns (i + 1)) := by
  unfold opn
  rw [gr_no h, List.filter_filter]
  refine List.filter_congr fun j hj => ?_
  have lj := gr_lt hj
  rw [end_succ]
  by_cases c : pg ns j ∈ tr ns (i + 1)
  · rw [if_neg (fun q => q.2 c), Option.or_none, decide_eq_true c, Bool.true_and]
  · rw [if_pos ⟨lj, c⟩, decide_eq_false c, Bool.false_and]
    cases endOf ns i j <;> rfl
theorem opn_new {ns : List Int} {i : Nat} (hi : i < ns.length) (h : isNew ns i = true) (hp : (opn ns i).map (pg ns) = tr ns i) : opn ns (i + 1) = opn ns i ++ [i] := by
  unfold opn at hp ⊢
  rw [gr_yes h, List.filter_append]
  congr 1
  · refine List.filter_congr fun j hj => ?_
    have lj := gr_lt hj
    rw [end_succ]
    cases e : endOf ns i j with
    | some k => rfl
    | none =>
      rw [if_neg]
      · rfl
      · rintro ⟨_, q⟩
        refine q ?_
        have m : pg ns j ∈ tr ns i := by
          rw [← hp]
          exact List.mem_map.mpr ⟨j, List.mem_filter.mpr ⟨hj, by rw [e]; rfl⟩, rfl⟩
        rw [tr_succ hi]
        unfold vis
        rw [if_neg (of_decide_eq_true h)]
        exact List.mem_append_left _ m
  · rw [List.filter_cons_of_pos (by rw [end_late (Nat.le_refl _)]; rfl)]
    rfl
theorem tr_old {ns : List Int} {i : Nat} (hi : i < ns.length) (h : isNew ns i = false) : tr ns (i + 1) = (tr ns i).take ((tr ns i).idxOf (pg ns i) + 1) := by
  rw [tr_succ hi]
  unfold vis
  have : pg ns i ∈ tr ns i := by
    have := of_decide_eq_false h
    exact Classical.byContradiction this
  rw [if_pos this]
theorem tr_new {ns : List Int} {i : Nat} (hi : i < ns.length) (h : isNew ns i = true) : tr ns (i + 1) = tr ns i ++ [pg ns i] := by
  rw [tr_succ hi]
  unfold vis
  rw [if_neg (of_decide_eq_true h)]
theorem filter_map' {α β : Type} (f : α → β) (P : β → Bool) : ∀ l : List α, (l.filter fun x => P (f x)).map f = (l.map f).filter P
  | [] => rfl
  | a :: l => by
    rw [List.map_cons]
    cases c : P (f a) with
    | true => rw [List.filter_cons_of_pos (p := fun x => P (f x)) c, List.filter_cons_of_pos c, List.map_cons, filter_map' f P l]
    | false => rw [List.filter_cons_of_neg (p := fun x => P (f x)) (by rw [c]; decide), List.filter_cons_of_neg (by rw [c]; decide), filter_map' f P l]
/-- the open stays are the trail -/
theorem opn_tr {ns : List Int} : ∀ {i : Nat}, i ≤ ns.length → (opn ns i).map (pg ns) = tr ns i
  | 0, _ => rfl
  | i + 1, hi => by
    have ih := opn_tr (ns := ns) (i := i) (by omega)
    cases h : isNew ns i with
    | true => rw [opn_new (by omega) h ih, List.map_append, ih, tr_new (by omega) h]; rfl
    | false =>
      rw [opn_old h, filter_map' (pg ns) (fun x => decide (x ∈ tr ns (i + 1))), ih, tr_old (by omega) h, nodup_take (tr_nodup ns i)]
/-- as the law asks: what is in the trail after a visit -/
theorem here_tr {ns : List Int} {n at_ : Nat} (hn : n ≤ ns.length) (h : at_ < n) : ((gr ns n).filter fun j => decide (j ≤ at_) && (match endOf ns n j with | none => true | some k => decide (at_ < k))).map (pg ns) = tr ns (at_ + 1) := by
  rw [← opn_tr (ns := ns) (i := at_ + 1) (by omega)]
  congr 1
  have g : gr ns (at_ + 1) = (gr ns n).filter fun j => decide (j ≤ at_) := by
    unfold gr
    rw [List.filter_filter]
    obtain ⟨d, rfl⟩ : ∃ d, n = at_ + 1 + d := ⟨n - (at_ + 1), by omega⟩
    rw [show List.range (at_ + 1 + d) = List.range (at_ + 1) ++ (List.range d).map (at_ + 1 + ·) from List.range_add .., List.filter_append]
    have e2 : ((List.range d).map (at_ + 1 + ·)).filter (fun j => decide (j ≤ at_) && isNew ns j) = [] := List.filter_eq_nil_iff.mpr fun x hx => by
      obtain ⟨y, _, rfl⟩ := List.mem_map.mp hx
      rw [decide_eq_false (by omega), Bool.false_and]
      decide
    rw [e2, List.append_nil]
    refine List.filter_congr fun x hx => ?_
    have := List.mem_range.mp hx
    rw [decide_eq_true (by omega), Bool.true_and]
  unfold opn
  rw [g, List.filter_filter]
  refine List.filter_congr fun j hj => ?_
  have lj := gr_lt hj
  by_cases c : j ≤ at_
  · rw [decide_eq_true c, Bool.and_true, Bool.true_and]
    cases e : endOf ns n j with
    | none =>
      cases e2 : endOf ns (at_ + 1) j with
      | none => rfl
      | some k =>
        obtain ⟨a, b, d⟩ := end_lt e2
        exact absurd (end_none e a (by omega)) d
    | some k =>
      obtain ⟨a, b, d⟩ := end_lt e
      cases e2 : endOf ns (at_ + 1) j with
      | none =>
        show decide (at_ < k) = true
        refine decide_eq_true (Classical.byContradiction fun q => ?_)
        exact d (end_none e2 a (by omega))
      | some k' =>
        obtain ⟨a', b', d'⟩ := end_lt e2
        show decide (at_ < k) = false
        refine decide_eq_false fun q => ?_
        -- the first end is the least
        unfold endOf at e e2
        have h1 : (List.range n).find? (fun k => decide (j < k) && decide (pg ns j ∉ tr ns (k + 1))) = some k' := by
          obtain ⟨d2, rfl⟩ : ∃ d2, n = at_ + 1 + d2 := ⟨n - (at_ + 1), by omega⟩
          rw [show List.range (at_ + 1 + d2) = List.range (at_ + 1) ++ (List.range d2).map (at_ + 1 + ·) from List.range_add .., List.find?_append, e2]
          rfl
        rw [e] at h1
        have := Option.some.inj h1
        omega
  · rw [decide_eq_false c, Bool.and_false, Bool.false_and]
/-- .. and what a visit removes -/
theorem lost_tr {ns : List Int} {n i : Nat} (hn : n ≤ ns.length) (hi : i < n) (h : isNew ns i = false) : ((gr ns n).filter fun j => decide (endOf ns n j = some i)).map (pg ns) = (tr ns i).drop ((tr ns i).idxOf (pg ns i) + 1) := by
  have e1 : ((gr ns n).filter fun j => decide (endOf ns n j = some i)) = (opn ns i).filter fun j => !decide (pg ns j ∈ tr ns (i + 1)) := by
    have g : gr ns i = (gr ns n).filter fun j => decide (j < i) := by
      unfold gr
      rw [List.filter_filter]
      obtain ⟨d, rfl⟩ : ∃ d, n = i + d := ⟨n - i, by omega⟩
      rw [show List.range (i + d) = List.range i ++ (List.range d).map (i + ·) from List.range_add .., List.filter_append]
      have e2 : ((List.range d).map (i + ·)).filter (fun j => decide (j < i) && isNew ns j) = [] := List.filter_eq_nil_iff.mpr fun x hx => by
        obtain ⟨y, _, rfl⟩ := List.mem_map.mp hx
        rw [decide_eq_false (by omega), Bool.false_and]
        decide
      rw [e2, List.append_nil]
      refine List.filter_congr fun x hx => ?_
      have := List.mem_range.mp hx
      rw [decide_eq_true (by omega), Bool.true_and]
    unfold opn
    rw [g, List.filter_filter, List.filter_filter]
    refine List.filter_congr fun j hj => ?_
    rw [Bool.eq_iff_iff, decide_eq_true_eq, Bool.and_eq_true, Bool.and_eq_true, decide_eq_true_eq]
    constructor
    · intro e
      obtain ⟨a, b, d⟩ := end_lt e
      refine ⟨⟨by rw [decide_eq_false d]; rfl, ?_⟩, a⟩
      cases e2 : endOf ns i j with
      | none => rfl
      | some k' =>
        obtain ⟨a', b', d'⟩ := end_lt e2
        unfold endOf at e e2
        have h1 : (List.range n).find? (fun k => decide (j < k) && decide (pg ns j ∉ tr ns (k + 1))) = some k' := by
          obtain ⟨d2, rfl⟩ : ∃ d2, n = i + d2 := ⟨n - i, by omega⟩
          rw [show List.range (i + d2) = List.range i ++ (List.range d2).map (i + ·) from List.range_add .., List.find?_append, e2]
          rfl
        rw [e] at h1
        have := Option.some.inj h1
        omega
    · rintro ⟨⟨a, b⟩, c⟩
      have a : pg ns j ∉ tr ns (i + 1) := fun m => by rw [decide_eq_true m] at a; cases a
      have e2 : endOf ns (i + 1) j = some i := by
        rw [end_succ, if_pos ⟨c, a⟩]
        cases e : endOf ns i j with
        | none => rfl
        | some k => rw [e] at b; cases b
      unfold endOf at e2 ⊢
      obtain ⟨d2, rfl⟩ : ∃ d2, n = i + 1 + d2 := ⟨n - (i + 1), by omega⟩
      rw [show List.range (i + 1 + d2) = List.range (i + 1) ++ (List.range d2).map (i + 1 + ·) from List.range_add .., List.find?_append, e2]
      rfl
  rw [e1, filter_map' (pg ns) (fun x => !decide (x ∈ tr ns (i + 1))), opn_tr (by omega), tr_old (by omega) h, nodup_drop (tr_nodup ns i)]
end ST

set_option Elab.async false
set_option linter.all false
set_option maxRecDepth 100000
set_option maxHeartbeats 4000000
/-! stays and cuts as data, and by the law's way -/
namespace ST
open PySem PySem.Spec PyProof.Rows L2 BC TR
def oD : Option Nat → PyData
  | none => .none
  | some k => .int (k : Nat)
def cutl (ns : List Int) (j : Nat) : List Int := (tr ns j).drop ((tr ns j).idxOf (pg ns j) + 1)
def dSt (ns : List Int) (j : Nat) : PyData := .tuple [.int (j : Nat), .int (pg ns j), oD (endOf ns ns.length j)]
def dCt (ns : List Int) (j : Nat) : PyData := .tuple [.int (j : Nat), .list ((cutl ns j).map PyData.int)]
def dStays (ns : List Int) : PyData := .list ((gr ns ns.length).map (dSt ns))
def dCuts (ns : List Int) : PyData := .list ((ctn ns ns.length).map (dCt ns))
def dAll (ns : List Int) : PyData := .list [dStays ns, dCuts ns]
theorem pg_lt {ns : List Int} (h : Pg 40 ns) (j : Nat) : 0 ≤ pg ns j ∧ pg ns j < 40 := by
  unfold pg
  rw [List.getD_eq_getElem?_getD]
  cases e : ns[j]? with
  | none => exact ⟨by decide, by decide⟩
  | some x => exact h x (List.mem_of_getElem? e)
theorem tr_pg {ns : List Int} (h : Pg 40 ns) (j : Nat) : Pg 40 (tr ns j) := by
  unfold tr
  have : ∀ (l t : List Int), Pg 40 l → Pg 40 t → Pg 40 (l.foldl vis t) := fun l => by
    induction l with
    | nil => exact fun t _ h => h
    | cons a l ih =>
      intro t hl ht
      refine ih _ (fun x hx => hl x (List.mem_cons_of_mem _ hx)) fun x hx => ?_
      unfold vis at hx
      split at hx
      · exact ht x (List.mem_of_mem_take hx)
      · rcases List.mem_append.mp hx with hx | hx
        · exact ht x hx
        · rw [List.mem_singleton.mp hx]
          exact hl a List.mem_cons_self
  exact this _ [] (fun x hx => h x (List.mem_of_mem_take hx)) (fun x hx => absurd hx List.not_mem_nil)
theorem tr_le {ns : List Int} (h : Pg 40 ns) (j : Nat) : (tr ns j).length ≤ 40 := nodup_len 40 (tr_nodup ns j) (tr_pg h j)
theorem cutl_le {ns : List Int} (h : Pg 40 ns) (j : Nat) : (cutl ns j).length ≤ 40 := by
  unfold cutl
  rw [List.length_drop]
  have := tr_le h j
  omega
theorem cutl_sm {ns : List Int} (h : Pg 40 ns) (j : Nat) : ∀ x ∈ cutl ns j, x.natAbs < 10 ^ 12 := fun x hx => by
  have := tr_pg h j x (List.mem_of_mem_drop hx)
  omega
theorem tm_non : Tm .none := ⟨by decide, by decide, by decide⟩
theorem gr_len (ns : List Int) (i : Nat) : (gr ns i).length ≤ i := by
  unfold gr
  have := List.length_filter_le (isNew ns) (List.range i)
  rw [List.length_range] at this
  exact this
theorem ctn_len (ns : List Int) (i : Nat) : (ctn ns i).length ≤ i := by
  unfold ctn
  have := List.length_filter_le (fun j => !isNew ns j) (List.range i)
  rw [List.length_range] at this
  exact this
theorem ctn_lt {ns : List Int} {i j : Nat} (h : j ∈ ctn ns i) : j < i := List.mem_range.mp (List.mem_filter.mp h).1
theorem tm_oD {ns : List Int} (hl : ns.length ≤ 301) (j : Nat) : Tm (oD (endOf ns ns.length j)) ∧ (oD (endOf ns ns.length j)).weight ≤ 40 ∧ (oD (endOf ns ns.length j)).depth = 0 := by
  cases e : endOf ns ns.length j with
  | none => exact ⟨tm_non, by decide, by decide⟩
  | some k =>
    have := (end_lt e).2.1
    exact ⟨.int (by omega), wt_int (by omega), by simp [oD, PyData.depth]⟩
theorem tm_st {ns : List Int} (h : Pg 40 ns) (hl : ns.length ≤ 301) {j : Nat} (hj : j < ns.length) : Tm (dSt ns j) ∧ (dSt ns j).weight ≤ 130 ∧ (dSt ns j).depth ≤ 1 := by
  obtain ⟨t1, t2, t3⟩ := tm_oD hl j
  have p := pg_lt h j
  refine ⟨.tuple fun d m => ?_, ?_, ?_⟩
  · simp only [List.mem_cons, List.mem_nil_iff, or_false] at m
    rcases m with rfl | rfl | rfl
    · exact .int (by omega)
    · exact .int (by omega)
    · exact t1
  · have w1 := wt_int (i := (j : Nat)) (by omega)
    have w2 := wt_int (i := pg ns j) (by omega)
    simp only [dSt, PyData.weight, PyData.weightAll] at w1 w2 t2 ⊢
    omega
  · simp only [dSt, PyData.depth, PyData.depthAll, t3]
    omega
theorem tm_ct {ns : List Int} (h : Pg 40 ns) (hl : ns.length ≤ 301) {j : Nat} (hj : j < ns.length) : Tm (dCt ns j) ∧ (dCt ns j).weight ≤ 1700 ∧ (dCt ns j).depth ≤ 2 := by
  have sm := cutl_sm h j
  have cl := cutl_le h j
  refine ⟨.tuple fun d m => ?_, ?_, ?_⟩
  · simp only [List.mem_cons, List.mem_nil_iff, or_false] at m
    rcases m with rfl | rfl
    · exact .int (by omega)
    · exact tm_ints sm
  · have w1 := wt_int (i := (j : Nat)) (by omega)
    have w2 := wt_ints sm
    simp only [dCt, PyData.weight, PyData.weightAll] at w1 w2 ⊢
    omega
  · have := dep_all (ds := (cutl ns j).map PyData.int) (n := 0) fun d m => by
      obtain ⟨x, _, rfl⟩ := List.mem_map.mp m
      simp [PyData.depth]
    simp only [dCt, PyData.depth, PyData.depthAll]
    omega
theorem tm_all {ns : List Int} (h : Pg 40 ns) (hl : ns.length ≤ 301) : Tm (dAll ns) ∧ (dAll ns).depth ≤ 60 ∧ (dAll ns).weight ≤ 2 ^ 20 := by
  have gl := gr_len ns ns.length
  have cl := ctn_len ns ns.length
  have s1 : ∀ d ∈ (gr ns ns.length).map (dSt ns), Tm d ∧ d.weight ≤ 130 ∧ d.depth ≤ 1 := fun d m => by
    obtain ⟨j, hj, rfl⟩ := List.mem_map.mp m
    exact tm_st h hl (gr_lt hj)
  have s2 : ∀ d ∈ (ctn ns ns.length).map (dCt ns), Tm d ∧ d.weight ≤ 1700 ∧ d.depth ≤ 2 := fun d m => by
    obtain ⟨j, hj, rfl⟩ := List.mem_map.mp m
    exact tm_ct h hl (ctn_lt hj)
  have w1 := wt_all fun d m => (s1 d m).2.1
  have w2 := wt_all fun d m => (s2 d m).2.1
  have d1 := dep_all fun d m => (s1 d m).2.2
  have d2 := dep_all fun d m => (s2 d m).2.2
  rw [List.length_map] at w1 w2
  refine ⟨.list fun d m => ?_, ?_, ?_⟩
  · simp only [List.mem_cons, List.mem_nil_iff, or_false] at m
    rcases m with rfl | rfl
    · exact .list fun d m => (s1 d m).1
    · exact .list fun d m => (s2 d m).1
  · simp only [dAll, dStays, dCuts, PyData.depth, PyData.depthAll]
    omega
  · simp only [dAll, dStays, dCuts, PyData.weight, PyData.weightAll]
    omega
/-! ### the first later visit -/
def later (ns : List Int) (j : Nat) : List Nat := ((List.range (ns.length - (j + 1))).filter fun i => decide (pg ns j ∉ tr ns (j + 1 + i + 1))).map fun i => j + 1 + i
theorem later_end (ns : List Int) {j : Nat} (hj : j < ns.length) : (later ns j).head? = endOf ns ns.length j := by
  unfold later endOf
  obtain ⟨d, hd⟩ : ∃ d, ns.length = j + 1 + d := ⟨ns.length - (j + 1), by omega⟩
  rw [hd, show j + 1 + d - (j + 1) = d by omega, show List.range (j + 1 + d) = List.range (j + 1) ++ (List.range d).map (j + 1 + ·) from List.range_add .., List.find?_append]
  have e1 : (List.range (j + 1)).find? (fun k => decide (j < k) && decide (pg ns j ∉ tr ns (k + 1))) = none := List.find?_eq_none.mpr fun k hk => by
    have := List.mem_range.mp hk
    rw [decide_eq_false (by omega), Bool.false_and]
    decide
  rw [e1, Option.none_or, List.find?_map, List.head?_map, List.head?_filter]
  congr 1
  congr 1
  funext i
  show _ = (decide (j < j + 1 + i) && decide (pg ns j ∉ tr ns (j + 1 + i + 1)))
  rw [decide_eq_true (show j < j + 1 + i by omega), Bool.true_and]
end ST

set_option Elab.async false
set_option linter.all false
set_option maxRecDepth 100000
set_option maxHeartbeats 4000000
namespace LW
open PySem PySem.Spec PyProof.Rows L2 BC Evl TR
local macro_rules | `(tactic| walk_at "sx") => `(tactic| try simp only [x_dcT, x_dc, x_updT, x_iitemsT, x_dispT1, x_valsT, x_lockT, SL.x_yfor, SL.x_yplain, SL.x_ythen, SL.x_y0, SL.x_yyield, SL.x_ywhile, SL.x_callY, SL.x_callYK, x_gwhile, x_callG, x_g0, x_gfor, x_gplain, x_gthen, x_gyield, x_listG, x_dnewT, x_dget, x_dget2, x_dput, x_seq, x_next, x_brk, x_cnt, x_nev, x_ret, x_retN, x_drop, x_ifS, x_asg, x_gn, x_gsub, x_par, x_par3, x_aug, x_for, x_lc, x_rng1, x_rng2, x_rng3, x_ilist, x_itup, x_ienum, x_izip, x_izipA, x_istr, x_var, x_c, x_op, x_un, x_test, x_b, x_chain, x_and, x_or, x_not, x_andV, x_orV, x_notV, x_ife, x_nil, x_cons, x_lst, x_tup, x_cb, x_call, x_callK, x_bm, x_bm0, x_tru, x_sl, x_nopart, x_part, x_revL, x_I0, x_I, x_U, x_ip, x_ipC, x_eqI, x_neI, x_eqB, x_neB, x_eqS, x_neS, x_isB, x_isNB, x_lrg, x_gall, x_lenSet, x_augS, x_sortSet, x_rg1, x_rg2,
  L2.start, List.map_cons, List.map_nil, List.length_cons, List.length_nil, Nat.reduceAdd, Nat.reduceSub, Nat.sub_self, Nat.zero_add, List.replicate, List.replicate_succ, List.replicate_zero, List.append_nil, List.cons_append, List.nil_append, List.set_cons_zero, List.set_cons_succ, List.getElem?_cons_zero, List.getElem?_cons_succ, Option.some.injEq, V.int.injEq, V.bl.injEq, V.ref.injEq, V.str.injEq, List.cons.injEq, and_true, true_and, exists_eq_left', exists_eq_left, exists_and_left, exists_eq, if_true, if_false, ite_true, ite_false, Bool.true_eq_false, Bool.false_eq_true, reduceIte, reduceCtorEq, Bool.not_true, Bool.not_false, decide_true, decide_false, decide_eq_true_eq, Bool.and_true, Bool.true_and, Bool.and_self, Bool.and_false, Bool.false_and, Bool.or_self, Bool.or_false, Bool.false_or, Bool.or_true, Bool.true_or, eq_self])
section
open ST
variable {P : Program} {w : World} {K : PySem.W.Frag} {mg : Str → Option Value} {base : Heap}
theorem cut_from {xs : List V} {j : Nat} (h : j ≤ xs.length) : cutV xs (some (j : Int)) none = xs.drop j := by
  unfold cutV
  rw [HT.sIx_nat, HT.sIx_none, Nat.min_eq_left h, List.take_of_length_le (Nat.le_of_eq List.length_drop)]
theorem vis_in {t : List Int} {p : Int} (h : p ∈ t) : (vis t p).length = t.idxOf p + 1 ∧ (vis t p).length ≤ t.length := by
  have hi := List.idxOf_lt_length_of_mem h
  unfold vis
  rw [if_pos h, List.length_take]
  omega
theorem vis_out {t : List Int} {p : Int} (h : p ∉ t) : vis t p = t ++ [p] ∧ (vis t p).length = t.length + 1 := by
  unfold vis
  rw [if_neg h]
  exact ⟨rfl, by rw [List.length_append]; rfl⟩
theorem pg_at {ns : List Int} {i : Nat} {p : Int} (h : ns[i]? = some p) : pg ns i = p := by
  unfold pg
  rw [List.getD_eq_getElem?_getD, h]
  rfl
theorem new_at {ns : List Int} {i : Nat} {p : Int} (h : ns[i]? = some p) : isNew ns i = decide (p ∉ trl (ns.take i)) := by
  unfold isNew
  rw [pg_at h]
  rfl
theorem gr_le (ns : List Int) (i : Nat) : (gr ns i).length ≤ i := by
  have := List.length_filter_le (isNew ns) (List.range i)
  rw [List.length_range] at this
  exact this
theorem ctn_le (ns : List Int) (i : Nat) : (ctn ns i).length ≤ i := by
  have := List.length_filter_le (fun j => !isNew ns j) (List.range i)
  rw [List.length_range] at this
  exact this
theorem gr_nodup (ns : List Int) (i : Nat) : (gr ns i).Nodup := List.nodup_range.filter _
theorem opn_nodup (ns : List Int) (i : Nat) : (opn ns i).Nodup := (gr_nodup ns i).filter _
/-! a visit of a page that is there -/
theorem filt_take {α : Type} (f : α → Int) : ∀ {l : List α} (k : Nat), (l.map f).Nodup → l.filter (fun x => decide (f x ∈ (l.map f).take k)) = l.take k
  | [], _, _ => by simp
  | a :: l, 0, _ => by simp
  | a :: l, k + 1, h => by
    rw [List.map_cons, List.nodup_cons] at h
    rw [List.map_cons, List.take_succ_cons, List.take_succ_cons, List.filter_cons_of_pos (p := fun x => decide (f x ∈ f a :: (l.map f).take k)) (by simp)]
    congr 1
    rw [← filt_take f k h.2]
    refine List.filter_congr fun x hx => decide_eq_decide.mpr ?_
    rw [List.mem_cons]
    exact ⟨fun m => m.resolve_left fun e => h.1 (e ▸ List.mem_map.mpr ⟨x, hx, rfl⟩), .inr⟩
theorem opn_take {ns : List Int} {i : Nat} (hi : i < ns.length) (h : isNew ns i = false) : opn ns (i + 1) = (opn ns i).take ((tr ns i).idxOf (pg ns i) + 1) := by
  have ho := opn_tr (ns := ns) (i := i) (by omega)
  rw [opn_old h, tr_old hi h, ← ho]
  exact filt_take (pg ns) _ (by rw [ho]; exact tr_nodup ns i)
theorem opn_mem {ns : List Int} {i j : Nat} : j ∈ opn ns i ↔ j ∈ gr ns i ∧ endOf ns i j = none := by
  unfold opn
  rw [List.mem_filter, Option.isNone_iff_eq_none]
theorem opn_len {ns : List Int} {i : Nat} (h : i ≤ ns.length) : (opn ns i).length = (tr ns i).length := by rw [← opn_tr h, List.length_map]
theorem end_cut {ns : List Int} {i j : Nat} (hi : i < ns.length) (h : isNew ns i = false) (hj : j ∈ gr ns i) : endOf ns (i + 1) j = if j ∈ (opn ns i).drop ((tr ns i).idxOf (pg ns i) + 1) then some i else endOf ns i j := by
  have lj := gr_lt hj
  rw [end_succ]
  cases e : endOf ns i j with
  | some k =>
    rw [Option.some_or]
    refine (if_neg fun m => ?_).symm
    have := (opn_mem.mp (List.mem_of_mem_drop m)).2
    rw [e] at this
    cases this
  | none =>
    have hm : j ∈ opn ns i := opn_mem.mpr ⟨hj, e⟩
    have nd := opn_nodup ns i
    have hsp := List.take_append_drop ((tr ns i).idxOf (pg ns i) + 1) (opn ns i)
    rw [← hsp, List.nodup_append] at nd
    have ht := opn_take hi h
    rw [opn_old h] at ht
    by_cases c : pg ns j ∈ tr ns (i + 1)
    · have : j ∈ (opn ns i).take ((tr ns i).idxOf (pg ns i) + 1) := by rw [← ht]; exact List.mem_filter.mpr ⟨hm, decide_eq_true c⟩
      rw [if_neg fun q => q.2 c, if_neg fun m => nd.2.2 j this j m rfl]
      rfl
    · have : j ∈ (opn ns i).drop ((tr ns i).idxOf (pg ns i) + 1) := by
        rw [← hsp] at hm
        rcases List.mem_append.mp hm with m | m
        · rw [← ht] at m
          exact absurd (of_decide_eq_true (List.mem_filter.mp m).2) c
        · exact m
      rw [if_pos ⟨lj, c⟩, if_pos this]
      rfl
theorem end_keep {ns : List Int} {i j : Nat} (hi : i < ns.length) (h : isNew ns i = true) (hj : j ∈ gr ns i) : endOf ns (i + 1) j = endOf ns i j := by
  have lj := gr_lt hj
  rw [end_succ]
  cases e : endOf ns i j with
  | some k => rfl
  | none =>
    rw [if_neg]
    · rfl
    · rintro ⟨_, q⟩
      refine q ?_
      have m : pg ns j ∈ tr ns i := by
        rw [← opn_tr (by omega)]
        exact List.mem_map.mpr ⟨j, opn_mem.mpr ⟨hj, e⟩, rfl⟩
      rw [tr_new hi h]
      exact List.mem_append_left _ m
/-- the stays as tuples -/
def oV : Option Nat → V
  | none => .non
  | some k => .int (k : Nat)
def StA (H : Hp) (ns : List Int) (ts : List Addr) (gs : List Nat) (En : Nat → Option Nat) : Prop := ts.length = gs.length ∧ ∀ (x : Nat) u j, ts[x]? = some u → gs[x]? = some j → H u = some (.tup [V.int (j : Nat), V.int (pg ns j), oV (En j)])
section
variable {H H' : Hp} {ns : List Int} {ts : List Addr} {gs : List Nat} {En En' : Nat → Option Nat}
theorem StA.ex (h : StA H ns ts gs En) (e : Ex H H') : StA H' ns ts gs En := ⟨h.1, fun x u j h1 h2 => e _ _ (h.2 x u j h1 h2)⟩
theorem StA.mut {f : Addr} {xs ys : List V} (h : StA H ns ts gs En) (hf : H f = some (.lst xs)) : StA (upd H f (.lst ys)) ns ts gs En := ⟨h.1, fun x u j h1 h2 => by
  have q := h.2 x u j h1 h2
  rw [upd_ne (ne_of q hf (by intro z; cases z))]; exact q⟩
theorem StA.cong (h : StA H ns ts gs En) (e : ∀ j ∈ gs, En j = En' j) : StA H ns ts gs En' := ⟨h.1, fun x u j h1 h2 => by rw [← e j (List.mem_of_getElem? h2)]; exact h.2 x u j h1 h2⟩
theorem StA.snoc {u : Addr} {i : Nat} (h : StA H ns ts gs En) (hu : H u = some (.tup [V.int (i : Nat), V.int (pg ns i), oV (En i)])) : StA H ns (ts ++ [u]) (gs ++ [i]) En := by
  refine ⟨by rw [List.length_append, List.length_append, h.1]; rfl, fun x v j h1 h2 => ?_⟩
  have hl := h.1
  by_cases c : x < ts.length
  · rw [List.getElem?_append_left c] at h1
    rw [List.getElem?_append_left (by omega)] at h2
    exact h.2 x v j h1 h2
  · have := (List.getElem?_eq_some_iff.mp h1).1
    rw [List.length_append] at this
    have hx : x = ts.length := by
      have : x < ts.length + 1 := this
      omega
    subst hx
    rw [List.getElem?_append_right (Nat.le_refl _), Nat.sub_self] at h1
    rw [hl, List.getElem?_append_right (Nat.le_refl _), Nat.sub_self] at h2
    cases Option.some.inj h1
    cases Option.some.inj h2
    exact hu
theorem StA.set {u : Addr} {i x j : Nat} (nd : gs.Nodup) (h : StA H ns ts gs En) (hj : gs[x]? = some j) (hu : H u = some (.tup [V.int (j : Nat), V.int (pg ns j), V.int (i : Nat)])) : StA H ns (ts.set x u) gs (fun l => if l = j then some i else En l) := by
  refine ⟨by rw [List.length_set, h.1], fun y v l h1 h2 => ?_⟩
  rw [List.getElem?_set] at h1
  by_cases e : x = y
  · subst e
    rw [if_pos rfl] at h1
    split at h1
    · obtain rfl : u = v := by simpa using h1
      rw [hj] at h2
      cases Option.some.inj h2
      simp only [if_true]
      exact hu
    · cases h1
  · rw [if_neg e] at h1
    have : l ≠ j := fun z => by
      subst z
      have hx := (List.getElem?_eq_some_iff.mp hj).1
      exact e ((List.getElem?_inj hx nd).mp (hj.trans h2.symm))
    simp only [if_neg this]
    exact h.2 y v l h1 h2
end
def PlOk (gs os : List Nat) (PL : List Int) : Prop := PL.length = os.length ∧ ∀ (t : Nat) x j, PL[t]? = some x → os[t]? = some j → 0 ≤ x ∧ gs[x.toNat]? = some j
theorem PlOk.snoc {gs os : List Nat} {PL : List Int} {i n : Nat} (h : PlOk gs os PL) (hn : n = gs.length) : PlOk (gs ++ [i]) (os ++ [i]) (PL ++ [(n : Int)]) := by
  refine ⟨by rw [List.length_append, List.length_append, h.1]; rfl, fun t x j h1 h2 => ?_⟩
  have hl := h.1
  by_cases c : t < PL.length
  · rw [List.getElem?_append_left c] at h1
    rw [List.getElem?_append_left (by omega)] at h2
    obtain ⟨a, b⟩ := h.2 t x j h1 h2
    exact ⟨a, by rw [List.getElem?_append_left (List.getElem?_eq_some_iff.mp b).1]; exact b⟩
  · have := (List.getElem?_eq_some_iff.mp h1).1
    rw [List.length_append] at this
    have hx : t = PL.length := by
      have : t < PL.length + 1 := this
      omega
    subst hx
    rw [List.getElem?_append_right (Nat.le_refl _), Nat.sub_self] at h1
    rw [hl, List.getElem?_append_right (Nat.le_refl _), Nat.sub_self] at h2
    cases Option.some.inj h1
    cases Option.some.inj h2
    refine ⟨by omega, ?_⟩
    rw [show ((n : Nat) : Int).toNat = gs.length by omega, List.getElem?_append_right (Nat.le_refl _), Nat.sub_self]
    rfl
theorem PlOk.take {gs os : List Nat} {PL : List Int} {k : Nat} (h : PlOk gs os PL) : PlOk gs (os.take k) (PL.take k) := by
  refine ⟨by rw [List.length_take, List.length_take, h.1], fun t x j h1 h2 => ?_⟩
  rw [List.getElem?_take] at h1 h2
  by_cases c : t < k
  · rw [if_pos c] at h1 h2
    exact h.2 t x j h1 h2
  · rw [if_neg c] at h1
    cases h1
def Enz (ns : List Int) (i k z : Nat) (j : Nat) : Option Nat := if j ∈ ((opn ns i).drop k).take z then some i else endOf ns i j
def spStays (K : PySem.W.Frag) : Sp := fun vs H Q _ => ∃ (a : Addr) (ns : List Int), vs = [.ref a] ∧ SqL K H a (ns.map V.int) ∧ ns.length ≤ 300 ∧ Pg 40 ns ∧
  ∀ (r : Addr) (ts : List Addr) H', H r = none → Ex H H' → H' r = some (.lst (ts.map V.ref)) → StA H' ns ts (gr ns ns.length) (endOf ns ns.length) → Q (.ref r) H'
def JSt (H : Hp) (a : Addr) (ns : List Int) (i : Nat) (σ' : L2.St) (H' : Hp) : Prop := ∃ f t q l4 l5 l6 l7 ts PL, σ' = [some (.ref a), some (.ref f), some (.ref t), some (.ref q), l4, l5, l6, l7] ∧ Ex H H' ∧ H f = none ∧ H q = none ∧ f ≠ q ∧ f ≠ t ∧ q ≠ t ∧
  H' f = some (.lst ((ts : List Addr).map V.ref)) ∧ StA H' ns ts (gr ns i) (endOf ns i) ∧ H' t = some (.lst ((trl (ns.take i)).map V.int)) ∧ H' q = some (.lst ((PL : List Int).map V.int)) ∧ PlOk (gr ns i) (opn ns i) PL
def JSi (HZ : Hp) (a f t q : Addr) (ns : List Int) (i kk : Nat) (p kp : Int) (z : Nat) (σ' : L2.St) (H' : Hp) : Prop := ∃ l7 ts, σ' = [some (.ref a), some (.ref f), some (.ref t), some (.ref q), some (.int (i : Nat)), some (.int p), some (.int kp), l7] ∧ Fx f HZ H' ∧
  H' f = some (.lst ((ts : List Addr).map V.ref)) ∧ StA H' ns ts (gr ns i) (Enz ns i kk z)
theorem ref_at {ts : List Addr} {j : Nat} (h : j < ts.length) : ∃ u, ts[j]? = some u ∧ (ts.map V.ref)[j]? = some (.ref u) := ⟨ts[j], List.getElem?_eq_getElem h, by rw [List.getElem?_map, List.getElem?_eq_getElem h]; rfl⟩
theorem ok_stays (T : Txt K mg) : FnOk P w K mg base CX0 5 T.f_stays T.fd_stays ["visits"] (spStays K) := by
  refine T.F_stays.ok sc_stays (fun vs H Q E h => ?_) (fun cdv A outer s H vs Q E hr h => ?_)
  · obtain ⟨a, ns, rfl, _⟩ := h
    rfl
  · obtain ⟨a, ns, rfl, hA, hl, hp, k⟩ := h
    apply Exists.intro
    apply And.intro
    · apply pss_cons
      · exact (ps_expr (pe_call (ok_check_visits T) (hr.mono (by decide)) (by rfl) T.m_check_visits T.F_check_visits.kp T.b_check_visits .nil pass0 (pa_cons (pv 0) pa_nil)))
      apply pss_cons
      · exact (ps_set (i := 1) sc_stays.nd rfl (.inl rfl) (pe_lst pa_nil))
      apply pss_cons
      · exact (ps_par (i := 2) (j := 3) (by rfl) sc_stays.nd rfl rfl (by decide) rfl rfl (pa_cons (pe_lst pa_nil) (pa_cons (pe_lst pa_nil) pa_nil)) (by rfl))
      apply pss_cons
      · apply ps_for PassesOwn.never rfl
        · exact (k_pi_enum (K := K) rfl (by rfl) T.n_enumerate (pa_cons (pv 0) pa_nil))
        · exact (k_tup (K := K) (n := 2) rfl rfl (pgs_cons (pg_name (i := 4) sc_stays.nd rfl (.inl rfl)) (pgs_cons (pg_name (i := 5) sc_stays.nd rfl (.inl rfl)) pgs_nil)))
        · apply pss_cons
          · apply ps_if
            · exact (pt_cmpR (k_in (K := K) rfl) (pv 5) (pv 2) (by rfl))
            · apply pss_cons
              · exact (ps_set (i := 6) sc_stays.nd rfl (.inl rfl) (pe_op op_add (k_bm (K := K) rfl (pe_bm PySem.F.plainAttrs_list PySem.F.slot_list_index PySem.F.type_list_index (k_index (K := K) rfl) (pv 2) (pa_cons (pv 5) pa_nil))) pe_int))
              apply pss_cons
              · apply ps_for PassesOwn.never rfl
                · exact (k_pi_list (K := K) rfl (pe_slice (k_sl_list (K := K) rfl) (pv 3) (po_some (pv 6)) po_none))
                · exact (pg_name (i := 7) sc_stays.nd rfl (.inl rfl))
                · apply pss_one
                  exact (ps_asg (pe_op op_catT (pe_slice sl_tup (pe_ix (k_ix_list (K := K) rfl) (pv 1) (pv 7) (fun _ _ => rfl)) po_none (po_some pe_int)) (pe_tup (pa_cons (pv 4) pa_nil))) (pg_sub (pv 1) (pv 7) set_list))
              apply pss_one
              exact (ps_set (i := 3) sc_stays.nd rfl (.inl rfl) (pe_slice (k_sl_list (K := K) rfl) (pv 3) po_none (po_some (pv 6))))
            · apply pss_cons
              · exact (ps_expr (k_bm (K := K) rfl (pe_bm PySem.F.plainAttrs_list PySem.F.slot_list_append PySem.F.type_list_append mt_append (pv 3) (pa_cons (pe_callB (k_len (K := K) rfl) (by rfl) T.n_len PySem.boot_len (pa_cons (pv 1) pa_nil)) pa_nil))))
              apply pss_one
              exact (ps_expr (k_bm (K := K) rfl (pe_bm PySem.F.plainAttrs_list PySem.F.slot_list_append PySem.F.type_list_append mt_append (pv 1) (pa_cons (pe_tup (pa_cons (pv 4) (pa_cons (pv 5) (pa_cons pe_non pa_nil)))) pa_nil))))
          apply pss_one
          exact (ps_set (i := 2) sc_stays.nd rfl (.inl rfl) (pe_call (ok_visited T) (hr.mono (by decide)) (by rfl) T.m_visited T.F_visited.kp T.b_visited .nil pass0 (pa_cons (pv 2) (pa_cons (pv 5) pa_nil))))
      apply pss_one
      exact (ps_ret (pv 1))
    walk_at "sx"
    refine ⟨a, ns, rfl, hA, hl, hp, fun H1 e1 => ?_⟩
    refine ⟨sz_ok (by omega), fun f nf => ?_⟩
    have e2 := e1.trans (Ex.new nf (o := .lst []))
    refine ⟨sz_ok (by omega), fun t nt => ⟨sz_ok (by omega), fun q nq => ?_⟩⟩
    have nft : f ≠ t := ne_of_none upd_same nt
    have e3 := e2.trans (Ex.new nt (o := .lst []))
    have nfq : f ≠ q := ne_of_none ((Ex.new nt) _ _ upd_same) nq
    have ntq : t ≠ q := ne_of_none upd_same nq
    have e4 := e3.trans (Ex.new nq (o := .lst []))
    refine ⟨_, _, ⟨rfl, rfl⟩, _, ex_l e4 hA, ?_⟩
    refine lg_enum (xs := ns.map V.int) (JSt H a ns) ⟨f, t, q, none, none, none, none, [], [], rfl, e4, fresh_back e1 nf, fresh_back e3 nq, nfq, nft, ntq.symm, by rw [upd_ne nfq, upd_ne nft, upd_same]; rfl, ⟨rfl, fun x u j h => by simp at h⟩, by rw [upd_ne ntq, upd_same]; rfl, by rw [upd_same]; rfl, rfl, fun t x j h => by simp at h⟩ (fun i σ' H' _ hP => ?_) (fun i v σ' H' T' hv hP nT => ?_) (fun σ' H' hP => ?_)
    · obtain ⟨_, _, _, _, _, _, _, _, _, _, e, _⟩ := hP
      exact ex_l e hA
    · obtain ⟨f, t, q, l4, l5, l6, l7, ts, PL, rfl, e, nf, nq, nfq, nft, nqt, hf, hts, ht, hq, hPL⟩ := hP
      obtain ⟨p, hpn, rfl⟩ := ints_at hv
      have hi := (List.getElem?_eq_some_iff.mp hpn).1
      have eT := Ex.new nT (o := .tup [V.int (i : Nat), V.int p])
      refine g_two upd_same ?_
      simp only [List.set_cons_zero, List.set_cons_succ]
      have hf := eT _ _ hf
      have ht := eT _ _ ht
      have hq := eT _ _ hq
      have hts := hts.ex eT
      have e := e.trans eT
      generalize (upd H' T' (.tup [V.int (i : Nat), V.int p])) = HT at hf ht hq hts e ⊢
      have tl := trl_len (n := 40) (hp.take i)
      have gl := gr_le ns i
      have htl := hts.1
      have hPl := hPL.1
      have hol := opn_len (ns := ns) (i := i) (by omega)
      have hol : (opn ns i).length = (trl (ns.take i)).length := hol
      have hpg := pg_at hpn
      have hnew := new_at hpn
      refine seq_cut (fun σ2 H2 => ∃ l6 l7 ts PL q, σ2 = [some (.ref a), some (.ref f), some (.ref t), some (.ref q), some (.int (i : Nat)), some (.int p), l6, l7] ∧ Ex H H2 ∧ H q = none ∧ f ≠ q ∧ q ≠ t ∧ H2 f = some (.lst ((ts : List Addr).map V.ref)) ∧ StA H2 ns ts (gr ns (i + 1)) (endOf ns (i + 1)) ∧ H2 t = some (.lst ((trl (ns.take i)).map V.int)) ∧ H2 q = some (.lst ((PL : List Int).map V.int)) ∧ PlOk (gr ns (i + 1)) (opn ns (i + 1)) PL) (fun N hN => ?_) (fun σ2 H2 hC => ?_)
      · walk_at "sx"
        refine inL (.inl (.inl ht)) ?_
        by_cases m : p ∈ trl (ns.take i)
        · have hnf : isNew ns i = false := by rw [hnew]; exact decide_eq_false (not_not_intro m)
          have hix := List.idxOf_lt_length_of_mem m
          have hvl := (vis_in m).1
          have hot := opn_take hi hnf
          have hec := fun j hj => end_cut (j := j) hi hnf hj
          rw [hpg] at hot hec
          have hot : opn ns (i + 1) = (opn ns i).take ((trl (ns.take i)).idxOf p + 1) := hot
          have hec : ∀ j ∈ gr ns i, endOf ns (i + 1) j = if j ∈ (opn ns i).drop ((trl (ns.take i)).idxOf p + 1) then some i else endOf ns i j := hec
          rw [decide_eq_true m]
          walk_at "sx"
          refine ⟨tyL ht, ?_⟩
          refine idxL (.inl (.inl ht)) m ?_
          walk_at "sx"
          refine slL (.inl (.inl hq)) fun z nz1 => ?_
          have ez := Ex.new nz1 (o := .lst (cutV (PL.map V.int) (some (((trl (ns.take i)).idxOf p : Nat) + 1 : Int)) none))
          have hz : (upd HT z (.lst (cutV (PL.map V.int) (some (((trl (ns.take i)).idxOf p : Nat) + 1 : Int)) none))) z = some (.lst (cutV (PL.map V.int) (some (((trl (ns.take i)).idxOf p : Nat) + 1 : Int)) none)) := upd_same
          have nfz : f ≠ z := ne_of_none hf nz1
          have hf := ez _ _ hf
          have ht := ez _ _ ht
          have hq := ez _ _ hq
          have hts := hts.ex ez
          have e := e.trans ez
          generalize (upd HT z (.lst (cutV (PL.map V.int) (some (((trl (ns.take i)).idxOf p : Nat) + 1 : Int)) none))) = HZ at hz hf ht hq hts e ⊢
          refine ⟨z, rfl, ⟨_, .inl (.inl hz)⟩, ?_⟩
          have hcv : cutV (PL.map V.int) (some (((trl (ns.take i)).idxOf p : Nat) + 1 : Int)) none = (PL.drop ((trl (ns.take i)).idxOf p + 1)).map V.int := by
            rw [show (((trl (ns.take i)).idxOf p : Nat) + 1 : Int) = ((((trl (ns.take i)).idxOf p + 1) : Nat) : Int) by omega, cut_from (by rw [List.length_map]; omega), List.map_drop]
          rw [hcv] at hz
          refine lg_list (xs := (PL.drop ((trl (ns.take i)).idxOf p + 1)).map V.int) (JSi HZ a f t q ns i ((trl (ns.take i)).idxOf p + 1) p (((trl (ns.take i)).idxOf p : Nat) + 1)) ⟨l7, ts, rfl, Fx.refl _ _, hf, hts.cong fun j _ => by unfold Enz; rw [List.take_zero, if_neg (by simp)]⟩ (fun j σ' H' _ hP => ?_) (fun j v σ' H' hv hP => ?_) (fun σ' H' hP => ?_)
          · obtain ⟨_, _, _, fx, _⟩ := hP
            exact .inl (.inl (fx _ _ nfz.symm hz))
          · obtain ⟨l7, ts', rfl, fx, hf', hts'⟩ := hP
            obtain ⟨x, hx, rfl⟩ := ints_at hv
            rw [List.getElem?_drop] at hx
            have htl' := hts'.1
            obtain ⟨y, hy⟩ : ∃ y, (opn ns i)[((trl (ns.take i)).idxOf p + 1) + j]? = some y := ⟨_, List.getElem?_eq_getElem (by have := (List.getElem?_eq_some_iff.mp hx).1; omega)⟩
            obtain ⟨hb0, hgx⟩ := hPL.2 _ _ _ hx hy
            have hb1 := (List.getElem?_eq_some_iff.mp hgx).1
            obtain ⟨u, hu1, hu2⟩ := ref_at (ts := ts') (j := x.toNat) (by omega)
            have hu := hts'.2 _ _ _ hu1 hgx
            generalize oV (Enz ns i ((trl (ns.take i)).idxOf p + 1) j y) = r2 at hu
            have r1e : V.int (pg ns y) = V.int (pg ns y) := rfl
            walk_at "sx"
            refine ixL (.inl (.inl hf')) (atI_n (j := x.toNat) (by omega) hu2) ?_
            refine ⟨u, _, rfl, .inl (.inl hu), (show ¬ (_root_.HT.sIx 3 0 none = 0 ∧ _root_.HT.sIx 3 3 (some 2) = 3) by decide), fun c1 nc1 => ?_⟩
            have x1 := Ex.new nc1 (o := .tup (cutV [V.int (y : Nat), V.int (pg ns y), r2] none (some 2)))
            have y1 : (upd H' c1 (.tup (cutV [V.int (y : Nat), V.int (pg ns y), r2] none (some 2)))) c1 = some (.tup [V.int (y : Nat), V.int (pg ns y)]) := upd_same
            generalize (upd H' c1 (.tup (cutV [V.int (y : Nat), V.int (pg ns y), r2] none (some 2)))) = HA at x1 y1 ⊢
            refine ⟨sz_ok (by omega), fun c2 nc2 => ?_⟩
            have x2 := x1.trans (Ex.new nc2 (o := .tup [V.int (i : Nat)]))
            refine ⟨c1, c2, [V.int (y : Nat), V.int (pg ns y)], [V.int (i : Nat)], rfl, rfl, .inl (.inl ((Ex.new nc2) _ _ y1)), .inl (.inl upd_same), List.cons_ne_nil _ _, sz_ok (by simp), ⟨fun h => absurd h (List.cons_ne_nil _ _), fun _ c nc => ?_⟩⟩
            have x3 := x2.trans (Ex.new nc (o := .tup ([V.int (y : Nat), V.int (pg ns y)] ++ [V.int (i : Nat)])))
            have hf3 := x3 _ _ hf'
            have ht3 := (hts'.ex x3).set (i := i) (gr_nodup ns i) hgx (u := c) upd_same
            refine setL hf3 (ixN_n (j := x.toNat) (by omega) (by rw [List.length_map]; omega)) ?_
            rw [show (ts'.map V.ref).set x.toNat (V.ref c) = (ts'.set x.toNat c).map V.ref from (List.map_set ..).symm]
            refine ⟨_, ts'.set x.toNat c, rfl, (fx.trans (Fx.of x3)).trans Fx.put, upd_same, (ht3.mut hf3).cong fun l _ => ?_⟩
            unfold Enz
            have hdy : ((opn ns i).drop ((trl (ns.take i)).idxOf p + 1))[j]? = some y := by rw [List.getElem?_drop]; exact hy
            rw [List.take_add_one, hdy, Option.toList_some]
            by_cases cl : l = y
            · subst cl
              rw [if_pos rfl, if_pos (List.mem_append_right _ (List.mem_singleton.mpr rfl))]
            · rw [if_neg cl]
              by_cases cm : l ∈ ((opn ns i).drop ((trl (ns.take i)).idxOf p + 1)).take j
              · rw [if_pos cm, if_pos (List.mem_append_left _ cm)]
              · rw [if_neg cm, if_neg fun z => (List.mem_append.mp z).elim cm fun z => cl (List.mem_singleton.mp z)]
          · obtain ⟨l7, ts', rfl, fx, hf', hts'⟩ := hP
            rw [List.length_map] at hts'
            have hts' : StA H' ns ts' (gr ns (i + 1)) (endOf ns (i + 1)) := by
              rw [gr_no hnf]
              refine hts'.cong fun j hj => ?_
              unfold Enz
              rw [hec j hj, List.take_of_length_le (by rw [List.length_drop, List.length_drop, hPl]; exact Nat.le_refl _)]
            have e' : Ex H H' := ((Fx.of e).trans fx).ex nf
            have hq' := fx _ _ nfq.symm hq
            have ht' := fx _ _ nft.symm ht
            walk_at "sx"
            refine slL (.inl (.inl hq')) fun y ny => ?_
            rw [cut_to (PL.map V.int) (j := (trl (ns.take i)).idxOf p + 1) (by omega) (by rw [List.length_map]; omega), ← List.map_take]
            have ey := Ex.new ny (o := .lst ((PL.take ((trl (ns.take i)).idxOf p + 1)).map V.int))
            refine hN _ _ ⟨_, _, ts', PL.take ((trl (ns.take i)).idxOf p + 1), y, rfl, e'.trans ey, fresh_back e' ny, ne_of_none hf' ny, (ne_of_none ht' ny).symm, ey _ _ hf', hts'.ex ey, ey _ _ ht', upd_same, by rw [gr_no hnf, hot]; exact hPL.take⟩
        · have hnt : isNew ns i = true := by rw [hnew]; exact decide_eq_true m
          have hvl := (vis_out m).2
          rw [decide_eq_false m]
          walk_at "sx"
          refine ⟨tyL hq, lenL (.inl (.inl hf)) ?_⟩
          rw [List.length_map]
          refine appL hq (BC.sz_lt (by rw [List.length_map]; omega)) ?_
          have hf2 : (upd HT q (.lst (PL.map V.int ++ [V.int (ts.length : Nat)]))) f = _ := (upd_ne nfq).trans hf
          have ht2 : (upd HT q (.lst (PL.map V.int ++ [V.int (ts.length : Nat)]))) t = _ := (upd_ne nqt.symm).trans ht
          have hq2 : (upd HT q (.lst (PL.map V.int ++ [V.int (ts.length : Nat)]))) q = some (.lst ((PL ++ [(ts.length : Int)]).map V.int)) := by rw [upd_same, List.map_append]; rfl
          have hts2 := hts.mut (ys := PL.map V.int ++ [V.int (ts.length : Nat)]) hq
          have eq2 : Ex H (upd HT q (.lst (PL.map V.int ++ [V.int (ts.length : Nat)]))) := e.mut nq
          generalize (upd HT q (.lst (PL.map V.int ++ [V.int (ts.length : Nat)]))) = HQ at hf2 ht2 hq2 hts2 eq2 ⊢
          refine ⟨tyL hf2, sz_ok (by omega), fun u nu => ?_⟩
          have eu := Ex.new nu (o := .tup [V.int (i : Nat), V.int p, V.non])
          refine appL (eu _ _ hf2) (BC.sz_lt (by rw [List.length_map]; omega)) ?_
          have hts3 : StA (upd HQ u (.tup [V.int (i : Nat), V.int p, V.non])) ns ts (gr ns i) (endOf ns (i + 1)) := (hts2.ex eu).cong fun j hj => (end_keep hi hnt hj).symm
          have ht3 := hts3.snoc (u := u) (i := i) (by rw [upd_same, hpg, end_late (Nat.le_refl _)]; rfl)
          rw [show ts.map V.ref ++ [V.ref u] = (ts ++ [u]).map V.ref by rw [List.map_append]; rfl]
          refine hN _ _ ⟨_, _, ts ++ [u], PL ++ [(ts.length : Int)], q, rfl, (eq2.trans eu).mut nf, nq, nfq, nqt, upd_same, by rw [gr_yes hnt]; exact ht3.mut (eu _ _ hf2), by rw [upd_ne nft.symm]; exact eu _ _ ht2, by rw [upd_ne nfq.symm]; exact eu _ _ hq2, by rw [gr_yes hnt, opn_new hi hnt (opn_tr (by omega))]; exact hPL.snoc htl⟩
      obtain ⟨l6, l7, ts2, PL2, q2, rfl, e2, nq2, nfq2, nqt2, hf2, hts2, ht2, hq2, hPL2⟩ := hC
      walk_at "sx"
      refine ⟨t, _, p, rfl, ht2, by omega, fun t2 H3 nt2 e3 ht3 => ?_⟩
      rw [← trl_snoc hpn] at ht3
      exact ⟨f, t2, q2, _, _, _, _, ts2, PL2, rfl, e2.trans e3, nf, nq2, nfq2, ne_of_none hf2 nt2, ne_of_none hq2 nt2, e3 _ _ hf2, hts2.ex e3, ht3, e3 _ _ hq2, hPL2⟩
    · obtain ⟨f, t, q, l4, l5, l6, l7, ts, PL, rfl, e, nf, nq, nfq, nft, nqt, hf, hts, ht, hq, hPL⟩ := hP
      walk_at "sx"
      rw [List.length_map] at hts
      exact k f ts _ nf e hf hts
/-- the cuts as tuples, each with a list of its own -/
def CtN (H0 H : Hp) (f : Addr) (ts rs : List Addr) (gs : List Nat) (C : Nat → List V) : Prop := ts.length = gs.length ∧ rs.length = gs.length ∧ rs.Nodup ∧ (∀ r ∈ rs, r ≠ f ∧ H0 r = none) ∧ ∀ (x : Nat) u r j, ts[x]? = some u → rs[x]? = some r → gs[x]? = some j → H u = some (.tup [V.int (j : Nat), V.ref r]) ∧ H r = some (.lst (C j))
theorem CtN.ex {H0 H H' : Hp} {f : Addr} {ts rs : List Addr} {gs : List Nat} {C : Nat → List V} (h : CtN H0 H f ts rs gs C) (e : Ex H H') : CtN H0 H' f ts rs gs C := ⟨h.1, h.2.1, h.2.2.1, h.2.2.2.1, fun x u r j h1 h2 h3 => by
  obtain ⟨a, b⟩ := h.2.2.2.2 x u r j h1 h2 h3
  exact ⟨e _ _ a, e _ _ b⟩⟩
theorem CtN.mut {H0 H : Hp} {f : Addr} {xs ys : List V} {ts rs : List Addr} {gs : List Nat} {C : Nat → List V} (h : CtN H0 H f ts rs gs C) (hf : H f = some (.lst xs)) : CtN H0 (upd H f (.lst ys)) f ts rs gs C := ⟨h.1, h.2.1, h.2.2.1, h.2.2.2.1, fun x u r j h1 h2 h3 => by
  obtain ⟨a, b⟩ := h.2.2.2.2 x u r j h1 h2 h3
  exact ⟨by rw [upd_ne (ne_of a hf (by intro z; cases z))]; exact a, by rw [upd_ne (h.2.2.2.1 r (List.mem_of_getElem? h2)).1]; exact b⟩⟩
theorem CtN.mut2 {H0 H : Hp} {f g : Addr} {xs ys : List V} {ts rs : List Addr} {gs : List Nat} {C : Nat → List V} (h : CtN H0 H f ts rs gs C) (ng : g ∉ rs) (hg : H g = some (.lst xs)) : CtN H0 (upd H g (.lst ys)) f ts rs gs C := ⟨h.1, h.2.1, h.2.2.1, h.2.2.2.1, fun x u r j h1 h2 h3 => by
  obtain ⟨a, b⟩ := h.2.2.2.2 x u r j h1 h2 h3
  exact ⟨by rw [upd_ne (ne_of a hg (by intro z; cases z))]; exact a, by rw [upd_ne (fun z : r = g => ng (by rw [← z]; exact List.mem_of_getElem? h2))]; exact b⟩⟩
theorem CtN.notin {H0 H : Hp} {f z : Addr} {ts rs : List Addr} {gs : List Nat} {C : Nat → List V} (h : CtN H0 H f ts rs gs C) (nz1 : H z = none) : z ∉ rs := fun m => by
  obtain ⟨x, hx⟩ := List.getElem?_of_mem m
  have hl := (List.getElem?_eq_some_iff.mp hx).1
  have h1 := h.1
  have h2 := h.2.1
  have := (h.2.2.2.2 x ts[x] z gs[x] (List.getElem?_eq_getElem (by omega)) hx (List.getElem?_eq_getElem (by omega))).2
  rw [nz1] at this
  cases this
theorem CtN.snoc {H0 H : Hp} {f u r : Addr} {i : Nat} {ts rs : List Addr} {gs : List Nat} {C : Nat → List V} (h : CtN H0 H f ts rs gs C) (hr : r ≠ f) (h0 : H0 r = none) (ni : r ∉ rs) (hu : H u = some (.tup [V.int (i : Nat), V.ref r])) (hc : H r = some (.lst (C i))) : CtN H0 H f (ts ++ [u]) (rs ++ [r]) (gs ++ [i]) C := by
  have hl := h.1
  have hl2 := h.2.1
  refine ⟨by rw [List.length_append, List.length_append, h.1]; rfl, by rw [List.length_append, List.length_append, h.2.1]; rfl, ?_, fun q hq => ?_, fun x v w j h1 h2 h3 => ?_⟩
  · rw [List.nodup_append]
    exact ⟨h.2.2.1, by simp, fun a ha b hb e => ni (by rw [List.mem_singleton.mp hb] at e; rw [← e]; exact ha)⟩
  · rcases List.mem_append.mp hq with hq | hq
    · exact h.2.2.2.1 q hq
    · rw [List.mem_singleton.mp hq]; exact ⟨hr, h0⟩
  · by_cases c : x < ts.length
    · rw [List.getElem?_append_left c] at h1
      rw [List.getElem?_append_left (by omega)] at h2
      rw [List.getElem?_append_left (by omega)] at h3
      exact h.2.2.2.2 x v w j h1 h2 h3
    · have := (List.getElem?_eq_some_iff.mp h1).1
      rw [List.length_append] at this
      have hx : x = ts.length := by
        have : x < ts.length + 1 := this
        omega
      subst hx
      rw [List.getElem?_append_right (Nat.le_refl _), Nat.sub_self] at h1
      rw [List.getElem?_append_right (by omega), show ts.length - rs.length = 0 by omega] at h2
      rw [List.getElem?_append_right (by omega), show ts.length - gs.length = 0 by omega] at h3
      cases Option.some.inj h1
      cases Option.some.inj h2
      cases Option.some.inj h3
      exact ⟨hu, hc⟩
def cutV2 (ns : List Int) (j : Nat) : List V := (cutl ns j).map V.int
def spCuts (K : PySem.W.Frag) : Sp := fun vs H Q _ => ∃ (a : Addr) (ns : List Int), vs = [.ref a] ∧ SqL K H a (ns.map V.int) ∧ ns.length ≤ 300 ∧ Pg 40 ns ∧
  ∀ (r : Addr) (ts rs : List Addr) H', H r = none → Ex H H' → H' r = some (.lst (ts.map V.ref)) → CtN H H' r ts rs (ctn ns ns.length) (cutV2 ns) → Q (.ref r) H'
def JCu (H : Hp) (a : Addr) (ns : List Int) (i : Nat) (σ' : L2.St) (H' : Hp) : Prop := ∃ f t l3 l4 ts rs, σ' = [some (.ref a), some (.ref f), some (.ref t), l3, l4] ∧ Ex H H' ∧ H f = none ∧ f ≠ t ∧
  H' f = some (.lst ((ts : List Addr).map V.ref)) ∧ CtN H H' f ts rs (ctn ns i) (cutV2 ns) ∧ H' t = some (.lst ((trl (ns.take i)).map V.int))
theorem ok_cuts (T : Txt K mg) : FnOk P w K mg base CX0 5 T.f_cuts T.fd_cuts ["visits"] (spCuts K) := by
  refine T.F_cuts.ok sc_cuts (fun vs H Q E h => ?_) (fun cdv A outer s H vs Q E hr h => ?_)
  · obtain ⟨a, ns, rfl, _⟩ := h
    rfl
  · obtain ⟨a, ns, rfl, hA, hl, hp, k⟩ := h
    apply Exists.intro
    apply And.intro
    · apply pss_cons
      · exact (ps_expr (pe_call (ok_check_visits T) (hr.mono (by decide)) (by rfl) T.m_check_visits T.F_check_visits.kp T.b_check_visits .nil pass0 (pa_cons (pv 0) pa_nil)))
      apply pss_cons
      · exact (ps_par (i := 1) (j := 2) (by rfl) sc_cuts.nd rfl rfl (by decide) rfl rfl (pa_cons (pe_lst pa_nil) (pa_cons (pe_lst pa_nil) pa_nil)) (by rfl))
      apply pss_cons
      · apply ps_for PassesOwn.never rfl
        · exact (k_pi_enum (K := K) rfl (by rfl) T.n_enumerate (pa_cons (pv 0) pa_nil))
        · exact (k_tup (K := K) (n := 2) rfl rfl (pgs_cons (pg_name (i := 3) sc_cuts.nd rfl (.inl rfl)) (pgs_cons (pg_name (i := 4) sc_cuts.nd rfl (.inl rfl)) pgs_nil)))
        · apply pss_cons
          · apply ps_if
            · exact (pt_cmpR (k_in (K := K) rfl) (pv 4) (pv 2) (by rfl))
            · apply pss_one
              exact (ps_expr (k_bm (K := K) rfl (pe_bm PySem.F.plainAttrs_list PySem.F.slot_list_append PySem.F.type_list_append mt_append (pv 1) (pa_cons (pe_tup (pa_cons (pv 3) (pa_cons (pe_slice (k_sl_list (K := K) rfl) (pv 2) (po_some (pe_op op_add (k_bm (K := K) rfl (pe_bm PySem.F.plainAttrs_list PySem.F.slot_list_index PySem.F.type_list_index (k_index (K := K) rfl) (pv 2) (pa_cons (pv 4) pa_nil))) pe_int)) po_none) pa_nil))) pa_nil))))
            · exact pss_nil
          apply pss_one
          exact (ps_set (i := 2) sc_cuts.nd rfl (.inl rfl) (pe_call (ok_visited T) (hr.mono (by decide)) (by rfl) T.m_visited T.F_visited.kp T.b_visited .nil pass0 (pa_cons (pv 2) (pa_cons (pv 4) pa_nil))))
      apply pss_one
      exact (ps_ret (pv 1))
    walk_at "sx"
    refine ⟨a, ns, rfl, hA, hl, hp, fun H1 e1 => ?_⟩
    refine ⟨sz_ok (by omega), fun f nf => ⟨sz_ok (by omega), fun t nt => ?_⟩⟩
    have nft : f ≠ t := ne_of_none upd_same nt
    have e3 := (e1.trans (Ex.new nf (o := .lst []))).trans (Ex.new nt (o := .lst []))
    refine ⟨_, _, ⟨rfl, rfl⟩, _, ex_l e3 hA, ?_⟩
    refine lg_enum (xs := ns.map V.int) (JCu H a ns) ⟨f, t, none, none, [], [], rfl, e3, fresh_back e1 nf, nft, by rw [upd_ne nft, upd_same]; rfl, ⟨rfl, rfl, List.nodup_nil, fun r m => absurd m List.not_mem_nil, fun x u r j h => by simp at h⟩, by rw [upd_same]; rfl⟩ (fun i σ' H' _ hP => ?_) (fun i v σ' H' T' hv hP nT => ?_) (fun σ' H' hP => ?_)
    · obtain ⟨_, _, _, _, _, _, _, e, _⟩ := hP
      exact ex_l e hA
    · obtain ⟨f, t, l3, l4, ts, rs, rfl, e, nf, nft, hf, hts, ht⟩ := hP
      obtain ⟨p, hpn, rfl⟩ := ints_at hv
      have hi := (List.getElem?_eq_some_iff.mp hpn).1
      have eT := Ex.new nT (o := .tup [V.int (i : Nat), V.int p])
      refine g_two upd_same ?_
      simp only [List.set_cons_zero, List.set_cons_succ]
      have hf := eT _ _ hf
      have ht := eT _ _ ht
      have hts := hts.ex eT
      have e := e.trans eT
      generalize (upd H' T' (.tup [V.int (i : Nat), V.int p])) = HT at hf ht hts e ⊢
      have tl := trl_len (n := 40) (hp.take i)
      have gl := ctn_le ns i
      have htl := hts.1
      have hnew := new_at hpn
      have hpg := pg_at hpn
      refine seq_cut (fun σ2 H2 => ∃ ts rs, σ2 = [some (.ref a), some (.ref f), some (.ref t), some (.int (i : Nat)), some (.int p)] ∧ Ex H H2 ∧ H2 f = some (.lst ((ts : List Addr).map V.ref)) ∧ CtN H H2 f ts rs (ctn ns (i + 1)) (cutV2 ns) ∧ H2 t = some (.lst ((trl (ns.take i)).map V.int))) (fun N hN => ?_) (fun σ2 H2 hC => ?_)
      · walk_at "sx"
        refine inL (.inl (.inl ht)) ?_
        by_cases m : p ∈ trl (ns.take i)
        · have hnf : isNew ns i = false := by rw [hnew]; exact decide_eq_false (not_not_intro m)
          rw [decide_eq_true m]
          walk_at "sx"
          refine ⟨tyL hf, ?_⟩
          refine ⟨tyL ht, ?_⟩
          refine idxL (.inl (.inl ht)) m ?_
          walk_at "sx"
          refine slL (.inl (.inl ht)) fun z nz1 => ?_
          have hix := List.idxOf_lt_length_of_mem m
          have hcv : cutV ((trl (ns.take i)).map V.int) (some (((trl (ns.take i)).idxOf p : Nat) + 1 : Int)) none = (((tr ns i).drop ((tr ns i).idxOf (pg ns i) + 1)).map V.int) := by
            rw [show (((trl (ns.take i)).idxOf p : Nat) + 1 : Int) = (((trl (ns.take i)).idxOf p + 1 : Nat) : Int) by omega, cut_from (by rw [List.length_map]; omega), List.map_drop, hpg]
            rfl
          have hz : (upd HT z (.lst (cutV ((trl (ns.take i)).map V.int) (some (((trl (ns.take i)).idxOf p : Nat) + 1 : Int)) none))) z = some (.lst (cutV2 ns i)) := by rw [upd_same, hcv]; rfl
          have nzf : z ≠ f := (ne_of_none hf nz1).symm
          have nzr := hts.notin nz1
          have nzH := fresh_back e nz1
          have ez := Ex.new nz1 (o := .lst (cutV ((trl (ns.take i)).map V.int) (some (((trl (ns.take i)).idxOf p : Nat) + 1 : Int)) none))
          have hf := ez _ _ hf
          have ht := ez _ _ ht
          have hts := hts.ex ez
          have e := e.trans ez
          generalize (upd HT z (.lst (cutV ((trl (ns.take i)).map V.int) (some (((trl (ns.take i)).idxOf p : Nat) + 1 : Int)) none))) = HZ at hf ht hts e hz ⊢
          refine ⟨sz_ok (by omega), fun u nu => ?_⟩
          have eu := Ex.new nu (o := .tup [V.int (i : Nat), V.ref z])
          refine appL (eu _ _ hf) (BC.sz_lt (by rw [List.length_map]; omega)) ?_
          have ht3 := (hts.ex eu).snoc (u := u) (i := i) nzf nzH nzr upd_same (eu _ _ hz)
          rw [show ts.map V.ref ++ [V.ref u] = (ts ++ [u]).map V.ref by rw [List.map_append]; rfl]
          exact hN _ _ ⟨ts ++ [u], rs ++ [z], rfl, (e.trans eu).mut nf, upd_same, by rw [ctn_yes hnf]; exact ht3.mut (eu _ _ hf), by rw [upd_ne nft.symm]; exact eu _ _ ht⟩
        · have hnt : isNew ns i = true := by rw [hnew]; exact decide_eq_true m
          rw [decide_eq_false m]
          walk_at "sx"
          exact hN _ _ ⟨ts, rs, rfl, e, hf, by rw [ctn_no hnt]; exact hts, ht⟩
      obtain ⟨ts2, rs2, rfl, e2, hf2, hts2, ht2⟩ := hC
      walk_at "sx"
      refine ⟨t, _, p, rfl, ht2, by omega, fun t2 H3 nt2 e3 ht3 => ?_⟩
      rw [← trl_snoc hpn] at ht3
      exact ⟨f, t2, _, _, ts2, rs2, rfl, e2.trans e3, nf, ne_of_none hf2 nt2, e3 _ _ hf2, hts2.ex e3, ht3⟩
    · obtain ⟨f, t, l3, l4, ts, rs, rfl, e, nf, nft, hf, hts, ht⟩ := hP
      walk_at "sx"
      rw [List.length_map] at hts
      exact k f ts rs _ nf e hf hts
end
end LW

set_option Elab.async false
set_option linter.all false
set_option maxRecDepth 100000
set_option maxHeartbeats 4000000
namespace LW
open PySem PySem.Spec PyProof.Rows L2 BC Evl TR
local macro_rules | `(tactic| walk_at "sx") => `(tactic| try simp only [x_dcT, x_dc, x_updT, x_iitemsT, x_dispT1, x_valsT, x_lockT, SL.x_yfor, SL.x_yplain, SL.x_ythen, SL.x_y0, SL.x_yyield, SL.x_ywhile, SL.x_callY, SL.x_callYK, x_gwhile, x_callG, x_g0, x_gfor, x_gplain, x_gthen, x_gyield, x_listG, x_dnewT, x_dget, x_dget2, x_dput, x_seq, x_next, x_brk, x_cnt, x_nev, x_ret, x_retN, x_drop, x_ifS, x_asg, x_gn, x_gsub, x_par, x_par3, x_aug, x_for, x_lc, x_rng1, x_rng2, x_rng3, x_ilist, x_itup, x_ienum, x_izip, x_izipA, x_istr, x_var, x_c, x_op, x_un, x_test, x_b, x_chain, x_and, x_or, x_not, x_andV, x_orV, x_notV, x_ife, x_nil, x_cons, x_lst, x_tup, x_cb, x_call, x_callK, x_bm, x_bm0, x_tru, x_sl, x_nopart, x_part, x_revL, x_I0, x_I, x_U, x_ip, x_ipC, x_eqI, x_neI, x_eqB, x_neB, x_eqS, x_neS, x_isB, x_isNB, x_lrg, x_gall, x_lenSet, x_augS, x_sortSet, x_rg1, x_rg2,
  L2.start, List.map_cons, List.map_nil, List.length_cons, List.length_nil, Nat.reduceAdd, Nat.reduceSub, Nat.sub_self, Nat.zero_add, List.replicate, List.replicate_succ, List.replicate_zero, List.append_nil, List.cons_append, List.nil_append, List.set_cons_zero, List.set_cons_succ, List.getElem?_cons_zero, List.getElem?_cons_succ, Option.some.injEq, V.int.injEq, V.bl.injEq, V.ref.injEq, V.str.injEq, List.cons.injEq, and_true, true_and, exists_eq_left', exists_eq_left, exists_and_left, exists_eq, if_true, if_false, ite_true, ite_false, Bool.true_eq_false, Bool.false_eq_true, reduceIte, reduceCtorEq, Bool.not_true, Bool.not_false, decide_true, decide_false, decide_eq_true_eq, Bool.and_true, Bool.true_and, Bool.and_self, Bool.and_false, Bool.false_and, Bool.or_self, Bool.or_false, Bool.false_or, Bool.or_true, Bool.true_or, eq_self])
section
variable {P : Program} {w : World} {K : PySem.W.Frag} {mg : Str → Option Value} {base : Heap}
def spPool (K : PySem.W.Frag) : Sp := fun vs H Q _ => ∃ (a : Addr) (ns : List Int) (k : Nat), vs = [.ref a, .int k] ∧ SqL K H a (ns.map V.int) ∧ ns.length ≤ 63 ∧ k < 64 ∧ ∀ p H', H p = none → Ex H H' → BagAt H' p 0 → Q (.ref p) H'
theorem ok_law_pool (T : Txt K mg) : FnOk P w K mg base CX0 1 T.f_law_pool T.fd_law_pool ["_law_script", "_law_k"] (spPool K) := by
  refine T.F_law_pool.ok sc_law_pool (fun vs H Q E h => ?_) (fun cdv A outer s H vs Q E hr h => ?_)
  · obtain ⟨a, ns, k, rfl, _⟩ := h
    rfl
  · obtain ⟨a, ns, i, rfl, hA, hl, hi, k⟩ := h
    apply Exists.intro
    apply And.intro
    · apply pss_cons
      · exact (ps_set (i := 2) sc_law_pool.nd rfl (.inl rfl) pe_int)
      apply pss_cons
      · apply ps_if
        · exact (pt_cmpR op_lt (pv 1) (pe_callB (k_len (K := K) rfl) (by rfl) T.n_len PySem.boot_len (pa_cons (pv 0) pa_nil)) (by rfl))
        · apply pss_one
          exact (ps_set (i := 2) sc_law_pool.nd rfl (.inl rfl) (pe_ix (k_ix_list (K := K) rfl) (pv 0) (pv 1) (fun _ _ => rfl)))
        · exact pss_nil
      apply pss_one
      exact (ps_ret (pe_lst (pa_cons (pe_callB (call_max2 rfl) (by rfl) T.n_max (by decide +kernel) (pa_cons pe_int (pa_cons (pe_op op_sub (pv 2) (pe_op op_powX pe_int pe_int)) pa_nil))) (pa_cons (pe_op op_add (pe_op op_mulX (pe_op op_modX (pv 2) (pe_op op_add (pe_op op_powX pe_int pe_int) pe_int)) pe_int) (pv 1)) (pa_cons pe_int pa_nil)))))
    refine seq_asg (fun v H' => v = .int 0 ∧ H' = H) (fun R hR => hR _ _ ⟨rfl, rfl⟩) (fun v H1 hC => ?_)
    obtain ⟨rfl, rfl⟩ := hC
    refine seq_cut (fun σ' H' => ∃ n : Int, σ' = [some (.ref a), some (.int i), some (.int n)] ∧ H' = H1) (fun N hN => ?_) (fun σ' H' hC => ?_)
    · walk_at "sx"
      refine lenL hA ?_
      walk_at "sx"
      rw [List.length_map]
      by_cases c : (i : Int) < (ns.length : Nat)
      · rw [if_pos c]
        have hx : ns[i]? = some ns[i] := List.getElem?_eq_getElem (by omega)
        exact ixL hA (atI_n rfl (at_ints hx)) (hN _ _ ⟨_, rfl, rfl⟩)
      · rw [if_neg c]
        exact hN _ _ ⟨_, rfl, rfl⟩
    obtain ⟨n, rfl, rfl⟩ := hC
    walk_at "sx"
    have t18 : Int.toNat 18 = 18 := rfl
    have t40 : Int.toNat 40 = 40 := rfl
    rw [t40]
    have m0 : 0 ≤ n % (10 ^ 40 + 121) := Int.emod_nonneg _ (by decide)
    have m1 : n % (10 ^ 40 + 121) < 10 ^ 40 + 121 := Int.emod_lt_of_pos _ (by decide)
    refine ⟨⟨by decide, by decide, by decide⟩, _, _, ⟨rfl, rfl⟩, ⟨by decide, by decide, by decide⟩, by decide, .inl (.inr ⟨by decide, by decide⟩), sz_ok (by omega), fun p np => ?_⟩
    refine k p _ np (Ex.new np) ⟨_, _, _, upd_same, by omega, by omega, by omega, by omega⟩
theorem ok_law_draw (T : Txt K mg) : FnOk P w K mg base CX0 1 T.f_law_draw T.fd_law_draw ["_law_pool_here", "_law_many"] spDraw := by
  refine T.F_law_draw.ok sc_law_draw (fun vs H Q E h => ?_) (fun cdv A outer s H vs Q E hr h => ?_)
  · obtain ⟨b, m, c, rfl, _⟩ := h
    rfl
  · obtain ⟨b, m, c, rfl, h1, h2, hB, hc, k⟩ := h
    obtain ⟨x0, x1, x2, hb, h3, h4, h5, h6⟩ := hB
    apply Exists.intro
    apply And.intro
    · apply pss_cons
      · apply ps_if
        · exact (pt_cmpR op_gt (pe_ix (k_ix_list (K := K) rfl) (pv 0) pe_int (fun _ _ => rfl)) pe_int (by rfl))
        · apply pss_cons
          · exact (ps_set (i := 3) sc_law_draw.nd rfl (.inl rfl) (pe_op op_modX (pe_ix (k_ix_list (K := K) rfl) (pv 0) pe_int (fun _ _ => rfl)) (pv 1)))
          apply pss_cons
          · exact (ps_asg (pe_op op_fdivX (pe_ix (k_ix_list (K := K) rfl) (pv 0) pe_int (fun _ _ => rfl)) (pv 1)) (pg_sub (pv 0) pe_int set_list))
          apply pss_one
          exact (ps_ret (pv 3))
        · exact pss_nil
      apply pss_cons
      · exact (ps_asg (pe_op op_add (pe_ix (k_ix_list (K := K) rfl) (pv 0) pe_int (fun _ _ => rfl)) pe_int) (pg_sub (pv 0) pe_int set_list))
      apply pss_cons
      · exact (ps_set (i := 2) sc_law_draw.nd rfl (.inl rfl) (pe_op op_modX (pe_op op_powX (pe_op op_add (pe_ix (k_ix_list (K := K) rfl) (pv 0) pe_int (fun _ _ => rfl)) (pe_op op_mulX pe_int (pe_ix (k_ix_list (K := K) rfl) (pv 0) pe_int (fun _ _ => rfl)))) pe_int) (pe_op op_add (pe_op op_powX pe_int pe_int) pe_int)))
      apply pss_cons
      · exact (ps_set (i := 2) sc_law_draw.nd rfl (.inl rfl) (pe_op op_modX (pe_op op_powX (pe_op op_add (pv 2) (pe_op op_mulX pe_int (pe_ix (k_ix_list (K := K) rfl) (pv 0) pe_int (fun _ _ => rfl)))) pe_int) (pe_op op_add (pe_op op_powX pe_int pe_int) pe_int)))
      apply pss_one
      exact (ps_ret (pe_op op_modX (pe_op op_fdivX (pv 2) pe_int) (pv 1)))
    walk_at "sx"
    refine ixL (.inl (.inl hb)) (atI_n (j := 0) rfl rfl) ?_
    walk_at "sx"
    have hdm : ∀ i, CDivW i m := fun i => wide_div (b := 2001) h1 (big_lt h1 h2) (by omega) (by omega)
    by_cases h0 : 0 < x0
    · simp only [h0, if_true]
      refine ixL (.inl (.inl hb)) (atI_n (j := 0) rfl rfl) ?_
      walk_at "sx"
      refine ⟨h1, ?_⟩
      refine ixL (.inl (.inl hb)) (atI_n (j := 0) rfl rfl) ?_
      walk_at "sx"
      refine ⟨hdm _, ?_⟩
      refine setL hb (ixN_n (j := 0) rfl (by simp)) ?_
      exact k _ _ (Int.emod_nonneg _ (by omega)) (Int.emod_lt_of_pos _ h1) Fx.put ⟨_, _, _, upd_same, h3, h4, h5, by omega⟩
    · simp only [h0, if_false]
      refine ixL (.inl (.inl hb)) (atI_n (j := 2) rfl rfl) ?_
      walk_at "sx"
      refine setL hb (ixN_n (j := 2) rfl (by simp)) ?_
      have hb2 : (upd H b (.lst [V.int x0, V.int x1, V.int (x2 + 1)])) b = some (.lst [V.int x0, V.int x1, V.int (x2 + 1)]) := upd_same
      refine ixL (.inl (.inl hb2)) (atI_n (j := 1) rfl rfl) ?_
      walk_at "sx"
      refine ixL (.inl (.inl hb2)) (atI_n (j := 2) rfl rfl) ?_
      walk_at "sx"
      have c1 : CMulX 69061 (x2 + 1) := .inl (.inl ⟨by decide, by decide⟩)
      have c2 : CMulX 88469 (x2 + 1) := .inl (.inl ⟨by decide, by decide⟩)
      have c3 : CPowX (x1 + 69061 * (x2 + 1)) 3 := ⟨by decide, by decide, Nat.lt_of_lt_of_le (log2_small (k := 300) (by decide) (by omega)) (by decide)⟩
      have t41 : Int.toNat 41 = 41 := rfl
      have t38 : Int.toNat 38 = 38 := rfl
      rw [t41, t38]
      refine ⟨c1, c3, ⟨by decide, by decide, by decide⟩, by decide, ?_⟩
      refine ixL (.inl (.inl hb2)) (atI_n (j := 2) rfl rfl) ?_
      walk_at "sx"
      generalize hz : (x1 + 69061 * (x2 + 1)) ^ Int.toNat 3 % (10 ^ 41 + 37) = z
      have hz0 : 0 ≤ z := by rw [← hz]; exact Int.emod_nonneg _ (by decide)
      have hz1 : z < 10 ^ 41 + 37 := by rw [← hz]; exact Int.emod_lt_of_pos _ (by decide)
      have c4 : CPowX (z + 88469 * (x2 + 1)) 3 := ⟨by decide, by decide, Nat.lt_of_lt_of_le (log2_small (k := 300) (by decide) (by omega)) (by decide)⟩
      refine ⟨c2, c4, ⟨by decide, by decide, by decide⟩, by decide, ⟨by decide, by decide⟩, h1, ?_⟩
      exact k _ _ (Int.emod_nonneg _ (by omega)) (Int.emod_lt_of_pos _ h1) Fx.put ⟨_, _, _, hb2, h3, h4, by omega, by omega⟩
end
section
variable {P : Program} {w : World} {K : PySem.W.Frag} {mg : Str → Option Value} {base : Heap}
theorem atI_last {xs : List V} {v : V} (h : xs[xs.length - 1]? = some v) : atI xs (-1) = some v := by
  have hl : xs.length - 1 < xs.length := (List.getElem?_eq_some_iff.mp h).1
  have e : ixN xs.length (-1) = some (xs.length - 1) := by
    unfold ixN
    rw [if_neg (by omega), if_pos (by omega)]
    congr 1
    omega
  unfold atI
  rw [e]
  exact h
theorem fx_l0 {b a : Addr} {H H' : Hp} {xs : List V} (x : Fx b H H') (n : H b = none) (h : SqL K H a xs) : SqL K H' a xs := by
  rcases h with h | h
  · rcases h with h | ⟨o, h⟩
    · exact .inl (.inl (x a _ (ne_of_none h n) h))
    · exact .inl (.inr ⟨o, x a _ (ne_of_none h n) h⟩)
  · exact .inr h
/-- drawn visits -/
def spLine (K : PySem.W.Frag) : Sp := fun vs H Q _ => ∃ (b a : Addr) (ns : List Int) (c : Nat), vs = [.ref b, .ref a] ∧ (∃ H0 : Hp, H0 b = none ∧ Fx b H0 H ∧ SqL K H0 a (ns.map V.int)) ∧ BagAt H b c ∧ c ≤ 100000 ∧
  ∀ r (L : List Int) H', H r = none → Fx b H H' → BagAt H' b (c + 1000) → H' r = some (.lst (L.map V.int)) → Pg 40 L → 1 ≤ L.length → L.length ≤ 300 → Q (.ref r) H'
def JLn (H : Hp) (b a : Addr) (m wd : Nat) (st lo : Int) (c : Nat) (i : Nat) (σ' : L2.St) (H' : Hp) : Prop := ∃ l3 l8 l9 l10 l11 f L, σ' = [some (.ref b), some (.ref a), some (.int wd), l3, some (.int m), some (.int st), some (.int lo), some (.ref f), l8, l9, l10, l11] ∧
  H f = none ∧ f ≠ b ∧ Fx b H H' ∧ BagAt H' b (c + 8 + 2 * i) ∧ H' f = some (.lst ((L : List Int).map V.int)) ∧ L.length = i ∧ ∀ x ∈ L, lo ≤ x ∧ x < lo + wd
theorem ok_law_line (T : Txt K mg) : FnOk P w K mg base CX0 2 T.f_law_line T.fd_law_line ["_law_pool_here", "_law_script"] (spLine K) := by
  refine T.F_law_line.ok sc_law_line (fun vs H Q E h => ?_) (fun cdv A outer s H vs Q E hr h => ?_)
  · obtain ⟨b, a, ns, c, rfl, _⟩ := h
    rfl
  · obtain ⟨b, a, ns, c, rfl, ⟨H0, nb0, f0, hA⟩, hB, hc, k⟩ := h
    apply Exists.intro
    apply And.intro
    · apply pss_cons
      · exact (ps_par (i := 4) (j := 5) (by rfl) sc_law_line.nd rfl rfl (by decide) rfl rfl (pa_cons (pe_ix (k_ix_list (K := K) rfl) (pe_lst (pa_cons (pe_op op_add pe_int (pe_call (ok_law_draw T) (hr.mono (by decide)) (by rfl) T.m_law_draw T.F_law_draw.kp T.b_law_draw .nil pass0 (pa_cons (pv 0) (pa_cons pe_int pa_nil)))) (pa_cons (pe_op op_add pe_int (pe_call (ok_law_draw T) (hr.mono (by decide)) (by rfl) T.m_law_draw T.F_law_draw.kp T.b_law_draw .nil pass0 (pa_cons (pv 0) (pa_cons pe_int pa_nil)))) (pa_cons pe_int pa_nil)))) (pe_call (ok_law_draw T) (hr.mono (by decide)) (by rfl) T.m_law_draw T.F_law_draw.kp T.b_law_draw .nil pass0 (pa_cons (pv 0) (pa_cons pe_int pa_nil))) (fun _ _ => rfl)) (pa_cons (pe_call (ok_law_draw T) (hr.mono (by decide)) (by rfl) T.m_law_draw T.F_law_draw.kp T.b_law_draw .nil pass0 (pa_cons (pv 0) (pa_cons pe_int pa_nil))) pa_nil)) (by rfl))
      apply pss_cons
      · exact (ps_set (i := 2) sc_law_line.nd rfl (.inl rfl) (pe_ix (k_ix_list (K := K) rfl) (pe_lst (pa_cons (pe_op op_add pe_int (pe_call (ok_law_draw T) (hr.mono (by decide)) (by rfl) T.m_law_draw T.F_law_draw.kp T.b_law_draw .nil pass0 (pa_cons (pv 0) (pa_cons pe_int pa_nil)))) (pa_cons (pe_op op_add pe_int (pe_call (ok_law_draw T) (hr.mono (by decide)) (by rfl) T.m_law_draw T.F_law_draw.kp T.b_law_draw .nil pass0 (pa_cons (pv 0) (pa_cons pe_int pa_nil)))) (pa_cons pe_int pa_nil)))) (pe_call (ok_law_draw T) (hr.mono (by decide)) (by rfl) T.m_law_draw T.F_law_draw.kp T.b_law_draw .nil pass0 (pa_cons (pv 0) (pa_cons pe_int pa_nil))) (fun _ _ => rfl)))
      apply pss_cons
      · exact (ps_asg (pe_ifExp (pt_cmpR (k_eqD (K := K) rfl hr.units) (pv 1) (pe_lst pa_nil) (by rfl)) (pe_tup (pa_cons pe_int (pa_cons pe_int (pa_cons pe_int pa_nil)))) (pe_tup (pa_cons (pv 4) (pa_cons (pv 2) (pa_cons (pv 5) pa_nil))))) (k_tup (K := K) (n := 3) rfl rfl (pgs_cons (pg_name (i := 4) sc_law_line.nd rfl (.inl rfl)) (pgs_cons (pg_name (i := 2) sc_law_line.nd rfl (.inl rfl)) (pgs_cons (pg_name (i := 5) sc_law_line.nd rfl (.inl rfl)) pgs_nil)))))
      apply pss_cons
      · exact (ps_par (i := 6) (j := 7) (by rfl) sc_law_line.nd rfl rfl (by decide) rfl rfl (pa_cons (pe_call (ok_law_draw T) (hr.mono (by decide)) (by rfl) T.m_law_draw T.F_law_draw.kp T.b_law_draw .nil pass0 (pa_cons (pv 0) (pa_cons (pe_op op_sub pe_int (pv 2)) pa_nil))) (pa_cons (pe_lst pa_nil) pa_nil)) (by rfl))
      apply pss_cons
      · apply ps_for PassesOwn.never rfl
        · exact (pi_range1 (by rfl) T.n_range (pa_cons (pv 4) pa_nil))
        · exact (pg_name (i := 3) sc_law_line.nd rfl (.inl rfl))
        · apply pss_cons
          · exact (ps_par (i := 10) (j := 11) (by rfl) sc_law_line.nd rfl rfl (by decide) rfl rfl (pa_cons (pe_call (ok_law_draw T) (hr.mono (by decide)) (by rfl) T.m_law_draw T.F_law_draw.kp T.b_law_draw .nil pass0 (pa_cons (pv 0) (pa_cons (pv 2) pa_nil))) (pa_cons (pe_call (ok_law_draw T) (hr.mono (by decide)) (by rfl) T.m_law_draw T.F_law_draw.kp T.b_law_draw .nil pass0 (pa_cons (pv 0) (pa_cons pe_int pa_nil))) pa_nil)) (by rfl))
          apply pss_cons
          · exact (ps_set (i := 8) sc_law_line.nd rfl (.inl rfl) (pe_ifExp (pt_cmpR (k_neD (K := K) rfl hr.units) (pv 7) (pe_lst pa_nil) (by rfl)) (pe_op op_sub (pe_ix (k_ix_list (K := K) rfl) (pv 7) (pe_un un_neg pe_int) (fun _ _ => rfl)) (pv 6)) (pv 10)))
          apply pss_cons
          · exact (ps_set (i := 9) sc_law_line.nd rfl (.inl rfl) (pe_ix (k_ix_list (K := K) rfl) (pe_lst (pa_cons (pv 10) (pa_cons (pe_op op_add (pv 8) (pe_ix (k_ix_list (K := K) rfl) (pe_lst (pa_cons pe_int (pa_cons (pe_op op_sub (pv 2) pe_int) pa_nil))) (pe_op op_modX (pv 11) pe_int) (fun _ _ => rfl))) (pa_cons (pe_ifExp (pt_cmpR op_gt (pv 11) pe_int (by rfl)) (pe_op op_add (pv 8) pe_int) (pv 10)) pa_nil)))) (pv 5) (fun _ _ => rfl)))
          apply pss_one
          exact (ps_expr (k_bm (K := K) rfl (pe_bm PySem.F.plainAttrs_list PySem.F.slot_list_append PySem.F.type_list_append mt_append (pv 7) (pa_cons (pe_op op_add (pv 6) (pe_op op_modX (pv 9) (pv 2))) pa_nil))))
      apply pss_one
      exact (ps_ret (pv 7))
    refine seq_cut (fun σ' H' => ∃ (m : Nat) (st : Int), σ' = [some (.ref b), some (.ref a), none, none, some (.int m), some (.int st), none, none, none, none, none, none] ∧ 1 ≤ m ∧ m ≤ 300 ∧ 0 ≤ st ∧ st < 3 ∧ Fx b H H' ∧ BagAt H' b (c + 4)) (fun N hN => ?_) (fun σ1 H1 hC => ?_)
    · walk_at "sx"
      refine ⟨b, _, _, rfl, by omega, big_of (by omega), hB, by omega, fun r1 H1 r10 r11 f1 b1 => ?_⟩
      walk_at "sx"
      refine ⟨b, _, _, rfl, by omega, big_of (by omega), b1, by omega, fun r2 H2 r20 r21 f2 b2 => ?_⟩
      walk_at "sx"
      refine ⟨sz_ok (by omega), fun z nz => ?_⟩
      have ez := Ex.new nz (o := .lst [V.int (1 + r1), V.int (1 + r2), V.int 300])
      refine ⟨b, _, _, rfl, by omega, big_of (by omega), b2.ex ez, by omega, fun r3 H3 r30 r31 f3 b3 => ?_⟩
      obtain ⟨m, hm, em⟩ := pickI (ns := [1 + r1, 1 + r2, 300]) r30 r31
      simp only [List.mem_cons, List.mem_nil_iff, or_false] at hm
      refine ixL (.inl (.inl (f3 _ _ (b2.apart nz) upd_same))) em ?_
      refine ⟨b, _, _, rfl, by omega, big_of (by omega), b3, by omega, fun r4 H4 r40 r41 f4 b4 => ?_⟩
      refine ⟨_, _, ⟨rfl, rfl⟩, ?_⟩
      exact hN _ _ ⟨m.toNat, r4, by rw [Int.toNat_of_nonneg (by omega)], by omega, by omega, r40, r41, (((f1.trans f2).trans (Fx.of ez)).trans f3).trans f4, b4⟩
    obtain ⟨m, st, rfl, m1, m2, s1, s2, f1, b1⟩ := hC
    refine seq_asg (fun v H' => ∃ wd : Nat, v = .int wd ∧ 1 ≤ wd ∧ wd ≤ 40 ∧ Fx b H1 H' ∧ BagAt H' b (c + 7)) (fun R hR => ?_) (fun v H2 hC => ?_)
    · walk_at "sx"
      refine ⟨b, _, _, rfl, by omega, big_of (by omega), b1, by omega, fun r1 H2 r10 r11 f2 b2 => ?_⟩
      walk_at "sx"
      refine ⟨b, _, _, rfl, by omega, big_of (by omega), b2, by omega, fun r2 H3 r20 r21 f3 b3 => ?_⟩
      walk_at "sx"
      refine ⟨sz_ok (by omega), fun z nz => ?_⟩
      have ez := Ex.new nz (o := .lst [V.int (1 + r1), V.int (1 + r2), V.int 40])
      refine ⟨b, _, _, rfl, by omega, big_of (by omega), b3.ex ez, by omega, fun r3 H4 r30 r31 f4 b4 => ?_⟩
      obtain ⟨x, hx, em⟩ := pickI (ns := [1 + r1, 1 + r2, 40]) r30 r31
      simp only [List.mem_cons, List.mem_nil_iff, or_false] at hx
      refine ixL (.inl (.inl (f4 _ _ (b3.apart nz) upd_same))) em ?_
      exact hR _ _ ⟨x.toNat, by rw [Int.toNat_of_nonneg (by omega)], by omega, by omega, ((f2.trans f3).trans (Fx.of ez)).trans f4, b4⟩
    obtain ⟨wd, rfl, w1, w2, f2, b2⟩ := hC
    simp only [List.set_cons_zero, List.set_cons_succ]
    refine seq_cut (fun σ' H' => ∃ (m wd : Nat) (st : Int), σ' = [some (.ref b), some (.ref a), some (.int wd), none, some (.int m), some (.int st), none, none, none, none, none, none] ∧ 1 ≤ m ∧ m ≤ 300 ∧ 0 ≤ st ∧ st < 3 ∧ 1 ≤ wd ∧ wd ≤ 40 ∧ Ex H2 H') (fun N hN => ?_) (fun σ3 H3 hC => ?_)
    · walk_at "sx"
      refine ⟨sz_ok (by omega), fun z nz => ?_⟩
      have ez := Ex.new nz (o := .lst [])
      refine eqInts (ms := []) (fx_l0 (((f0.trans f1).trans f2).trans (Fx.of ez)) nb0 hA) (.inl (.inl upd_same)) ?_
      walk_at "sx"
      by_cases q : ns = []
      · rw [if_pos q]
        refine ⟨sz_ok (by omega), fun T nT => ?_⟩
        exact g_three upd_same (hN _ _ ⟨8, 4, 0, rfl, by omega, by omega, by omega, by omega, by omega, by omega, ez.trans (Ex.new nT)⟩)
      · rw [if_neg q]
        refine ⟨sz_ok (by omega), fun T nT => ?_⟩
        exact g_three upd_same (hN _ _ ⟨m, wd, st, rfl, by omega, by omega, by omega, by omega, by omega, by omega, ez.trans (Ex.new nT)⟩)
    clear m1 m2 s1 s2 w1 w2
    obtain ⟨m, wd, st, rfl, m1, m2, s1, s2, w1, w2, e3⟩ := hC
    refine seq_cut (fun σ' H' => ∃ (lo : Int) (f : Addr), σ' = [some (.ref b), some (.ref a), some (.int wd), none, some (.int m), some (.int st), some (.int lo), some (.ref f), none, none, none, none] ∧ 0 ≤ lo ∧ lo + wd ≤ 40 ∧ H3 f = none ∧ f ≠ b ∧ Fx b H3 H' ∧ BagAt H' b (c + 8) ∧ H' f = some (.lst [])) (fun N hN => ?_) (fun σ4 H4 hC => ?_)
    · walk_at "sx"
      refine ⟨b, _, _, rfl, by omega, big_of (by omega), b2.ex e3, by omega, fun r1 H4 r10 r11 f4 b4 => ?_⟩
      refine ⟨sz_ok (by omega), fun f nf => ?_⟩
      refine ⟨_, _, ⟨rfl, rfl⟩, ?_⟩
      have ef := Ex.new nf (o := .lst [])
      have nfb := b4.apart nf
      exact hN _ _ ⟨r1, f, rfl, r10, by omega, fx_none f4 nf nfb, nfb, f4.trans (Fx.of ef), b4.ex ef, upd_same⟩
    obtain ⟨lo, f, rfl, lo0, lo1, nf, nfb, f4, b4, hf⟩ := hC
    have f03 := (f1.trans f2).trans (Fx.of e3)
    walk_at "sx"
    refine ⟨by omega, by omega, ?_⟩
    rw [Int.toNat_natCast]
    refine lg_rng (JLn H b a m wd st lo c) ⟨none, none, none, none, none, f, [], rfl, fx_none f03 nf nfb, nfb, f03.trans f4, b4, hf, rfl, fun x h => (List.not_mem_nil h).elim⟩ (fun i σ' H' hi hP => ?_) (fun σ' H' hP => ?_)
    · obtain ⟨l3, l8, l9, l10, l11, f, L, rfl, nf, nfb, fx, hb, hf, hL, hin⟩ := hP
      simp only [x_gn, List.set_cons_zero, List.set_cons_succ]
      refine seq_cut (fun σ' H5 => ∃ (fr sp : Int), σ' = [some (.ref b), some (.ref a), some (.int wd), some (.int (0 + i)), some (.int m), some (.int st), some (.int lo), some (.ref f), l8, l9, some (.int fr), some (.int sp)] ∧ 0 ≤ sp ∧ sp < 8 ∧ Fx b H' H5 ∧ BagAt H5 b (c + 8 + 2 * i + 2)) (fun N hN => ?_) (fun σ5 H5 hC => ?_)
      · walk_at "sx"
        refine ⟨b, _, _, rfl, by omega, big_of (by omega), hb, by omega, fun r1 H4 r10 r11 f4 b4 => ?_⟩
        refine ⟨b, _, _, rfl, by omega, big_of (by omega), b4, by omega, fun r2 H5 r20 r21 f5 b5 => ?_⟩
        refine ⟨_, _, ⟨rfl, rfl⟩, ?_⟩
        exact hN _ _ ⟨r1, r2, rfl, r20, r21, f4.trans f5, b5⟩
      obtain ⟨fr, sp, rfl, sp0, sp1, f5, b5⟩ := hC
      have hf5 := f5 _ _ nfb hf
      refine seq_asg (fun v H6 => ∃ la : Int, v = .int la ∧ Ex H5 H6) (fun R hR => ?_) (fun v H6 hC => ?_)
      · walk_at "sx"
        refine ⟨sz_ok (by omega), fun z nz => ?_⟩
        have ez := Ex.new nz (o := .lst [])
        refine neInts (ms := []) (.inl (.inl (ez _ _ hf5))) (.inl (.inl upd_same)) ?_
        walk_at "sx"
        by_cases q : L = []
        · rw [decide_eq_true q]
          rw [if_neg (by decide)]
          exact hR _ _ ⟨_, rfl, ez⟩
        · rw [decide_eq_false q]
          rw [if_pos (by rfl)]
          have lp := List.length_pos_iff.mpr q
          have hl : L[L.length - 1]? = some L[L.length - 1] := List.getElem?_eq_getElem (by omega)
          refine ixL (.inl (.inl (ez _ _ hf5))) (atI_last (by rw [List.length_map]; exact at_ints hl)) ?_
          walk_at "sx"
          exact hR _ _ ⟨_, rfl, ez⟩
      obtain ⟨la, rfl, e6⟩ := hC
      simp only [List.set_cons_zero, List.set_cons_succ]
      refine seq_asg (fun v H7 => ∃ sp : Int, v = .int sp ∧ Ex H6 H7) (fun R hR => ?_) (fun v H7 hC => ?_)
      · walk_at "sx"
        refine ⟨sz_ok (by omega), fun z nz => ?_⟩
        have ez := Ex.new nz (o := .lst [V.int 1, V.int ((wd : Int) - 1)])
        refine ⟨by omega, ?_⟩
        obtain ⟨x, hx, ex⟩ := pickI (ns := [1, (wd : Int) - 1]) (r := sp % 2) (by omega) (by show sp % 2 < 2; omega)
        refine ixL (.inl (.inl upd_same)) ex ?_
        walk_at "sx"
        have fin : ∀ (u : Int) (H8 : Hp), Ex H6 H8 → [V.int fr, V.int (la + x), V.int u].length ≤ sizeLine ∧ ∀ p, H8 p = none → rIxL K (.ref p) (.int st) (upd H8 p (.lst [V.int fr, V.int (la + x), V.int u])) R := fun u H8 e8 => by
          refine ⟨sz_ok (by simp), fun p np => ?_⟩
          obtain ⟨y, hy, ey⟩ := pickI (ns := [fr, la + x, u]) s1 s2
          exact ixL (.inl (.inl upd_same)) ey (hR _ _ ⟨_, rfl, e8.trans (Ex.new np)⟩)
        by_cases q : sp > 0
        · rw [if_pos q]
          exact fin _ _ ez
        · rw [if_neg q]
          exact fin _ _ ez
      obtain ⟨so, rfl, e7⟩ := hC
      have e57 := e6.trans e7
      have hf7 := e57 _ _ hf5
      walk_at "sx"
      have r0 : 0 ≤ so % (wd : Int) := Int.emod_nonneg _ (by omega)
      have r1 : so % (wd : Int) < wd := Int.emod_lt_of_pos _ (by omega)
      refine ⟨tyL hf7, by omega, ?_⟩
      refine appL hf7 (BC.sz_lt (by rw [List.length_map]; omega)) ?_
      have er : L.map V.int ++ [V.int (lo + so % (wd : Int))] = (L ++ [lo + so % (wd : Int)]).map V.int := by rw [List.map_append]; rfl
      rw [er]
      refine ⟨_, _, _, _, _, f, _, rfl, nf, nfb, ((fx.trans f5).trans (Fx.of e57)).mut nf, ((b5.ex e57).off nfb).mono (by omega), upd_same, by rw [List.length_append, List.length_singleton, hL], fun x hx => ?_⟩
      rcases List.mem_append.mp hx with h | h
      · exact hin x h
      · rw [List.mem_singleton.mp h]
        omega
    · obtain ⟨l3, l8, l9, l10, l11, f, L, rfl, nf, nfb, fx, hb, hf, hL, hin⟩ := hP
      walk_at "sx"
      exact k f L _ nf fx (hb.mono (by omega)) hf (fun x hx => by have := hin x hx; omega) (by omega) (by omega)
end
end LW

set_option Elab.async false
set_option linter.all false
set_option maxRecDepth 100000
set_option maxHeartbeats 4000000
/-! plain law: the loop numbers of pages do not depend on the order of the pages -/
namespace BC
/-- the product of two sequences -/
def cv : (Nat → Nat) → (Nat → Nat) → Nat → Nat
  | f, g, 0 => f 0 * g 0
  | f, g, t + 1 => f 0 * g (t + 1) + cv (fun i => f (i + 1)) g t
theorem cv_sum (g : Nat → Nat) : ∀ (k : Nat) (f : Nat → Nat), ((List.range (k + 1)).map fun i => f i * g (k - i)).sum = cv f g k
  | 0, f => by simp [cv]
  | k + 1, f => by
    rw [List.range_succ_eq_map, List.map_cons, List.sum_cons, List.map_map]
    have ih := cv_sum g k fun i => f (i + 1)
    show f 0 * g (k + 1) + ((List.range (k + 1)).map fun i => f (i + 1) * g (k + 1 - (i + 1))).sum = f 0 * g (k + 1) + cv (fun i => f (i + 1)) g k
    rw [← ih]
    simp only [Nat.add_sub_add_right]
theorem cv_snoc (g : Nat → Nat) : ∀ (t : Nat) (f : Nat → Nat), cv f g (t + 1) = cv f (fun i => g (i + 1)) t + f (t + 1) * g 0
  | 0, f => rfl
  | t + 1, f => by
    have ih := cv_snoc g t fun i => f (i + 1)
    show f 0 * g (t + 2) + cv (fun i => f (i + 1)) g (t + 1) = f 0 * g (t + 2) + cv (fun i => f (i + 1)) (fun i => g (i + 1)) t + f (t + 2) * g 0
    rw [ih]
    exact (Nat.add_assoc _ _ _).symm
theorem cv_comm : ∀ (t : Nat) (f g : Nat → Nat), cv f g t = cv g f t
  | 0, f, g => Nat.mul_comm _ _
  | t + 1, f, g => by
    rw [cv_snoc f t g, ← cv_comm t (fun i => f (i + 1)) g, Nat.mul_comm (g (t + 1))]
    show f 0 * g (t + 1) + _ = _
    omega
theorem cv_add (h : Nat → Nat) : ∀ (t : Nat) (f g : Nat → Nat), cv (fun i => f i + g i) h t = cv f h t + cv g h t
  | 0, f, g => Nat.add_mul _ _ _
  | t + 1, f, g => by
    have ih := cv_add h t (fun i => f (i + 1)) fun i => g (i + 1)
    show (f 0 + g 0) * h (t + 1) + cv (fun i => f (i + 1) + g (i + 1)) h t = f 0 * h (t + 1) + cv (fun i => f (i + 1)) h t + (g 0 * h (t + 1) + cv (fun i => g (i + 1)) h t)
    rw [ih, Nat.add_mul]
    omega
theorem cv_smul (h : Nat → Nat) (c : Nat) : ∀ (t : Nat) (f : Nat → Nat), cv (fun i => c * f i) h t = c * cv f h t
  | 0, f => Nat.mul_assoc _ _ _
  | t + 1, f => by
    have ih := cv_smul h c t fun i => f (i + 1)
    show c * f 0 * h (t + 1) + cv (fun i => c * f (i + 1)) h t = c * (f 0 * h (t + 1) + cv (fun i => f (i + 1)) h t)
    rw [ih, Nat.mul_add, Nat.mul_assoc]
theorem cv_assoc (g h : Nat → Nat) : ∀ (t : Nat) (f : Nat → Nat), cv (cv f g) h t = cv f (cv g h) t
  | 0, f => Nat.mul_assoc _ _ _
  | t + 1, f => by
    have ih := cv_assoc g h t fun i => f (i + 1)
    show f 0 * g 0 * h (t + 1) + cv (fun i => f 0 * g (i + 1) + cv (fun i => f (i + 1)) g i) h t = f 0 * (g 0 * h (t + 1) + cv (fun i => g (i + 1)) h t) + cv (fun i => f (i + 1)) (cv g h) t
    rw [cv_add, cv_smul h (f 0) t fun i => g (i + 1), Nat.mul_add, Nat.mul_assoc, ← ih]
    show _ + (_ + cv (cv (fun i => f (i + 1)) g) h t) = _
    omega
theorem cv_zero (h : Nat → Nat) : ∀ (t : Nat) (f : Nat → Nat), (∀ i, f i = 0) → cv f h t = 0
  | 0, f, z => by show f 0 * h 0 = 0; rw [z, Nat.zero_mul]
  | t + 1, f, z => by
    show f 0 * h (t + 1) + cv (fun i => f (i + 1)) h t = 0
    rw [z, Nat.zero_mul, cv_zero h t _ fun i => z (i + 1)]
theorem cv_sums (h : Nat → Nat) (t : Nat) (F : Nat → Nat → Nat) : ∀ l : List Nat, cv (fun i => (l.map fun u => F u i).sum) h t = (l.map fun u => cv (F u) h t).sum
  | [] => cv_zero h t _ fun _ => rfl
  | u :: l => by
    rw [List.map_cons, List.sum_cons, ← cv_sums h t F l]
    exact cv_add h t (F u) fun i => (l.map fun u => F u i).sum
def one : Nat → Nat
  | 0 => 1
  | _ + 1 => 0
theorem one_cv (g : Nat → Nat) : ∀ t, cv one g t = g t
  | 0 => Nat.one_mul _
  | t + 1 => by
    show 1 * g (t + 1) + cv (fun i => one (i + 1)) g t = g (t + 1)
    have z : cv (fun i => one (i + 1)) g t = 0 := cv_zero g t _ fun _ => rfl
    rw [z]
    omega
theorem cv_one (g : Nat → Nat) (t : Nat) : cv g one t = g t := by rw [cv_comm, one_cv]
/-! ### walks by their last visit of a page -/
theorem fw_in {G : Grid} {out : List Nat} {p v : Nat} (h : v ∈ out) : ∀ t, fw G out p t v = 0
  | 0 => by
    unfold fw
    rw [if_neg (by simp [h])]
  | t + 1 => by
    unfold fw
    rw [if_neg (by simp [h])]
theorem fw_congr (G : Grid) {S T : List Nat} (h : ∀ x, x ∈ S ↔ x ∈ T) (p : Nat) : ∀ t v, fw G S p t v = fw G T p t v
  | 0, v => by
    unfold fw
    simp only [h]
  | t + 1, v => by
    unfold fw
    simp only [h, fw_congr G h p t]
/-- from a page to another, never back at the first -/
def off (G : Grid) (S : List Nat) (a p : Nat) : Nat → Nat
  | 0 => 0
  | t + 1 => ((row G a).map fun u => fw G (S ++ [a]) p t u).sum
theorem sum_add (f g : Nat → Nat) : ∀ l : List Nat, (l.map fun u => f u + g u).sum = (l.map f).sum + (l.map g).sum
  | [] => rfl
  | u :: l => by
    rw [List.map_cons, List.sum_cons, sum_add f g l, List.map_cons, List.sum_cons, List.map_cons, List.sum_cons]
    omega
theorem fw_last (G : Grid) (S : List Nat) {a p : Nat} (ne : p ≠ a) : ∀ t v, fw G S p t v = fw G (S ++ [a]) p t v + cv (fun i => fw G S a i v) (off G S a p) t
  | 0, v => by
    show (if v = p ∧ v ∉ S then 1 else 0) = (if v = p ∧ v ∉ S ++ [a] then 1 else 0) + _ * 0
    rw [Nat.mul_zero, Nat.add_zero]
    by_cases c : v = p
    · subst c
      have : v ∉ S ↔ v ∉ S ++ [a] := by simp [ne]
      simp only [this]
    · rw [if_neg (by simp [c]), if_neg (by simp [c])]
  | t + 1, v => by
    by_cases hS : v ∈ S
    · rw [fw_in hS, fw_in (List.mem_append_left _ hS), cv_zero _ _ _ fun i => fw_in hS i]
    · have e1 : fw G S p (t + 1) v = ((row G v).map fun u => fw G S p t u).sum := by
        show (if v ∉ S then _ else 0) = _
        rw [if_pos hS]
      have e2 : ∀ i, fw G S a (i + 1) v = ((row G v).map fun u => fw G S a i u).sum := fun i => by
        show (if v ∉ S then _ else 0) = _
        rw [if_pos hS]
      have e3 : ((row G v).map fun u => fw G S p t u).sum = ((row G v).map fun u => fw G (S ++ [a]) p t u).sum + cv (fun i => fw G S a (i + 1) v) (off G S a p) t := by
        simp only [e2]
        rw [cv_sums (off G S a p) t (fun u i => fw G S a i u), ← sum_add]
        congr 1
        exact List.map_congr_left fun u _ => fw_last G S ne t u
      rw [e1, e3]
      show _ = _ + (fw G S a 0 v * off G S a p (t + 1) + cv (fun i => fw G S a (i + 1) v) (off G S a p) t)
      by_cases c : v = a
      · subst c
        have z : fw G S v 0 v = 1 := by
          show (if v = v ∧ v ∉ S then 1 else 0) = 1
          rw [if_pos ⟨rfl, hS⟩]
        rw [z, Nat.one_mul, fw_in (by simp : v ∈ S ++ [v]), Nat.zero_add]
        rfl
      · have z : fw G S a 0 v = 0 := by
          show (if v = a ∧ v ∉ S then 1 else 0) = 0
          rw [if_neg (by simp [c])]
        have z2 : fw G (S ++ [a]) p (t + 1) v = ((row G v).map fun u => fw G (S ++ [a]) p t u).sum := by
          show (if v ∉ S ++ [a] then _ else 0) = _
          rw [if_pos (by simp [hS, c])]
        rw [z, z2, Nat.zero_mul, Nat.zero_add]
/-- the closed walks by steps -/
def cs (G : Grid) (S : List Nat) (a : Nat) : Nat → Nat := fun t => fw G S a t a
theorem cs_congr (G : Grid) {S T : List Nat} (h : ∀ x, x ∈ S ↔ x ∈ T) (p : Nat) : cs G S p = cs G T p := funext fun t => fw_congr G h p t p
theorem cs_two (G : Grid) (S : List Nat) {a b : Nat} (ne : b ≠ a) (t : Nat) :
    cv (cs G S a) (cs G (S ++ [a]) b) t + cv (fun i => fw G S a i b) (fun i => fw G S b i a) t = cv (cs G S a) (cs G S b) t := by
  have e1 : cs G S b = fun i => cs G (S ++ [a]) b i + cv (fun i => fw G S a i b) (off G S a b) i := funext fun i => fw_last G S ne i b
  have e2 : (fun i => fw G S b i a) = cv (cs G S a) (off G S a b) := funext fun i => by
    rw [fw_last G S ne i a, fw_in (by simp : a ∈ S ++ [a]), Nat.zero_add]
    rfl
  have e3 : cv (fun i => fw G S a i b) (fun i => fw G S b i a) t = cv (cs G S a) (cv (fun i => fw G S a i b) (off G S a b)) t := by
    rw [e2, cv_comm, cv_assoc]
    have : cv (off G S a b) (fun i => fw G S a i b) = cv (fun i => fw G S a i b) (off G S a b) := funext fun i => cv_comm i _ _
    rw [this]
  rw [e3]
  have e4 : cv (cs G S a) (cs G S b) t = cv (fun i => cs G (S ++ [a]) b i + cv (fun i => fw G S a i b) (off G S a b) i) (cs G S a) t := by rw [← e1]; exact cv_comm t _ _
  have e5 := cv_add (cs G S a) t (cs G (S ++ [a]) b) (cv (fun i => fw G S a i b) (off G S a b))
  rw [e4, e5, cv_comm t (cs G S a), cv_comm t (cs G S a)]
theorem cs_swap (G : Grid) (S : List Nat) (a b : Nat) : cv (cs G S a) (cs G (S ++ [a]) b) = cv (cs G S b) (cs G (S ++ [b]) a) := funext fun t => by
  by_cases ne : b = a
  · subst ne; rfl
  · have x := cs_two G S ne t
    have y := cs_two G S (a := b) (b := a) (fun e => ne e.symm) t
    rw [cv_comm t (fun i => fw G S b i a)] at y
    rw [cv_comm t (cs G S b) (cs G S a)] at y
    omega
/-! ### the loop numbers -/
def lp (G : Grid) : List Nat → List Nat → Nat → Nat
  | _, [] => one
  | S, a :: L => cv (cs G S a) (lp G (S ++ [a]) L)
theorem lp_congr (G : Grid) : ∀ (L : List Nat) {S T : List Nat}, (∀ x, x ∈ S ↔ x ∈ T) → lp G S L = lp G T L
  | [], S, T, h => rfl
  | a :: L, S, T, h => by
    show cv (cs G S a) (lp G (S ++ [a]) L) = cv (cs G T a) (lp G (T ++ [a]) L)
    rw [cs_congr G h, lp_congr G L (S := S ++ [a]) (T := T ++ [a]) fun x => by simp [h]]
theorem lp_perm (G : Grid) {L M : List Nat} (h : L.Perm M) : ∀ S, lp G S L = lp G S M := by
  induction h with
  | nil => intro S; rfl
  | cons a _ ih =>
    intro S
    show cv (cs G S a) (lp G (S ++ [a]) _) = cv (cs G S a) (lp G (S ++ [a]) _)
    rw [ih]
  | swap a b l =>
    intro S
    show cv (cs G S b) (cv (cs G (S ++ [b]) a) (lp G (S ++ [b] ++ [a]) l)) = cv (cs G S a) (cv (cs G (S ++ [a]) b) (lp G (S ++ [a] ++ [b]) l))
    rw [lp_congr G l (S := S ++ [b] ++ [a]) (T := S ++ [a] ++ [b]) fun x => by
      simp only [List.mem_append, List.mem_singleton]
      constructor <;> (rintro ((h | h) | h) <;> simp [h])]
    apply funext
    intro t
    rw [← cv_assoc, ← cv_assoc, cs_swap]
  | trans _ _ i1 i2 =>
    intro S
    exact (i1 S).trans (i2 S)
theorem lp_snoc (G : Grid) (x : Nat) : ∀ (L S : List Nat), lp G S (L ++ [x]) = cv (lp G S L) (cs G (S ++ L) x)
  | [], S => funext fun t => by
    show cv (cs G S x) one t = cv one (cs G (S ++ []) x) t
    rw [cv_one, one_cv, List.append_nil]
  | a :: L, S => funext fun t => by
    show cv (cs G S a) (lp G (S ++ [a]) (L ++ [x])) t = cv (cv (cs G S a) (lp G (S ++ [a]) L)) _ t
    rw [lp_snoc G x L (S ++ [a]), cv_assoc, List.append_assoc]
    rfl
theorem getD_seq (f : Nat → Nat) {n k : Nat} (h : k ≤ n) : ((List.range (n + 1)).map f).getD k 0 = f k := by
  rw [List.getD_eq_getElem?_getD, List.getElem?_map, List.getElem?_range (by omega)]
  rfl
theorem cnv_seq (f g : Nat → Nat) {n k : Nat} (h : k ≤ n) : cnv ((List.range (n + 1)).map f) ((List.range (n + 1)).map g) k = cv f g k := by
  rw [← cv_sum]
  unfold cnv
  congr 1
  apply List.map_congr_left
  intro i hi
  rw [List.mem_range] at hi
  rw [getD_seq f (by omega), getD_seq g (by omega)]
/-- the loop numbers, as the program finds them -/
theorem fold_lp (G : Grid) (L : List Nat) (n : Nat) : fold n (prs G L n) = (List.range (n + 1)).map (lp G [] L) := by
  have key : ∀ i, i ≤ L.length → fold n ((prs G L n).take i) = (List.range (n + 1)).map (lp G [] (L.take i)) := fun i => by
    induction i with
    | zero =>
      intro _
      show 1 :: List.replicate n 0 = (List.range (n + 1)).map one
      rw [List.range_succ_eq_map, List.map_cons, List.map_map]
      congr 1
      apply List.ext_getElem?
      intro j
      rw [List.getElem?_replicate, List.getElem?_map]
      by_cases h : j < n
      · rw [if_pos h, List.getElem?_range h]; rfl
      · rw [if_neg h, List.getElem?_eq_none (by rw [List.length_range]; omega)]; rfl
    | succ i ih =>
      intro hi
      have hx : L[i]? = some L[i] := List.getElem?_eq_getElem (by omega)
      have hr := prs_row (G := G) (L := L) (n := n) (i := i) (by omega)
      have e : (prs G L n)[i]? = some (row (prs G L n) i) := at_row (by rw [prs_len]; omega)
      rw [fold_snoc e, hr, ih (by omega), List.take_add_one, hx]
      have gd : L.getD i 0 = L[i] := by rw [List.getD_eq_getElem?_getD, hx]; rfl
      rw [gd]
      show conv _ _ n = (List.range (n + 1)).map (lp G [] (L.take i ++ [L[i]]))
      rw [lp_snoc, List.nil_append]
      unfold conv
      apply List.map_congr_left
      intro k hk
      rw [List.mem_range] at hk
      exact cnv_seq _ (cs G (L.take i) L[i]) (by omega)
  have := key L.length (Nat.le_refl _)
  rw [List.take_length] at this
  rw [← this, List.take_of_length_le (by rw [prs_len]; omega)]
end BC

set_option Elab.async false
set_option linter.all false
set_option maxRecDepth 100000
set_option maxHeartbeats 4000000
/-! plain law: loop numbers of reversed sites, without links, with one page more, and the first ones -/
namespace BC
theorem sum_comm (f : Nat → Nat → Nat) (l : List Nat) : ∀ m : List Nat, (l.map fun u => (m.map fun w => f u w).sum).sum = (m.map fun w => (l.map fun u => f u w).sum).sum
  | [] => sum_zeros l
  | w :: m => by
    rw [List.map_cons, List.sum_cons, ← sum_comm f l m, ← sum_add]
    rfl
theorem sum_ind (P : Nat → Bool) (c p : Nat) : ∀ {l : List Nat}, l.Nodup → (l.map fun u => if u = p ∧ P u = true then c else 0).sum = if p ∈ l ∧ P p = true then c else 0
  | [], _ => by simp
  | u :: l, nd => by
    obtain ⟨n1, n2⟩ := List.nodup_cons.mp nd
    rw [List.map_cons, List.sum_cons, sum_ind P c p n2]
    by_cases e : u = p
    · subst e
      rw [if_neg (show ¬(u ∈ l ∧ P u = true) from fun h => n1 h.1), Nat.add_zero]
      by_cases q : P u = true
      · rw [if_pos ⟨rfl, q⟩, if_pos ⟨List.mem_cons_self, q⟩]
      · rw [if_neg (fun h => q h.2), if_neg (fun h => q h.2)]
    · rw [if_neg (fun h => e h.1), Nat.zero_add]
      have : (p ∈ u :: l) ↔ p ∈ l := by
        rw [List.mem_cons]
        exact ⟨fun h => h.resolve_left (fun z => e z.symm), .inr⟩
      simp only [this]
/-- the pages that link to a page -/
def bk (G : Grid) (p : Nat) : List Nat := (List.range G.length).filter fun w => decide (p ∈ row G w)
def Bk (G : Grid) : Grid := (List.range G.length).map (bk G)
theorem Bk_len (G : Grid) : (Bk G).length = G.length := by unfold Bk; rw [List.length_map, List.length_range]
theorem Bk_row {G : Grid} {p : Nat} (h : p < G.length) : row (Bk G) p = bk G p := by
  unfold row Bk
  rw [List.getD_eq_getElem?_getD, List.getElem?_map, List.getElem?_range h]
  rfl
theorem row_nodup {G : Grid} (ok : SiteOk G) {v : Nat} (h : v < G.length) : (row G v).Nodup := asc_nodup (ok.asc v _ (at_row h))
theorem Bk_ok {G : Grid} (ok : SiteOk G) : SiteOk (Bk G) := by
  have key : ∀ (i : Nat) (r : List Nat), (Bk G)[i]? = some r → i < G.length ∧ r = bk G i := fun i r e => by
    have hi := (List.getElem?_eq_some_iff.mp e).1
    rw [Bk_len] at hi
    have a := at_row (G := Bk G) (i := i) (by rw [Bk_len]; exact hi)
    rw [Bk_row hi, e] at a
    exact ⟨hi, Option.some.inj a⟩
  refine ⟨by rw [Bk_len]; exact ok.n1, by rw [Bk_len]; exact ok.n2, fun i r e => ?_, fun i r e x hx => ?_, fun i r e hx => ?_⟩
  · obtain ⟨_, rfl⟩ := key i r e
    exact List.pairwise_lt_range.sublist List.filter_sublist
  · obtain ⟨_, rfl⟩ := key i r e
    rw [Bk_len]
    exact List.mem_range.mp (List.mem_filter.mp hx).1
  · obtain ⟨hi, rfl⟩ := key i r e
    have := (List.mem_filter.mp hx).2
    exact ok.no i _ (at_row hi) (of_decide_eq_true this)
theorem fw_peel {G : Grid} (ok : SiteOk G) (out : List Nat) : ∀ (t p v : Nat), v < G.length → fw G out p (t + 1) v = if p ∉ out then ((bk G p).map fun w => fw G out w t v).sum else 0
  | 0, p, v, hv => by
    show (if v ∉ out then ((row G v).map fun u => if u = p ∧ u ∉ out then 1 else 0).sum else 0) = if p ∉ out then ((bk G p).map fun w => if v = w ∧ v ∉ out then 1 else 0).sum else 0
    have a := sum_ind (fun u => decide (u ∉ out)) 1 p (row_nodup ok hv)
    have nb : (bk G p).Nodup := List.nodup_range.sublist List.filter_sublist
    have b := sum_ind (fun u => decide (u ∉ out)) 1 v nb
    have eb : ((bk G p).map fun w => if v = w ∧ v ∉ out then 1 else 0) = (bk G p).map fun w => if w = v ∧ decide (w ∉ out) = true then 1 else 0 := List.map_congr_left fun w _ => by
      by_cases e : v = w
      · subst e; simp
      · rw [if_neg (fun h => e h.1), if_neg (fun h => e h.1.symm)]
    have ea : ((row G v).map fun u => if u = p ∧ u ∉ out then 1 else 0) = (row G v).map fun u => if u = p ∧ decide (u ∉ out) = true then 1 else 0 := List.map_congr_left fun w _ => by simp only [decide_eq_true_eq]
    have mb : v ∈ bk G p ↔ p ∈ row G v := by
      unfold bk
      rw [List.mem_filter, List.mem_range, decide_eq_true_eq]
      exact ⟨fun h => h.2, fun h => ⟨hv, h⟩⟩
    rw [ea, eb, a, b]
    simp only [mb, decide_eq_true_eq]
    by_cases c : v ∈ out <;> by_cases d : p ∈ out <;> simp [c, d]
  | t + 1, p, v, hv => by
    show (if v ∉ out then ((row G v).map fun u => fw G out p (t + 1) u).sum else 0) = if p ∉ out then ((bk G p).map fun w => if v ∉ out then ((row G v).map fun u => fw G out w t u).sum else 0).sum else 0
    have ih : ((row G v).map fun u => fw G out p (t + 1) u) = (row G v).map fun u => if p ∉ out then ((bk G p).map fun w => fw G out w t u).sum else 0 := List.map_congr_left fun u hu => fw_peel ok out t p u (ok.rlt hu)
    rw [ih]
    by_cases c : v ∉ out
    · simp only [if_pos c]
      by_cases d : p ∉ out
      · simp only [if_pos d]
        exact sum_comm (fun u w => fw G out w t u) _ _
      · simp only [if_neg d]
        exact sum_zeros _
    · simp only [if_neg c]
      rw [sum_zeros]
      split <;> rfl
theorem fw_rev {G : Grid} (ok : SiteOk G) (out : List Nat) : ∀ (t p v : Nat), v < G.length → p < G.length → fw (Bk G) out v t p = fw G out p t v
  | 0, p, v, hv, hp => by
    show (if p = v ∧ p ∉ out then 1 else 0) = if v = p ∧ v ∉ out then 1 else 0
    by_cases e : p = v
    · subst e; rfl
    · rw [if_neg (fun h => e h.1), if_neg (fun h => e h.1.symm)]
  | t + 1, p, v, hv, hp => by
    rw [fw_peel ok out t p v hv]
    show (if p ∉ out then ((row (Bk G) p).map fun u => fw (Bk G) out v t u).sum else 0) = _
    rw [Bk_row hp]
    have : ((bk G p).map fun u => fw (Bk G) out v t u) = (bk G p).map fun w => fw G out w t v := List.map_congr_left fun u hu => fw_rev ok out t u v hv (List.mem_range.mp (List.mem_filter.mp hu).1)
    rw [this]
theorem lp_rev {G : Grid} (ok : SiteOk G) : ∀ (L S : List Nat), (∀ x ∈ L, x < G.length) → lp (Bk G) S L = lp G S L
  | [], S, _ => rfl
  | a :: L, S, h => by
    have ha := h a List.mem_cons_self
    have e : cs (Bk G) S a = cs G S a := funext fun t => fw_rev ok S t a a ha ha
    show cv (cs (Bk G) S a) (lp (Bk G) (S ++ [a]) L) = cv (cs G S a) (lp G (S ++ [a]) L)
    rw [e, lp_rev ok L _ fun x hx => h x (List.mem_cons_of_mem _ hx)]
/-- no links at all -/
theorem lp_none {G : Grid} (h : ∀ v, row G v = []) : ∀ (L S : List Nat), L.Nodup → (∀ x ∈ L, x ∉ S) → lp G S L = one
  | [], S, _, _ => rfl
  | a :: L, S, nd, no => by
    obtain ⟨n1, n2⟩ := List.nodup_cons.mp nd
    have e : cs G S a = one := funext fun t => by
      cases t with
      | zero =>
        show (if a = a ∧ a ∉ S then 1 else 0) = 1
        rw [if_pos ⟨rfl, no a List.mem_cons_self⟩]
      | succ t =>
        show (if a ∉ S then ((row G a).map fun u => fw G S a t u).sum else 0) = 0
        rw [h a]
        split <;> rfl
    show cv (cs G S a) (lp G (S ++ [a]) L) = one
    rw [e, lp_none h L (S ++ [a]) n2 fun x hx m => by
      rcases List.mem_append.mp m with m | m
      · exact no x (List.mem_cons_of_mem _ hx) m
      · rw [List.mem_singleton.mp m] at hx
        exact n1 hx]
    exact funext fun t => one_cv _ t
theorem cv_ge {f g : Nat → Nat} (h : g 0 = 1) : ∀ t, f t ≤ cv f g t
  | 0 => by show f 0 ≤ f 0 * g 0; rw [h]; omega
  | t + 1 => by rw [cv_snoc, h]; omega
theorem lp_more (G : Grid) {x : Nat} {L : List Nat} (h : x ∉ L) (t : Nat) : lp G [] L t ≤ lp G [] (L ++ [x]) t := by
  rw [lp_snoc]
  refine cv_ge ?_ t
  show (if x = x ∧ x ∉ [] ++ L then 1 else 0) = 1
  rw [if_pos ⟨rfl, by simpa using h⟩]
/-! ### the first numbers -/
def Fst (f : Nat → Nat) (n : Nat) : Prop := f 0 = 1 ∧ f 1 = 0 ∧ f 2 = n
theorem fst_one : Fst one 0 := ⟨rfl, rfl, rfl⟩
theorem fst_cv {f g : Nat → Nat} {m n : Nat} (a : Fst f m) (b : Fst g n) : Fst (cv f g) (m + n) := by
  obtain ⟨a0, a1, a2⟩ := a
  obtain ⟨b0, b1, b2⟩ := b
  refine ⟨?_, ?_, ?_⟩
  · show f 0 * g 0 = 1
    rw [a0, b0]
  · show f 0 * g 1 + f 1 * g 0 = 0
    rw [a1, b1]; simp
  · show f 0 * g 2 + (f 1 * g 1 + f 2 * g 0) = m + n
    rw [a0, a1, a2, b0, b1, b2]; omega
/-- pages that are linked both ways with a page, if so -/
def mtl (G : Grid) (P : Nat → Bool) (a : Nat) : Nat := ((row G a).filter fun u => decide (a ∈ row G u) && P u).length
theorem sum_len (P : Nat → Bool) : ∀ l : List Nat, (l.map fun u => if P u = true then 1 else 0).sum = (l.filter P).length
  | [] => rfl
  | u :: l => by
    rw [List.map_cons, List.sum_cons, sum_len P l, List.filter_cons]
    split
    · rw [List.length_cons]; omega
    · omega
theorem cs_fst {G : Grid} (ok : SiteOk G) {S : List Nat} {a : Nat} (ha : a < G.length) (h : a ∉ S) : Fst (cs G S a) (mtl G (fun u => !decide (u ∈ S)) a) := by
  refine ⟨?_, ?_, ?_⟩
  · show (if a = a ∧ a ∉ S then 1 else 0) = 1
    rw [if_pos ⟨rfl, h⟩]
  · show (if a ∉ S then ((row G a).map fun u => if u = a ∧ u ∉ S then 1 else 0).sum else 0) = 0
    rw [if_pos h]
    have : ((row G a).map fun u => if u = a ∧ u ∉ S then 1 else 0) = (row G a).map fun _ => 0 := List.map_congr_left fun u hu => by
      rw [if_neg]
      rintro ⟨rfl, _⟩
      exact ok.no u _ (at_row ha) hu
    rw [this, sum_zeros]
  · show (if a ∉ S then ((row G a).map fun u => if u ∉ S then ((row G u).map fun w => if w = a ∧ w ∉ S then 1 else 0).sum else 0).sum else 0) = _
    rw [if_pos h]
    unfold mtl
    rw [← sum_len]
    congr 1
    apply List.map_congr_left
    intro u hu
    have hul := ok.rlt hu
    have x := sum_ind (fun u => decide (u ∉ S)) 1 a (row_nodup ok hul)
    simp only [decide_eq_true_eq] at x
    rw [x]
    by_cases c : u ∈ S
    · simp [c]
    · simp [c, h]
/-- for pages in ascending order -/
theorem lp_fst {G : Grid} (ok : SiteOk G) (K : List Nat) : ∀ (T S : List Nat), (S ++ T).Pairwise (· < ·) → (∀ x, x ∈ S ++ T ↔ x ∈ K) → (∀ x ∈ T, x < G.length) → Fst (lp G S T) (T.map fun a => mtl G (fun u => !decide (u ∈ K) || decide (a < u)) a).sum
  | [], S, _, _, _ => fst_one
  | a :: T, S, pw, hK, lt => by
    obtain ⟨_, p2, p3⟩ := List.pairwise_append.mp pw
    have aS : a ∉ S := fun m => Nat.lt_irrefl a (p3 a m a List.mem_cons_self)
    have ha := lt a List.mem_cons_self
    have e : S ++ [a] ++ T = S ++ a :: T := by simp
    have ih := lp_fst ok K T (S ++ [a]) (by rw [e]; exact pw) (by rw [e]; exact hK) fun x hx => lt x (List.mem_cons_of_mem _ hx)
    have c := fst_cv (cs_fst ok ha aS) ih
    rw [List.map_cons, List.sum_cons]
    have em : mtl G (fun u => !decide (u ∈ S)) a = mtl G (fun u => !decide (u ∈ K) || decide (a < u)) a := by
      unfold mtl
      congr 1
      apply List.filter_congr
      intro u hu
      have ne : u ≠ a := fun z => ok.no a _ (at_row ha) (z ▸ hu)
      congr 1
      have k := hK u
      by_cases s : u ∈ S
      · have uK := k.mp (List.mem_append_left _ s)
        have ul := p3 u s a List.mem_cons_self
        simp [s, uK]
        omega
      · by_cases t : u ∈ T
        · have ul := (List.pairwise_cons.mp p2).1 u t
          simp [s, ul]
        · have : u ∉ K := fun m => by
            have := k.mpr m
            simp [s, t, ne] at this
          simp [s, this]
    rw [← em]
    exact c
/-- the number of links from one of some pages to a page that links back -/
def prc (G : Grid) (L : List Nat) : Nat := (L.map fun a => mtl G (fun u => !decide (u ∈ L) || decide (a < u)) a).sum
theorem lp_first {G : Grid} (ok : SiteOk G) {L : List Nat} (nd : L.Nodup) (lt : ∀ x ∈ L, x < G.length) : Fst (lp G [] L) (prc G L) := by
  have pm : ((List.range G.length).filter fun x => decide (x ∈ L)).Perm L := by
    rw [List.perm_ext_iff_of_nodup (List.nodup_range.sublist List.filter_sublist) nd]
    intro x
    rw [List.mem_filter, List.mem_range, decide_eq_true_eq]
    exact ⟨fun h => h.2, fun h => ⟨lt x h, h⟩⟩
  have a := lp_fst ok L ((List.range G.length).filter fun x => decide (x ∈ L)) [] (List.pairwise_lt_range.sublist List.filter_sublist) (fun x => by rw [List.nil_append]; exact pm.mem_iff) (fun x hx => lt x (pm.mem_iff.mp hx))
  rw [lp_perm G pm] at a
  unfold prc
  rw [← (pm.map fun a => mtl G (fun u => !decide (u ∈ L) || decide (a < u)) a).sum_nat]
  exact a
/-! ### for the lists that the program finds -/
def lnn (G : Grid) (L : List Nat) (n : Nat) : List Nat := fold n (prs G L n)
theorem lnn_len (G : Grid) (L : List Nat) (n : Nat) : (lnn G L n).length = n + 1 := fold_len _ _
theorem lnn_perm (G : Grid) {L M : List Nat} (h : L.Perm M) (n : Nat) : lnn G L n = lnn G M n := by unfold lnn; rw [fold_lp, fold_lp, lp_perm G h]
theorem lnn_rev {G : Grid} (ok : SiteOk G) {L : List Nat} (lt : ∀ x ∈ L, x < G.length) (n : Nat) : lnn (Bk G) L n = lnn G L n := by unfold lnn; rw [fold_lp, fold_lp, lp_rev ok L [] lt]
theorem lnn_none {G : Grid} (h : ∀ v, row G v = []) {L : List Nat} (nd : L.Nodup) (n : Nat) : lnn G L n = 1 :: List.replicate n 0 := by
  unfold lnn
  rw [fold_lp, lp_none h L [] nd fun x _ => List.not_mem_nil]
  have := fold_lp G [] n
  exact this.symm
theorem lnn_more (G : Grid) {x : Nat} {L : List Nat} (h : x ∉ L) {n i a b : Nat} (ea : (lnn G L n)[i]? = some a) (eb : (lnn G (L ++ [x]) n)[i]? = some b) : a ≤ b := by
  unfold lnn at ea eb
  rw [fold_lp, List.getElem?_map] at ea eb
  cases q : (List.range (n + 1))[i]? with
  | none => rw [q] at ea; cases ea
  | some j =>
    rw [q] at ea eb
    cases ea; cases eb
    exact lp_more G h j
theorem lnn_first {G : Grid} (ok : SiteOk G) {L : List Nat} (nd : L.Nodup) (lt : ∀ x ∈ L, x < G.length) {n : Nat} (hn : 2 ≤ n) : (lnn G L n).take 3 = [1, 0, prc G L] := by
  obtain ⟨a, b, c⟩ := lp_first ok nd lt
  unfold lnn
  rw [fold_lp]
  obtain ⟨m, rfl⟩ : ∃ m, n = m + 2 := ⟨n - 2, by omega⟩
  rw [List.range_succ_eq_map, List.range_succ_eq_map, List.range_succ_eq_map]
  simp only [List.map_cons, List.take_succ_cons, List.take_zero, List.map_map]
  rw [a, show lp G [] L (Nat.succ 0) = 0 from b, show lp G [] L (Nat.succ 0).succ = prc G L from c]
end BC

set_option Elab.async false
set_option linter.all false
set_option maxRecDepth 100000
set_option maxHeartbeats 4000000
/-! plain law: walks counted from the other end -/
namespace BC
/-- what is added to the numbers of the next step, while the rows before i are done, and j pages of row i -/
def acc (G : Grid) (out : List Nat) (old : Nat → Nat) (i j : Nat) (q : Nat) : Nat := if q ∉ out then (((List.range i).filter fun w => decide (q ∈ row G w)).map old).sum + (if q ∈ (row G i).take j then old i else 0) else 0
def accs (G : Grid) (out : List Nat) (old : Nat → Nat) (i j : Nat) : List Nat := (List.range G.length).map (acc G out old i j)
theorem accs_len (G : Grid) (out : List Nat) (old : Nat → Nat) (i j : Nat) : (accs G out old i j).length = G.length := by unfold accs; rw [List.length_map, List.length_range]
theorem accs_at {G : Grid} {out : List Nat} {old : Nat → Nat} {i j q : Nat} (h : q < G.length) : (accs G out old i j)[q]? = some (acc G out old i j q) := by
  unfold accs
  rw [List.getElem?_map, List.getElem?_range h]
  rfl
theorem accs_zero (G : Grid) (out : List Nat) (old : Nat → Nat) : accs G out old 0 0 = List.replicate G.length 0 := by
  have e : ∀ q, acc G out old 0 0 q = 0 := fun q => by
    unfold acc
    simp
  apply List.ext_getElem?
  intro q
  by_cases h : q < G.length
  · rw [accs_at h, e, List.getElem?_replicate, if_pos h]
  · rw [List.getElem?_eq_none (by rw [accs_len]; omega), List.getElem?_eq_none (by rw [List.length_replicate]; omega)]
theorem accs_out {G : Grid} {out : List Nat} {old : Nat → Nat} {i j x : Nat} (hx : (row G i)[j]? = some x) (h : x ∈ out) : accs G out old i (j + 1) = accs G out old i j := by
  unfold accs
  apply List.map_congr_left
  intro q _
  unfold acc
  by_cases c : q ∈ out
  · rw [if_neg (by simpa using c), if_neg (by simpa using c)]
  · rw [if_pos c, if_pos c, List.take_add_one, hx]
    have : q ≠ x := fun e => c (e ▸ h)
    simp [this]
theorem take_no {l : List Nat} (nd : l.Nodup) {j x : Nat} (hx : l[j]? = some x) : x ∉ l.take j := fun m => by
  obtain ⟨i, hi, e⟩ := List.getElem_of_mem m
  rw [List.length_take] at hi
  have a : l[i]? = some x := by
    rw [← e, List.getElem_take]
    exact List.getElem?_eq_getElem (by omega)
  have := nd_at nd a hx
  omega
theorem accs_in {G : Grid} (ok : SiteOk G) {out : List Nat} {old : Nat → Nat} {i j x : Nat} (hi : i < G.length) (hx : (row G i)[j]? = some x) (h : x ∉ out) : (accs G out old i j).set x (acc G out old i j x + old i) = accs G out old i (j + 1) := by
  have xl : x < G.length := ok.rlt (List.mem_of_getElem? hx)
  apply List.ext_getElem?
  intro q
  by_cases hq : q < G.length
  · rw [accs_at hq, List.getElem?_set]
    by_cases e : x = q
    · subst e
      rw [if_pos rfl, if_pos (by rw [accs_len]; exact hq)]
      congr 1
      unfold acc
      rw [if_pos h, if_pos h, if_neg (take_no (row_nodup ok hi) hx), List.take_add_one, hx, if_pos (by simp)]
      omega
    · rw [if_neg e, accs_at hq]
      congr 1
      unfold acc
      rw [List.take_add_one, hx]
      have : q ≠ x := fun z => e z.symm
      simp [this]
  · rw [List.getElem?_eq_none (by rw [List.length_set, accs_len]; omega), List.getElem?_eq_none (by rw [accs_len]; omega)]
theorem accs_next (G : Grid) (out : List Nat) (old : Nat → Nat) (i : Nat) : accs G out old i (row G i).length = accs G out old (i + 1) 0 := by
  unfold accs
  apply List.map_congr_left
  intro q _
  unfold acc
  rw [List.take_length, List.take_zero, List.range_succ, List.filter_append, List.map_append, List.sum_append]
  by_cases c : q ∈ row G i
  · rw [if_pos c, List.filter_cons_of_pos (by simpa using c)]
    simp
  · rw [if_neg c, List.filter_cons_of_neg (by simpa using c)]
    simp
/-- the walks of so many steps from p to each page -/
def ends (G : Grid) (out : List Nat) (p t : Nat) : List Nat := (List.range G.length).map fun q => fw G out q t p
theorem ends_len (G : Grid) (out : List Nat) (p t : Nat) : (ends G out p t).length = G.length := by unfold ends; rw [List.length_map, List.length_range]
theorem ends_at {G : Grid} {out : List Nat} {p t q : Nat} (h : q < G.length) : (ends G out p t)[q]? = some (fw G out q t p) := by
  unfold ends
  rw [List.getElem?_map, List.getElem?_range h]
  rfl
theorem ends_next {G : Grid} (ok : SiteOk G) {out : List Nat} {p t : Nat} (hp : p < G.length) : accs G out (fun w => fw G out w t p) G.length 0 = ends G out p (t + 1) := by
  unfold accs ends
  apply List.map_congr_left
  intro q _
  rw [fw_peel ok out t q p hp]
  unfold acc bk
  rw [List.take_zero]
  simp
theorem ends_zero {G : Grid} {out : List Nat} {p : Nat} (h : p ∉ out) : ends G out p 0 = (List.range G.length).map fun q => if q = p then 1 else 0 := by
  unfold ends
  apply List.map_congr_left
  intro q _
  show (if p = q ∧ p ∉ out then 1 else 0) = _
  by_cases c : p = q
  · rw [if_pos ⟨c, h⟩, if_pos c.symm]
  · rw [if_neg (fun z => c z.1), if_neg (fun z => c z.symm)]
end BC

set_option Elab.async false
set_option linter.all false
set_option maxRecDepth 100000
set_option maxHeartbeats 4000000
/-! a row of a site put anew; comprehensions whose tests change what stands; the site of all links -/
namespace BC
open PySem PySem.Spec PyProof.Rows L2 Evl
theorem lc_listT {K : PySem.W.Frag} {σ : L2.St} {H1 : Hp} {g : TG} {tt : TT} {te : TE} {vs : List Nat} {Dl : Addr} {Q : VK} {a : Addr} {xs : List V} (Pv : Nat → Hp → Prop) (h0 : Pv 0 (upd H1 Dl (.lst []))) (hl : ∀ i H, i ≤ xs.length → Pv i H → SqL K H a xs)
    (hs : ∀ i x H, xs[i]? = some x → Pv i H → g x (wipe σ vs) H fun σ2 H2 => wipe σ2 vs = wipe σ vs ∧ tt σ2 H2 fun b H3 => if b = true then te σ2 H3 fun y H4 => ∃ acc, H4 Dl = some (.lst acc) ∧ acc.length < sizeLine ∧ Pv (i + 1) (upd H4 Dl (.lst (acc ++ [y]))) else Pv (i + 1) H3)
    (hd : ∀ H, Pv xs.length H → Q (.ref Dl) H) : LcG (Itl K a) g tt te vs σ Dl H1 Q := by
  refine lc_g xs.length Pv h0 (fun H h => ⟨xs, hl _ H (Nat.le_refl _) h, Nat.le_refl _⟩) (fun i H hi h => ⟨xs, xs[i], hl i H (by omega) h, List.getElem?_eq_getElem hi⟩) (fun i H x H' hi h y => ?_) hd
  obtain ⟨rfl, hf⟩ := y
  exact hs i x _ (hf xs (hl i _ (by omega) h)) h
theorem nodup_set {α : Type} : ∀ {ps : List α} {j : Nat} {p : α}, ps.Nodup → p ∉ ps → (ps.set j p).Nodup
  | [], _, _, h, _ => h
  | x :: ps, 0, p, h, n => by
    obtain ⟨_, h2⟩ := List.nodup_cons.mp h
    exact List.nodup_cons.mpr ⟨fun m => n (List.mem_cons_of_mem _ m), h2⟩
  | x :: ps, j + 1, p, h, n => by
    obtain ⟨h1, h2⟩ := List.nodup_cons.mp h
    refine List.nodup_cons.mpr ⟨fun m => ?_, nodup_set h2 fun m => n (List.mem_cons_of_mem _ m)⟩
    rcases List.mem_or_eq_of_mem_set m with m | e
    · exact h1 m
    · exact n (e ▸ List.mem_cons_self)
/-- another row in the place of one -/
theorem GridN.put {H H0 H1 : Hp} {s p : Addr} {G : Grid} {r : List Nat} {j : Nat} (h : GridN H H0 s G) (hj : j < G.length) (nH : H p = none) (n0 : H0 p = none) (e : Nw H H0 H1) (hp : H1 p = some (.lst ((nz r).map V.int))) :
    ∃ xs, H1 s = some (.lst xs) ∧ xs.length = G.length ∧ GridN H (upd H1 s (.lst (xs.set j (.ref p)))) s (G.set j r) := by
  obtain ⟨h0, ps, h1, h2, h4, h5, h3⟩ := h
  have hs1 := e _ _ h0 h1
  have np : p ∉ ps := fun m => by
    obtain ⟨i, hi, ei⟩ := List.getElem_of_mem m
    have := (h3 i p (List.getElem?_eq_some_iff.mpr ⟨hi, ei⟩)).2
    rw [n0] at this
    cases this
  have nsp : s ≠ p := fun z => by
    rw [z, n0] at h1
    cases h1
  refine ⟨_, hs1, by rw [List.length_map, h2], h0, ps.set j p, by rw [upd_same, List.map_set], by rw [List.length_set, List.length_set, h2], nodup_set h4 np, fun m => ?_, fun i q z => ?_⟩
  · rcases List.mem_or_eq_of_mem_set m with m | e
    · exact h5 m
    · exact nsp e
  · rw [List.getElem?_set] at z
    by_cases c : j = i
    · subst c
      rw [if_pos rfl, if_pos (by omega)] at z
      obtain rfl := Option.some.inj z
      refine ⟨nH, ?_⟩
      rw [upd_ne (Ne.symm nsp), hp]
      unfold row
      rw [List.getD_eq_getElem?_getD, List.getElem?_set, if_pos rfl, if_pos hj]
      rfl
    · rw [if_neg c] at z
      obtain ⟨y1, y2⟩ := h3 i q z
      have nqs : q ≠ s := fun y => h5 (y ▸ List.mem_of_getElem? z)
      refine ⟨y1, ?_⟩
      rw [upd_ne nqs, e _ _ y1 y2]
      unfold row
      rw [List.getD_eq_getElem?_getD, List.getD_eq_getElem?_getD, List.getElem?_set, if_neg c]
theorem SiteOk.set {G : Grid} (ok : SiteOk G) {j : Nat} {r : List Nat} (hj : j < G.length) (h : r.Sublist (row G j)) : SiteOk (G.set j r) := by
  have key : ∀ (i : Nat) (x : List Nat), (G.set j r)[i]? = some x → i < G.length ∧ x.Sublist (row G i) := fun i x e => by
    rw [List.getElem?_set] at e
    by_cases c : j = i
    · subst c
      rw [if_pos rfl, if_pos hj] at e
      obtain rfl := Option.some.inj e
      exact ⟨hj, h⟩
    · rw [if_neg c] at e
      have hi := (List.getElem?_eq_some_iff.mp e).1
      have := at_row hi
      rw [e] at this
      obtain rfl := Option.some.inj this
      exact ⟨hi, List.Sublist.refl _⟩
  refine ⟨by rw [List.length_set]; exact ok.n1, by rw [List.length_set]; exact ok.n2, fun i x e => ?_, fun i x e y hy => ?_, fun i x e hy => ?_⟩
  · obtain ⟨hi, sl⟩ := key i x e
    exact (ok.asc i _ (at_row hi)).sublist sl
  · obtain ⟨hi, sl⟩ := key i x e
    rw [List.length_set]
    exact ok.lt i _ (at_row hi) y (sl.subset hy)
  · obtain ⟨hi, sl⟩ := key i x e
    exact ok.no i _ (at_row hi) (sl.subset hy)
/-- all links of twelve pages -/
def allG : Grid := (List.range 12).map fun p => (List.range 12).filter fun u => !decide (u = p)
theorem allG_len : allG.length = 12 := by unfold allG; rw [List.length_map, List.length_range]
theorem allG_row {p : Nat} (h : p < 12) : row allG p = (List.range 12).filter fun u => !decide (u = p) := by
  unfold row allG
  rw [List.getD_eq_getElem?_getD, List.getElem?_map, List.getElem?_range h]
  rfl
theorem allG_ok : SiteOk allG := by
  have key : ∀ (i : Nat) (r : List Nat), allG[i]? = some r → i < 12 ∧ r = (List.range 12).filter fun u => !decide (u = i) := fun i r e => by
    have hi := (List.getElem?_eq_some_iff.mp e).1
    have a := at_row hi
    rw [allG_len] at hi
    rw [allG_row hi, e] at a
    exact ⟨hi, Option.some.inj a⟩
  refine ⟨by rw [allG_len]; omega, by rw [allG_len]; omega, fun i r e => ?_, fun i r e x hx => ?_, fun i r e hx => ?_⟩
  · obtain ⟨_, rfl⟩ := key i r e
    exact List.pairwise_lt_range.sublist List.filter_sublist
  · obtain ⟨_, rfl⟩ := key i r e
    rw [allG_len]
    exact List.mem_range.mp (List.mem_filter.mp hx).1
  · obtain ⟨_, rfl⟩ := key i r e
    have := (List.mem_filter.mp hx).2
    simp at this
theorem allG_lnn : lnn allG (List.range 12) 0 = [1] ∧ lnn allG (List.range 12) 1 = [1, 0] ∧ lnn allG (List.range 12) 2 = [1, 0, 66] := by
  have f := lnn_first allG_ok List.nodup_range (fun x hx => by rw [allG_len]; exact List.mem_range.mp hx) (Nat.le_refl 2)
  rw [List.take_of_length_le (by rw [lnn_len]; omega)] at f
  have p66 : prc allG (List.range 12) = 66 := by decide +kernel
  rw [p66] at f
  refine ⟨?_, ?_, f⟩
  · unfold lnn at f ⊢
    rw [fold_lp] at f ⊢
    have := congrArg (List.take 1) f
    rw [← List.map_take] at this
    exact this
  · unfold lnn at f ⊢
    rw [fold_lp] at f ⊢
    have := congrArg (List.take 2) f
    rw [← List.map_take] at this
    exact this
end BC

set_option Elab.async false
set_option linter.all false
set_option maxRecDepth 100000
set_option maxHeartbeats 4000000
namespace LW
open PySem PySem.Spec PyProof.Rows L2 BC Evl TR
local macro_rules | `(tactic| walk_at "sx") => `(tactic| try simp only [x_dcT, x_dc, x_updT, x_iitemsT, x_dispT1, x_valsT, x_lockT, SL.x_yfor, SL.x_yplain, SL.x_ythen, SL.x_y0, SL.x_yyield, SL.x_ywhile, SL.x_callY, SL.x_callYK, x_gwhile, x_callG, x_g0, x_gfor, x_gplain, x_gthen, x_gyield, x_listG, x_dnewT, x_dget, x_dget2, x_dput, x_seq, x_next, x_brk, x_cnt, x_nev, x_ret, x_retN, x_drop, x_ifS, x_asg, x_gn, x_gsub, x_par, x_par3, x_aug, x_for, x_lc, x_rng1, x_rng2, x_rng3, x_ilist, x_itup, x_ienum, x_izip, x_izipA, x_istr, x_var, x_c, x_op, x_un, x_test, x_b, x_chain, x_and, x_or, x_not, x_andV, x_orV, x_notV, x_ife, x_nil, x_cons, x_lst, x_tup, x_cb, x_call, x_callK, x_bm, x_bm0, x_tru, x_sl, x_nopart, x_part, x_revL, x_I0, x_I, x_U, x_ip, x_ipC, x_eqI, x_neI, x_eqB, x_neB, x_eqS, x_neS, x_isB, x_isNB, x_lrg, x_gall, x_lenSet, x_augS, x_sortSet, x_rg1, x_rg2,
  L2.start, List.map_cons, List.map_nil, List.length_cons, List.length_nil, Nat.reduceAdd, Nat.reduceSub, Nat.sub_self, Nat.zero_add, List.replicate, List.replicate_succ, List.replicate_zero, List.append_nil, List.cons_append, List.nil_append, List.set_cons_zero, List.set_cons_succ, List.getElem?_cons_zero, List.getElem?_cons_succ, Option.some.injEq, V.int.injEq, V.bl.injEq, V.ref.injEq, V.str.injEq, List.cons.injEq, and_true, true_and, exists_eq_left', exists_eq_left, exists_and_left, exists_eq, if_true, if_false, ite_true, ite_false, Bool.true_eq_false, Bool.false_eq_true, reduceIte, reduceCtorEq, Bool.not_true, Bool.not_false, decide_true, decide_false, decide_eq_true_eq, Bool.and_true, Bool.true_and, Bool.and_self, Bool.and_false, Bool.false_and, Bool.or_self, Bool.or_false, Bool.false_or, Bool.or_true, Bool.true_or, eq_self])
section
open ST
variable {P : Program} {w : World} {K : PySem.W.Frag} {mg : Str → Option Value} {base : Heap}
theorem lc_rngT {σ : L2.St} {H1 : Hp} {g : TG} {tt : TT} {te : TE} {vs : List Nat} {Dl : Addr} {Q : VK} {lo : Int} {n : Nat} (Pv : Nat → Hp → Prop) (h0 : Pv 0 (upd H1 Dl (.lst [])))
    (hs : ∀ i H, i < n → Pv i H → g (.int (lo + i)) (wipe σ vs) H fun σ2 H2 => wipe σ2 vs = wipe σ vs ∧ tt σ2 H2 fun b H3 => if b = true then te σ2 H3 fun y H4 => ∃ acc, H4 Dl = some (.lst acc) ∧ acc.length < sizeLine ∧ Pv (i + 1) (upd H4 Dl (.lst (acc ++ [y]))) else Pv (i + 1) H3)
    (hd : ∀ H, Pv n H → Q (.ref Dl) H) : LcG (Itr lo n) g tt te vs σ Dl H1 Q := by
  refine lc_g n Pv h0 (fun H h => Nat.le_refl _) (fun i H hi h => hi) (fun i H x H' hi h y => ?_) hd
  obtain ⟨rfl, rfl⟩ := y
  exact hs i _ hi h
/-- one visit -/
def spAft (K : PySem.W.Frag) : Sp := fun vs H Q _ => ∃ (a : Addr) (t : List Int) (p : Int), vs = [.ref a, .int p] ∧ H a = some (.lst (t.map V.int)) ∧ t.length ≤ 1000 ∧ ∀ r H', H r = none → Ex H H' → H' r = some (.lst ((vis t p).map V.int)) → Q (.ref r) H'
theorem ok_law_after (T : Txt K mg) : FnOk P w K mg base CX0 1 T.f_law_after T.fd_law_after ["_law_row", "_law_spot"] (spAft K) := by
  refine T.F_law_after.ok sc_law_after (fun vs H Q E h => ?_) (fun cdv A outer s H vs Q E hr h => ?_)
  · obtain ⟨a, t, p, rfl, _⟩ := h
    rfl
  · obtain ⟨a, t, p, rfl, hA, hl, k⟩ := h
    apply Exists.intro
    apply And.intro
    · apply pss_one
      exact (ps_ret (pe_ifExp (pt_cmpR (k_in (K := K) rfl) (pv 1) (pv 0) (by rfl)) (pe_slice (k_sl_list (K := K) rfl) (pv 0) po_none (po_some (pe_op op_add (k_bm (K := K) rfl (pe_bm PySem.F.plainAttrs_list PySem.F.slot_list_index PySem.F.type_list_index (k_index (K := K) rfl) (pv 0) (pa_cons (pv 1) pa_nil))) pe_int))) (pe_op op_cat (pv 0) (pe_lst (pa_cons (pv 1) pa_nil)))))
    walk_at "sx"
    refine inL (.inl (.inl hA)) ?_
    by_cases m : p ∈ t
    · have hi := List.idxOf_lt_length_of_mem m
      rw [decide_eq_true m]
      walk_at "sx"
      refine ⟨tyL hA, ?_⟩
      refine idxL (.inl (.inl hA)) m ?_
      walk_at "sx"
      refine slL (.inl (.inl hA)) fun r nr => ?_
      refine k r _ nr (Ex.new nr) ?_
      rw [upd_same, cut_to (j := t.idxOf p + 1) _ (by omega) (by rw [List.length_map]; omega)]
      unfold vis
      rw [if_pos m, List.map_take]
    · rw [decide_eq_false m]
      walk_at "sx"
      refine ⟨sz_ok (by omega), fun z nz => ?_⟩
      have e1 := Ex.new nz (o := .lst [V.int p])
      refine catL (e1 _ _ hA) upd_same (sz_ok (by rw [List.length_map, List.length_singleton]; omega)) fun r nr => ?_
      refine k r _ (fresh_back e1 nr) (e1.trans (Ex.new nr)) ?_
      rw [upd_same]
      unfold vis
      rw [if_neg m, List.map_append]
      rfl
def TrA (H : Hp) (ns : List Int) (rs : List Addr) : Prop := ∀ (i : Nat) r, rs[i]? = some r → H r = some (.lst ((tr ns (i + 1)).map V.int))
theorem TrA.ex {H H' : Hp} {ns : List Int} {rs : List Addr} (h : TrA H ns rs) (e : Ex H H') : TrA H' ns rs := fun i r q => e _ _ (h i r q)
def spTrs (K : PySem.W.Frag) : Sp := fun vs H Q _ => ∃ (z a : Addr) (ns : List Int), vs = [.ref z, .ref a] ∧ H z = some (.lst []) ∧ SqL K H a (ns.map V.int) ∧ ns.length ≤ 301 ∧ Pg 40 ns ∧ ∀ f rs H', H f = none → Ex H H' → H' f = some (.lst ((rs : List Addr).map V.ref)) → rs.length = ns.length → TrA H' ns rs → Q (.ref f) H'
def JTrs (H : Hp) (a : Addr) (ns : List Int) (i : Nat) (σ' : L2.St) (H' : Hp) : Prop := ∃ row f l3 rs, σ' = [some (.ref row), some (.ref a), some (.ref f), l3] ∧ H f = none ∧ Ex H H' ∧ H' row = some (.lst ((tr ns i).map V.int)) ∧ row ≠ f ∧ H' f = some (.lst ((rs : List Addr).map V.ref)) ∧ rs.length = i ∧ f ∉ rs ∧ TrA H' ns rs
theorem ok_law_trails (T : Txt K mg) : FnOk P w K mg base CX0 2 T.f_law_trails T.fd_law_trails ["_law_row", "_law_line_here"] (spTrs K) := by
  refine T.F_law_trails.ok sc_law_trails (fun vs H Q E h => ?_) (fun cdv A outer s H vs Q E hr h => ?_)
  · obtain ⟨z, a, ns, rfl, _⟩ := h
    rfl
  · obtain ⟨z, a, ns, rfl, hz, hA, hl, hp, k⟩ := h
    apply Exists.intro
    apply And.intro
    · apply pss_cons
      · exact (ps_set (i := 2) sc_law_trails.nd rfl (.inl rfl) (pe_lst pa_nil))
      apply pss_cons
      · apply ps_for PassesOwn.never rfl
        · exact (k_pi_list (K := K) rfl (pv 1))
        · exact (pg_name (i := 3) sc_law_trails.nd rfl (.inl rfl))
        · apply pss_cons
          · exact (ps_set (i := 0) sc_law_trails.nd rfl (.inl rfl) (pe_call (ok_law_after T) (hr.mono (by decide)) (by rfl) T.m_law_after T.F_law_after.kp T.b_law_after .nil pass0 (pa_cons (pv 0) (pa_cons (pv 3) pa_nil))))
          apply pss_one
          exact (ps_expr (k_bm (K := K) rfl (pe_bm PySem.F.plainAttrs_list PySem.F.slot_list_append PySem.F.type_list_append mt_append (pv 2) (pa_cons (pv 0) pa_nil))))
      apply pss_one
      exact (ps_ret (pv 2))
    walk_at "sx"
    refine ⟨sz_ok (by omega), fun f nf => ⟨⟨_, ex_l (Ex.new nf) hA⟩, ?_⟩⟩
    have ef := Ex.new nf (o := .lst [])
    refine lg_list (xs := ns.map V.int) (JTrs H a ns) ⟨z, f, none, [], rfl, nf, ef, ef _ _ hz, ne_of_none hz nf, upd_same, rfl, List.not_mem_nil, fun i r q => by simp at q⟩ (fun i σ' H' _ hP => by obtain ⟨_, _, _, _, _, _, e, _⟩ := hP; exact ex_l e hA) (fun i x σ' H' hx hP => ?_) (fun σ' H' hP => ?_)
    · obtain ⟨row, f, l3, rs, rfl, nf, e, hr, nrf, hf, lr, nfr, hrs⟩ := hP
      obtain ⟨p, hpn, rfl⟩ := ints_at hx
      have hi := (List.getElem?_eq_some_iff.mp hpn).1
      have tl := tr_le hp i
      walk_at "sx"
      refine ⟨row, _, p, rfl, hr, by omega, fun r H1 nr e1 h1 => ?_⟩
      have hf1 := e1 _ _ hf
      have nrf1 : r ≠ f := (ne_of_none hf nr).symm
      have ht : tr ns (i + 1) = vis (tr ns i) p := by rw [tr_succ hi, pg_at hpn]
      rw [← ht] at h1
      refine ⟨tyL hf1, appL hf1 (BC.sz_lt (by rw [List.length_map, lr]; omega)) ?_⟩
      refine ⟨r, f, _, rs ++ [r], rfl, nf, (e.trans e1).mut nf, by rw [upd_ne nrf1]; exact h1, nrf1, by rw [upd_same, List.map_append]; rfl, by rw [List.length_append, lr]; rfl, fun m => ?_, fun j q hq => ?_⟩
      · rcases List.mem_append.mp m with m | m
        · exact nfr m
        · exact nrf1 (List.mem_singleton.mp m).symm
      · by_cases c : j < rs.length
        · rw [List.getElem?_append_left c] at hq
          rw [upd_ne (fun z : q = f => nfr (by rw [← z]; exact List.mem_of_getElem? hq))]
          exact e1 _ _ (hrs j q hq)
        · have := (List.getElem?_eq_some_iff.mp hq).1
          rw [List.length_append] at this
          have hj : j = rs.length := by
            have : j < rs.length + 1 := this
            omega
          subst hj
          rw [List.getElem?_append_right (Nat.le_refl _), Nat.sub_self] at hq
          cases Option.some.inj hq
          rw [upd_ne nrf1, lr]
          exact h1
    · obtain ⟨row, f, l3, rs, rfl, nf, e, hr, nrf, hf, lr, nfr, hrs⟩ := hP
      walk_at "sx"
      rw [List.length_map] at lr
      exact k f rs _ nf e hf lr hrs
theorem g_thr {i j k : Nat} {σ : L2.St} {H : Hp} {T : Addr} {x y z : V} {QG : L2.St → Hp → Prop} (h : H T = some (.tup [x, y, z])) (r : QG (((σ.set i (some x)).set j (some y)).set k (some z)) H) :
    gTup K 3 (gCons (gName i) (gCons (gName j) (gCons (gName k) gNil))) (.ref T) σ H QG := ⟨T, [x, y, z], rfl, .inl (.inl h), rfl, x, [y, z], rfl, y, [z], rfl, z, [], rfl, rfl, r⟩
/-- what the law tells of stays and cuts -/
def spDue (K : PySem.W.Frag) : Sp := fun vs H Q _ => ∃ (a : Addr) (ns : List Int), vs = [.ref a] ∧ SqL K H a (ns.map V.int) ∧ ns.length ≤ 301 ∧ Pg 40 ns ∧ ∀ (r kp lo : Addr) (ts us rs : List Addr) H', H r = none → Ex H H' → H' r = some (.lst [.ref kp, .ref lo]) → H' kp = some (.lst (ts.map V.ref)) → StA H' ns ts (gr ns ns.length) (endOf ns ns.length) → H' lo = some (.lst (us.map V.ref)) → CtN H H' lo us rs (ctn ns ns.length) (cutV2 ns) → Q (.ref r) H'
def JDu (H H1 : Hp) (a R kp lo : Addr) (ns : List Int) (i : Nat) (σ' : L2.St) (H' : Hp) : Prop := ∃ l4 l5 l6 l7 ts us rs, σ' = [some (.ref a), some (.ref R), some (.ref kp), some (.ref lo), l4, l5, l6, l7] ∧ Ex H1 H' ∧ H' kp = some (.lst ((ts : List Addr).map V.ref)) ∧ StA H' ns ts (gr ns i) (endOf ns ns.length) ∧ H' lo = some (.lst ((us : List Addr).map V.ref)) ∧ CtN H H' lo us rs (ctn ns i) (cutV2 ns) ∧ kp ∉ rs
def PvL (HT : Hp) (D : Addr) (ns : List Int) (i : Nat) (u : Nat) (H' : Hp) : Prop := Ex HT H' ∧ H' D = some (.lst ((nz (((List.range u).filter fun k => decide (pg ns i ∉ tr ns (i + 1 + k + 1))).map fun k => i + 1 + k)).map V.int))
theorem ok_law_due (T : Txt K mg) : FnOk P w K mg base CX0 3 T.f_law_due T.fd_law_due ["_law_line_here"] (spDue K) := by
  refine T.F_law_due.ok sc_law_due (fun vs H Q E h => ?_) (fun cdv A outer s H vs Q E hr h => ?_)
  · obtain ⟨a, ns, rfl, _⟩ := h
    rfl
  · obtain ⟨a, ns, rfl, hA, hl, hp, k⟩ := h
    apply Exists.intro
    apply And.intro
    · apply pss_cons
      · exact (ps_asg (pe_tup (pa_cons (pe_op op_cat (pe_lst (pa_cons (pe_lst pa_nil) pa_nil)) (pe_call (ok_law_trails T) (hr.mono (by decide)) (by rfl) T.m_law_trails T.F_law_trails.kp T.b_law_trails .nil pass0 (pa_cons (pe_lst pa_nil) (pa_cons (pv 0) pa_nil)))) (pa_cons (pe_lst pa_nil) (pa_cons (pe_lst pa_nil) pa_nil)))) (k_tup (K := K) (n := 3) rfl rfl (pgs_cons (pg_name (i := 1) sc_law_due.nd rfl (.inr rfl)) (pgs_cons (pg_name (i := 2) sc_law_due.nd rfl (.inl rfl)) (pgs_cons (pg_name (i := 3) sc_law_due.nd rfl (.inl rfl)) pgs_nil)))))
      apply pss_cons
      · apply ps_for PassesOwn.never rfl
        · exact (k_pi_enum (K := K) rfl (by rfl) T.n_enumerate (pa_cons (pv 0) pa_nil))
        · exact (k_tup (K := K) (n := 2) rfl rfl (pgs_cons (pg_name (i := 4) sc_law_due.nd rfl (.inl rfl)) (pgs_cons (pg_name (i := 5) sc_law_due.nd rfl (.inr rfl)) pgs_nil)))
        · apply pss_one
          apply ps_if
          · exact (pt_cmpR (k_in (K := K) rfl) (pv 5) (pe_ix (k_ix_list (K := K) rfl) (pv 1) (pv 4) (fun _ _ => rfl)) (by rfl))
          · apply pss_one
            exact (ps_expr (k_bm (K := K) rfl (pe_bm PySem.F.plainAttrs_list PySem.F.slot_list_append PySem.F.type_list_append mt_append (pv 3) (pa_cons (pe_tup (pa_cons (pv 4) (pa_cons (pe_slice (k_sl_list (K := K) rfl) (pe_ix (k_ix_list (K := K) rfl) (pv 1) (pv 4) (fun _ _ => rfl)) (po_some (pe_callB (k_len (K := K) rfl) (by rfl) T.n_len PySem.boot_len (pa_cons (pe_ix (k_ix_list (K := K) rfl) (pv 1) (pe_op op_add (pv 4) pe_int) (fun _ _ => rfl)) pa_nil))) po_none) pa_nil))) pa_nil))))
          · apply pss_cons
            · exact (ps_setLc (i := 6) (own := [("_law_far", 7)]) rfl sc_law_due.nd rfl rfl (sw_true rfl rfl rfl (by decide +kernel)) (pi_range2 (by rfl) T.n_range (pa_cons (pe_op op_add (pv 4) pe_int) (pa_cons (pe_callB (k_len (K := K) rfl) (by rfl) T.n_len PySem.boot_len (pa_cons (pv 0) pa_nil)) pa_nil))) (blkOk_by (own := [("_law_far", 7)]) (N := ["_law_line_here", "_law_rows", "_law_kept", "_law_lost", "_law_at", "_law_spot", "_law_later", "_law_far"]) (sc := defScope s_law_due) (by decide +kernel)) (fun _ _ _ _ _ => by exact (pg_name (i := 7) sc_law_due.nd rfl (.inl rfl))) (fun _ _ _ _ _ => by exact (pts_one (pt_cmpR (k_notIn (K := K) rfl) (pv 5) (pe_ix (k_ix_list (K := K) rfl) (pv 1) (pe_op op_add (pv 7) pe_int) (fun _ _ => rfl)) (by rfl)))) (fun _ _ _ _ _ => by exact (pv 7)))
            apply pss_one
            exact (ps_expr (k_bm (K := K) rfl (pe_bm PySem.F.plainAttrs_list PySem.F.slot_list_append PySem.F.type_list_append mt_append (pv 2) (pa_cons (pe_tup (pa_cons (pv 4) (pa_cons (pv 5) (pa_cons (pe_ix (k_ix_list (K := K) rfl) (pe_op op_cat (pv 6) (pe_lst (pa_cons pe_non pa_nil))) pe_int (fun _ _ => rfl)) pa_nil)))) pa_nil))))
      apply pss_one
      exact (ps_ret (pe_lst (pa_cons (pv 2) (pa_cons (pv 3) pa_nil))))
    refine seq_cut (fun σ' H' => ∃ R kp lo qs H1, σ' = [some (.ref a), some (.ref R), some (.ref kp), some (.ref lo), none, none, none, none] ∧ Ex H H1 ∧ H1 kp = none ∧ H1 lo = none ∧ kp ≠ lo ∧ Ex H1 H' ∧ H1 R = some (.lst ((qs : List Addr).map V.ref)) ∧ qs.length = ns.length + 1 ∧ (∀ (i : Nat) q, qs[i]? = some q → H1 q = some (.lst ((tr ns i).map V.int))) ∧ H' kp = some (.lst []) ∧ H' lo = some (.lst [])) (fun N hN => ?_) (fun σ1 H2 hC => ?_)
    · walk_at "sx"
      refine ⟨by decide, fun z nz1 => ⟨by decide, fun L0 nL => ⟨by decide, fun z2 nz2 => ?_⟩⟩⟩
      have ez := Ex.new nz1 (o := .lst [])
      have eL := Ex.new nL (o := .lst [V.ref z])
      have e2 := Ex.new nz2 (o := .lst [])
      have hz0 := upd_same (H := H) (a := z) (o := .lst [])
      have hL0 := upd_same (H := upd H z (.lst [])) (a := L0) (o := .lst [V.ref z])
      have E3 := (ez.trans eL).trans e2
      refine ⟨z2, a, ns, rfl, upd_same, ex_l E3 hA, hl, hp, fun f rs H4 nf e4 hf lr hrs => ?_⟩
      have hz4 := e4 _ _ (e2 _ _ (eL _ _ hz0))
      refine catL (e4 _ _ (e2 _ _ hL0)) hf (sz_ok (by rw [List.length_map, List.length_singleton]; omega)) fun R nR => ?_
      have eR := Ex.new nR (o := .lst ([V.ref z] ++ rs.map V.ref))
      refine ⟨by decide, fun kp nk => ⟨by decide, fun lo nl => ⟨by decide, fun T nT => ?_⟩⟩⟩
      have ek := Ex.new nk (o := .lst [])
      have el := Ex.new nl (o := .lst [])
      have eT := Ex.new nT (o := .tup [V.ref R, V.ref kp, V.ref lo])
      refine g_thr upd_same ?_
      refine hN _ _ ⟨R, kp, lo, z :: rs, _, rfl, (E3.trans e4).trans eR, nk, fresh_back ek nl, ne_of_none upd_same nl, (ek.trans el).trans eT, upd_same, by rw [List.length_cons, lr], fun i q hq => ?_, eT _ _ (el _ _ upd_same), eT _ _ upd_same⟩
      cases i with
      | zero =>
        cases Option.some.inj hq
        exact eR _ _ hz4
      | succ i => exact eR _ _ (hrs i q hq)
    obtain ⟨R, kp, lo, qs, H1, rfl, e1, nkp, nlo, nkl, e2, hR, lq, hq, hkp, hlo⟩ := hC
    walk_at "sx"
    refine ⟨_, ex_l (e1.trans e2) hA, ?_⟩
    refine lg_enum (xs := ns.map V.int) (JDu H H1 a R kp lo ns) ⟨none, none, none, none, [], [], [], rfl, e2, hkp, ⟨rfl, fun x u j h => by simp at h⟩, hlo, ⟨rfl, rfl, List.nodup_nil, fun r m => absurd m List.not_mem_nil, fun x u r j h => by simp at h⟩, List.not_mem_nil⟩ (fun i σ' H' _ hP => ?_) (fun i v σ' H' T' hv hP nT => ?_) (fun σ' H' hP => ?_)
    · obtain ⟨_, _, _, _, _, _, _, _, e, _⟩ := hP
      exact ex_l (e1.trans e) hA
    · obtain ⟨l4, l5, l6, l7, ts, us, rs, rfl, e, hk, hts, hlo, hus, nkr⟩ := hP
      obtain ⟨p, hpn, rfl⟩ := ints_at hv
      have hi := (List.getElem?_eq_some_iff.mp hpn).1
      have eT := Ex.new nT (o := .tup [V.int (i : Nat), V.int p])
      refine g_two upd_same ?_
      simp only [List.set_cons_zero, List.set_cons_succ]
      have hk := eT _ _ hk
      have hlo := eT _ _ hlo
      have hts := hts.ex eT
      have hus := hus.ex eT
      have e := e.trans eT
      generalize (upd H' T' (.tup [V.int (i : Nat), V.int p])) = HT at hk hlo hts hus e ⊢
      have hpg := pg_at hpn
      have hnew : isNew ns i = decide (p ∉ tr ns i) := new_at hpn
      have hRT := e _ _ hR
      have at_ : ∀ j, j ≤ ns.length → ∃ q, (qs.map V.ref)[j]? = some (.ref q) ∧ HT q = some (.lst ((tr ns j).map V.int)) := fun j hj => by
        have h1 : qs[j]? = some qs[j] := List.getElem?_eq_getElem (by omega)
        exact ⟨qs[j], by rw [List.getElem?_map, h1]; rfl, e _ _ (hq j _ h1)⟩
      obtain ⟨q0, hq0, h0⟩ := at_ i (by omega)
      obtain ⟨q1, hq1, h1⟩ := at_ (i + 1) (by omega)
      have gl := gr_len ns i
      have cl := ctn_len ns i
      have htl := hts.1
      have hul := hus.1
      walk_at "sx"
      refine ixL (.inl (.inl hRT)) (atI_n (j := i) rfl hq0) ?_
      refine inL (.inl (.inl h0)) ?_
      by_cases m : p ∈ tr ns i
      · have hnf : isNew ns i = false := by rw [hnew]; exact decide_eq_false (not_not_intro m)
        rw [decide_eq_true m]
        walk_at "sx"
        have hix := List.idxOf_lt_length_of_mem m
        have hto := tr_old hi hnf
        rw [hpg] at hto
        have hcv : cutV ((tr ns i).map V.int) (some ((((tr ns (i + 1)).map V.int).length : Nat) : Int)) none = cutV2 ns i := by
          rw [hto, List.length_map, List.length_take, Nat.min_eq_left (by omega), cut_from (by rw [List.length_map]; omega)]
          unfold cutV2 cutl
          rw [hpg, List.map_drop]
        refine ⟨tyL hlo, ixL (.inl (.inl hRT)) (atI_n (j := i) rfl hq0) (ixL (.inl (.inl hRT)) (atI_n (j := i + 1) (by omega) hq1) ?_)⟩
        refine lenL (.inl (.inl h1)) ?_
        refine ⟨_, rfl, slL (.inl (.inl h0)) fun z nz1 => ?_⟩
        rw [hcv]
        have ez := Ex.new nz1 (o := .lst (cutV2 ns i))
        have hz : (upd HT z (.lst (cutV2 ns i))) z = some (.lst (cutV2 ns i)) := upd_same
        have nzl : z ≠ lo := (ne_of_none hlo nz1).symm
        have nzk : kp ≠ z := ne_of_none hk nz1
        have nzr := hus.notin nz1
        have nzH := fresh_back (e1.trans e) nz1
        have hk := ez _ _ hk
        have hlo := ez _ _ hlo
        have hts := hts.ex ez
        have hus := hus.ex ez
        have e := e.trans ez
        generalize (upd HT z (.lst (cutV2 ns i))) = HZ at hz hk hlo hts hus e ⊢
        refine ⟨by decide, fun u nu => ?_⟩
        have eu := Ex.new nu (o := .tup [V.int (i : Nat), V.ref z])
        refine appL (eu _ _ hlo) (BC.sz_lt (by rw [List.length_map]; omega)) ?_
        have hus3 := (hus.ex eu).snoc (u := u) (i := i) nzl nzH nzr upd_same (eu _ _ hz)
        rw [show us.map V.ref ++ [V.ref u] = (us ++ [u]).map V.ref by rw [List.map_append]; rfl]
        refine ⟨_, _, _, _, ts, us ++ [u], rs ++ [z], rfl, (e.trans eu).mut nlo, by rw [upd_ne nkl]; exact eu _ _ hk, ?_, upd_same, ?_, fun mm => ?_⟩
        · rw [gr_no hnf]
          exact (hts.ex eu).mut (eu _ _ hlo)
        · rw [ctn_yes hnf]
          exact hus3.mut (eu _ _ hlo)
        · rcases List.mem_append.mp mm with mm | mm
          · exact nkr mm
          · exact nzk (List.mem_singleton.mp mm)
      · have hnt : isNew ns i = true := by rw [hnew]; exact decide_eq_true m
        rw [decide_eq_false m]
        walk_at "sx"
        refine lenL (ex_l (e1.trans e) hA) ?_
        rw [List.length_map]
        refine ⟨_, _, ⟨rfl, rfl⟩, ⟨by omega, by omega, by omega, by omega⟩, fun D nD => ?_⟩
        rw [show (((ns.length : Nat) : Int) - ((i : Int) + 1)).toNat = ns.length - (i + 1) by omega]
        have hRD : R ≠ D := ne_of_none hRT nD
        refine lc_rngT (PvL HT D ns i) ⟨Ex.new nD, upd_same⟩ (fun u H5 hu hP => ?_) (fun H5 hP => ?_)
        · obtain ⟨e5, hD⟩ := hP
          refine ⟨rfl, ?_⟩
          simp only [wipe, List.set_cons_zero, List.set_cons_succ]
          obtain ⟨q2, hq2, h2⟩ := at_ (i + 1 + u + 1) (by omega)
          walk_at "sx"
          refine ixL (.inl (.inl (e5 _ _ hRT))) (atI_n (j := i + 1 + u + 1) (by omega) hq2) ?_
          refine ninL (.inl (.inl (e5 _ _ h2))) ?_
          refine ⟨_, rfl, ?_⟩
          have fl := List.length_filter_le (fun k => decide (pg ns i ∉ tr ns (i + 1 + k + 1))) (List.range u)
          rw [List.length_range] at fl
          by_cases c : p ∈ tr ns (i + 1 + u + 1)
          · rw [decide_eq_true c, if_neg (by decide)]
            refine ⟨e5, ?_⟩
            rw [List.range_succ, List.filter_append, List.filter_cons_of_neg (by rw [hpg]; simpa using c), List.filter_nil, List.append_nil]
            exact hD
          · rw [decide_eq_false c, if_pos (by decide)]
            refine ⟨_, hD, BC.sz_lt (by rw [List.length_map, nz_len, List.length_map]; omega), e5.mut nD, ?_⟩
            rw [List.range_succ, List.filter_append, List.filter_cons_of_pos (by rw [hpg]; simpa using c), List.filter_nil, List.map_append, upd_same, show (i : Int) + 1 + (u : Int) = ((i + 1 + u : Nat) : Int) by omega, nz_v]
            rfl
        · obtain ⟨e5, hD⟩ := hP
          have hD : H5 D = some (.lst ((nz (later ns i)).map V.int)) := hD
          have hv : ((nz (later ns i)).map V.int ++ [V.non])[0]? = some (oV (endOf ns ns.length i)) := by
            rw [← later_end ns hi]
            cases later ns i <;> rfl
          have ll : (later ns i).length ≤ 301 := by
            unfold later
            rw [List.length_map]
            have := List.length_filter_le (fun k => decide (pg ns i ∉ tr ns (i + 1 + k + 1))) (List.range (ns.length - (i + 1)))
            rw [List.length_range] at this
            omega
          have hk := e5 _ _ hk
          refine ⟨tyL hk, by decide, fun w nw => ?_⟩
          have ew := Ex.new nw (o := .lst [V.non])
          refine catL (ew _ _ hD) upd_same (sz_ok (by rw [List.length_map, nz_len, List.length_singleton]; omega)) fun y ny => ?_
          have ey := Ex.new ny (o := .lst ((nz (later ns i)).map V.int ++ [V.non]))
          refine ixL (.inl (.inl upd_same)) (atI_n (j := 0) rfl hv) ?_
          refine ⟨by decide, fun u nu => ?_⟩
          have eu := Ex.new nu (o := .tup [V.int (i : Nat), V.int p, oV (endOf ns ns.length i)])
          have E5 := e5.trans (ew.trans (ey.trans eu))
          have hk5 := (ew.trans (ey.trans eu)) _ _ hk
          refine appL hk5 (BC.sz_lt (by rw [List.length_map]; omega)) ?_
          have hts3 := (hts.ex E5).snoc (u := u) (i := i) (by rw [upd_same, hpg])
          rw [show ts.map V.ref ++ [V.ref u] = (ts ++ [u]).map V.ref by rw [List.map_append]; rfl]
          refine ⟨_, _, _, _, ts ++ [u], us, rs, rfl, (e.trans E5).mut nkp, upd_same, ?_, by rw [upd_ne nkl.symm]; exact E5 _ _ hlo, ?_, nkr⟩
          · rw [gr_yes hnt]
            exact hts3.mut hk5
          · rw [ctn_no hnt]
            exact (hus.ex E5).mut2 nkr hk5
    · obtain ⟨l4, l5, l6, l7, ts, us, rs, rfl, e, hk, hts, hlo, hus, nkr⟩ := hP
      walk_at "sx"
      rw [List.length_map] at hts hus
      refine ⟨by decide, fun r nr => ?_⟩
      have er := Ex.new nr (o := .lst [V.ref kp, V.ref lo])
      exact k r kp lo ts us rs _ (fresh_back (e1.trans e) nr) ((e1.trans e).trans er) upd_same (er _ _ hk) (hts.ex er) (er _ _ hlo) (hus.ex er)
end
end LW

set_option Elab.async false
set_option linter.all false
set_option maxRecDepth 100000
set_option maxHeartbeats 4000000
namespace LW
open PySem PySem.Spec PyProof.Rows L2 BC Evl TR
local macro_rules | `(tactic| walk_at "sx") => `(tactic| try simp only [x_dcT, x_dc, x_updT, x_iitemsT, x_dispT1, x_valsT, x_lockT, SL.x_yfor, SL.x_yplain, SL.x_ythen, SL.x_y0, SL.x_yyield, SL.x_ywhile, SL.x_callY, SL.x_callYK, x_gwhile, x_callG, x_g0, x_gfor, x_gplain, x_gthen, x_gyield, x_listG, x_dnewT, x_dget, x_dget2, x_dput, x_seq, x_next, x_brk, x_cnt, x_nev, x_ret, x_retN, x_drop, x_ifS, x_asg, x_gn, x_gsub, x_par, x_par3, x_aug, x_for, x_lc, x_rng1, x_rng2, x_rng3, x_ilist, x_itup, x_ienum, x_izip, x_izipA, x_istr, x_var, x_c, x_op, x_un, x_test, x_b, x_chain, x_and, x_or, x_not, x_andV, x_orV, x_notV, x_ife, x_nil, x_cons, x_lst, x_tup, x_cb, x_call, x_callK, x_bm, x_bm0, x_tru, x_sl, x_nopart, x_part, x_revL, x_I0, x_I, x_U, x_ip, x_ipC, x_eqI, x_neI, x_eqB, x_neB, x_eqS, x_neS, x_isB, x_isNB, x_lrg, x_gall, x_lenSet, x_augS, x_sortSet, x_rg1, x_rg2,
  L2.start, List.map_cons, List.map_nil, List.length_cons, List.length_nil, Nat.reduceAdd, Nat.reduceSub, Nat.sub_self, Nat.zero_add, List.replicate, List.replicate_succ, List.replicate_zero, List.append_nil, List.cons_append, List.nil_append, List.set_cons_zero, List.set_cons_succ, List.getElem?_cons_zero, List.getElem?_cons_succ, Option.some.injEq, V.int.injEq, V.bl.injEq, V.ref.injEq, V.str.injEq, List.cons.injEq, and_true, true_and, exists_eq_left', exists_eq_left, exists_and_left, exists_eq, if_true, if_false, ite_true, ite_false, Bool.true_eq_false, Bool.false_eq_true, reduceIte, reduceCtorEq, Bool.not_true, Bool.not_false, decide_true, decide_false, decide_eq_true_eq, Bool.and_true, Bool.true_and, Bool.and_self, Bool.and_false, Bool.false_and, Bool.or_self, Bool.or_false, Bool.false_or, Bool.or_true, Bool.true_or, eq_self])
section
open ST
variable {P : Program} {w : World} {K : PySem.W.Frag} {mg : Str → Option Value} {base : Heap}
theorem dpAll_of {H : Hp} : ∀ {ts : List Addr} {ds : List PyData}, ts.length = ds.length → (∀ (i : Nat) t d, ts[i]? = some t → ds[i]? = some d → Dp K H (.ref t) d) → DpAll K H (ts.map V.ref) ds
  | [], [], _, _ => .nil
  | [], _ :: _, h, _ => by cases h
  | _ :: _, [], h, _ => by cases h
  | t :: ts, d :: ds, h, g => .cons (g 0 t d rfl rfl) (dpAll_of (by simpa using h) fun i t d a b => g (i + 1) t d a b)
theorem dp_oV {H : Hp} (o : Option Nat) : Dp K H (oV o) (oD o) := by
  cases o with
  | none => exact .non
  | some k => exact .int _
theorem dp_stays {H : Hp} {ns : List Int} {kp : Addr} {ts : List Addr} (hk : H kp = some (.lst (ts.map V.ref))) (h : StA H ns ts (gr ns ns.length) (endOf ns ns.length)) : Dp K H (.ref kp) (dStays ns) := by
  refine .lst (.inl (.inl hk)) (dpAll_of (by rw [List.length_map]; exact h.1) fun i t d a b => ?_)
  rw [List.getElem?_map] at b
  cases c : (gr ns ns.length)[i]? with
  | none => rw [c] at b; cases b
  | some j =>
    rw [c] at b
    cases b
    exact .tup (.inl (.inl (h.2 i t j a c))) (.cons (.int _) (.cons (.int _) (.cons (dp_oV _) .nil)))
theorem dp_cuts {H0 H : Hp} {ns : List Int} {lo : Addr} {us rs : List Addr} (hl : H lo = some (.lst (us.map V.ref))) (h : CtN H0 H lo us rs (ctn ns ns.length) (cutV2 ns)) : Dp K H (.ref lo) (dCuts ns) := by
  have h1 := h.1
  have h2 := h.2.1
  refine .lst (.inl (.inl hl)) (dpAll_of (by rw [List.length_map]; exact h.1) fun i t d a b => ?_)
  have hi := (List.getElem?_eq_some_iff.mp a).1
  rw [List.getElem?_map] at b
  cases c : (ctn ns ns.length)[i]? with
  | none => rw [c] at b; cases b
  | some j =>
    rw [c] at b
    cases b
    obtain ⟨x1, x2⟩ := h.2.2.2.2 i t rs[i] j a (List.getElem?_eq_getElem (by omega)) c
    exact .tup (.inl (.inl x1)) (.cons (.int _) (.cons (.lst (.inl (.inl x2)) (dp_ints _)) .nil))
theorem repr_all {H0 H : Hp} {Q : VK} {ns : List Int} {r kp lo : Addr} {ts us rs : List Addr} (hp : Pg 40 ns) (hn : ns.length ≤ 301) (hr : H r = some (.lst [.ref kp, .ref lo])) (hk : H kp = some (.lst (ts.map V.ref))) (h : StA H ns ts (gr ns ns.length) (endOf ns ns.length)) (hl : H lo = some (.lst (us.map V.ref))) (g : CtN H0 H lo us rs (ctn ns ns.length) (cutV2 ns)) (q : Q (.str (dAll ns).shown) H) : rRepr K [.ref r] H Q := by
  obtain ⟨t1, t2, t3⟩ := tm_all hp hn
  exact reprX (.lst (.inl (.inl hr)) (.cons (dp_stays hk h) (.cons (dp_cuts hl g) .nil))) t1 t2 t3 q
theorem reprLn {H : Hp} {Q : VK} {a : Addr} {ns : List Int} (hp : Pg 40 ns) (hn : ns.length ≤ 301) (hA : SqL K H a (ns.map V.int)) (q : Q (.str (PyData.list (ns.map PyData.int)).shown) H) : rRepr K [.ref a] H Q := by
  have sm : ∀ x ∈ ns, x.natAbs < 10 ^ 12 := fun x hx => by have := hp x hx; omega
  have dd := dep_all (ds := ns.map PyData.int) (n := 0) fun d m => by
    obtain ⟨x, _, rfl⟩ := List.mem_map.mp m
    simp [PyData.depth]
  have ww := wt_ints sm
  exact reprX (.lst hA (dp_ints _)) (tm_ints sm) (by simp only [PyData.depth]; omega) (by omega) q
theorem CtN.lower {H1 H0 H : Hp} {f : Addr} {ts rs : List Addr} {gs : List Nat} {C : Nat → List V} (h : CtN H0 H f ts rs gs C) (e : Ex H1 H0) : CtN H1 H f ts rs gs C := ⟨h.1, h.2.1, h.2.2.1, fun r m => ⟨(h.2.2.2.1 r m).1, fresh_back e (h.2.2.2.1 r m).2⟩, h.2.2.2.2⟩
theorem CtN.put {H0 H : Hp} {f r : Addr} {i j : Nat} {ys : List V} {ts rs : List Addr} {gs : List Nat} {C : Nat → List V} (h : CtN H0 H f ts rs gs C) (nd : gs.Nodup) (hx : rs[i]? = some r) (hj : gs[i]? = some j) : CtN H0 (upd H r (.lst ys)) f ts rs gs (fun l => if l = j then ys else C l) := by
  obtain ⟨h1, h2, h3, h4, h5⟩ := h
  have hi := (List.getElem?_eq_some_iff.mp hx).1
  have hr : H r = some (.lst (C j)) := (h5 i ts[i] r j (List.getElem?_eq_getElem (by omega)) hx hj).2
  refine ⟨h1, h2, h3, h4, fun x u q l a b c => ?_⟩
  obtain ⟨y1, y2⟩ := h5 x u q l a b c
  refine ⟨by rw [upd_ne (ne_of y1 hr (by intro z; cases z))]; exact y1, ?_⟩
  by_cases e : x = i
  · subst e
    rw [hx] at b
    rw [hj] at c
    cases b
    cases c
    show _ = some (HO.lst (if j = j then ys else C j))
    rw [upd_same, if_pos rfl]
  · have nq : q ≠ r := fun z => by
      subst z
      exact e ((List.getElem?_inj (by rw [List.getElem?_eq_some_iff] at b; exact b.1) h3).mp (b.trans hx.symm))
    have nl : l ≠ j := fun z => by
      subst z
      exact e ((List.getElem?_inj (by rw [List.getElem?_eq_some_iff] at c; exact c.1) nd).mp (c.trans hj.symm))
    show _ = some (HO.lst (if l = j then ys else C l))
    rw [upd_ne nq, if_neg nl]
    exact y2
theorem ctn_nodup (ns : List Int) (i : Nat) : (ctn ns i).Nodup := List.nodup_range.filter _
def Cx (ns : List Int) (gs : List Nat) (i j : Nat) : List V := if j ∈ gs.take i then cutV2 ns j ++ [V.int (j : Nat)] else cutV2 ns j
def JRw (H1 : Hp) (a p r q1 q2 : Addr) (b : Str) (ns : List Int) (us rs : List Addr) (i : Nat) (σ' : L2.St) (H' : Hp) : Prop := ∃ l4 l5, σ' = [some (.ref a), some (.ref p), some (.str b), some (.ref r), l4, l5] ∧ Ex H1 H' ∧ H' p = some (.lst [.ref q1, .ref q2]) ∧ H' q2 = some (.lst (us.map V.ref)) ∧ CtN H1 H' q2 us rs (ctn ns ns.length) (Cx ns (ctn ns ns.length) i)
def PvG (H5 : Hp) (D : Addr) (gs : List Nat) (i : Nat) (H' : Hp) : Prop := Ex H5 H' ∧ H' D = some (.lst ((nz (gs.take i)).map V.int))
def spRight (K : PySem.W.Frag) : Sp := fun vs H Q _ => ∃ (a : Addr) (ns : List Int), vs = [.ref a] ∧ SqL K H a (ns.map V.int) ∧ ns.length ≤ 300 ∧ Pg 40 ns ∧ ∀ H', Ex H H' → Q (.bl true) H'
theorem ok_law_right (T : Txt K mg) : FnG P w K mg base CX0 6 T.f_law_right T.fd_law_right ["_law_line_here"] (spRight K) := by
  refine fun_okN T.F_law_right sc_law_right (fun vs H Q E h => ?_) (fun cdv A outer s H vs Q E hG hr h => ?_)
  · obtain ⟨a, ns, rfl, _⟩ := h
    rfl
  · obtain ⟨a, ns, rfl, hA, hl, hp, k⟩ := h
    apply Exists.intro
    apply And.intro
    · apply pss_cons
      · exact (ps_par (i := 2) (j := 3) (by rfl) sc_law_right.nd rfl rfl (by decide) rfl rfl (pa_cons (pe_callB (k_repr (K := K) rfl hG hr.units) (by rfl) T.n_repr (by decide +kernel) (pa_cons (pv 0) pa_nil)) (pa_cons (pe_call (ok_law_due T) (hr.mono (by decide)) (by rfl) T.m_law_due T.F_law_due.kp T.b_law_due .nil pass0 (pa_cons (pv 0) pa_nil)) pa_nil)) (by rfl))
      apply pss_cons
      · exact (ps_set (i := 1) sc_law_right.nd rfl (.inl rfl) (pe_lst (pa_cons (pe_call (ok_stays T) (hr.mono (by decide)) (by rfl) T.m_stays T.F_stays.kp T.b_stays .nil pass0 (pa_cons (pv 0) pa_nil)) (pa_cons (pe_call (ok_cuts T) (hr.mono (by decide)) (by rfl) T.m_cuts T.F_cuts.kp T.b_cuts .nil pass0 (pa_cons (pv 0) pa_nil)) pa_nil))))
      apply pss_cons
      · apply ps_if
        · exact (PW.pt (pw_or (pt_cmpR op_ne (pe_callB (k_repr (K := K) rfl hG hr.units) (by rfl) T.n_repr (by decide +kernel) (pa_cons (pv 1) pa_nil)) (pe_callB (k_repr (K := K) rfl hG hr.units) (by rfl) T.n_repr (by decide +kernel) (pa_cons (pv 3) pa_nil)) (by rfl)) (pw_or1 (pt_cmpR op_ne (pe_callB (k_repr (K := K) rfl hG hr.units) (by rfl) T.n_repr (by decide +kernel) (pa_cons (pe_lst (pa_cons (pe_callK0 (ok_stays T) (hr.mono (by decide)) (by rfl) T.m_stays T.F_stays.kp T.k_stays_0_0 pass0 (pk_cons (pv 0) pk_nil)) (pa_cons (pe_callK0 (ok_cuts T) (hr.mono (by decide)) (by rfl) T.m_cuts T.F_cuts.kp T.k_cuts_0_0 pass0 (pk_cons (pv 0) pk_nil)) pa_nil))) pa_nil)) (pe_callB (k_repr (K := K) rfl hG hr.units) (by rfl) T.n_repr (by decide +kernel) (pa_cons (pv 3) pa_nil)) (by rfl)))))
        · apply pss_one
          exact (ps_ret pe_bl)
        · exact pss_nil
      apply pss_cons
      · exact (ps_expr (k_bm (K := K) rfl (pe_bm PySem.F.plainAttrs_list PySem.F.slot_list_append PySem.F.type_list_append mt_append (pe_ix (k_ix_list (K := K) rfl) (pv 1) pe_int (fun _ _ => rfl)) (pa_cons pe_non pa_nil))))
      apply pss_cons
      · apply ps_for PassesOwn.never rfl
        · exact (k_pi_list (K := K) rfl (pe_ix (k_ix_list (K := K) rfl) (pv 1) pe_int (fun _ _ => rfl)))
        · exact (k_tup (K := K) (n := 2) rfl rfl (pgs_cons (pg_name (i := 4) sc_law_right.nd rfl (.inl rfl)) (pgs_cons (pg_name (i := 5) sc_law_right.nd rfl (.inl rfl)) pgs_nil)))
        · apply pss_one
          exact (ps_expr (k_bm (K := K) rfl (pe_bm PySem.F.plainAttrs_list PySem.F.slot_list_append PySem.F.type_list_append mt_append (pv 5) (pa_cons (pv 4) pa_nil))))
      apply pss_cons
      · apply ps_if
        · exact (pt_cmpR (k_neD (K := K) rfl hr.units) (pe_lc (own := [("_law_at", 4), ("_law_row", 5)]) rfl sc_law_right.nd (k_pi_list (K := K) rfl (pe_ix (k_ix_list (K := K) rfl) (pv 1) pe_int (fun _ _ => rfl))) (blkOk_by (own := [("_law_at", 4), ("_law_row", 5)]) (N := ["_law_line_here", "_law_told", "_law_before", "_law_due_here", "_law_at", "_law_row"]) (sc := defScope s_law_right) (by decide +kernel)) (fun _ _ _ _ _ => by exact (k_tup (K := K) (n := 2) rfl rfl (pgs_cons (pg_name (i := 4) sc_law_right.nd rfl (.inl rfl)) (pgs_cons (pg_name (i := 5) sc_law_right.nd rfl (.inl rfl)) pgs_nil)))) (fun _ _ _ _ _ => by exact pts_nil) (fun _ _ _ _ _ => by exact (pe_ix (k_ix_list (K := K) rfl) (pv 5) (pe_un un_neg pe_int) (fun _ _ => rfl)))) (pe_lc (own := [("_law_at", 4), ("_law_row", 5)]) rfl sc_law_right.nd (k_pi_list (K := K) rfl (pe_ix (k_ix_list (K := K) rfl) (pv 3) pe_int (fun _ _ => rfl))) (blkOk_by (own := [("_law_at", 4), ("_law_row", 5)]) (N := ["_law_line_here", "_law_told", "_law_before", "_law_due_here", "_law_at", "_law_row"]) (sc := defScope s_law_right) (by decide +kernel)) (fun _ _ _ _ _ => by exact (k_tup (K := K) (n := 2) rfl rfl (pgs_cons (pg_name (i := 4) sc_law_right.nd rfl (.inl rfl)) (pgs_cons (pg_name (i := 5) sc_law_right.nd rfl (.inl rfl)) pgs_nil)))) (fun _ _ _ _ _ => by exact pts_nil) (fun _ _ _ _ _ => by exact (pv 4))) (by rfl))
        · apply pss_one
          exact (ps_ret pe_bl)
        · exact pss_nil
      apply pss_one
      exact (ps_ret (pe_and (pe_cmpR op_eq (pe_callB (k_repr (K := K) rfl hG hr.units) (by rfl) T.n_repr (by decide +kernel) (pa_cons (pe_lst (pa_cons (pe_call (ok_stays T) (hr.mono (by decide)) (by rfl) T.m_stays T.F_stays.kp T.b_stays .nil pass0 (pa_cons (pv 0) pa_nil)) (pa_cons (pe_call (ok_cuts T) (hr.mono (by decide)) (by rfl) T.m_cuts T.F_cuts.kp T.b_cuts .nil pass0 (pa_cons (pv 0) pa_nil)) pa_nil))) pa_nil)) (pe_callB (k_repr (K := K) rfl hG hr.units) (by rfl) T.n_repr (by decide +kernel) (pa_cons (pv 3) pa_nil)) (by rfl)) (pe_one (pe_cmpR op_eq (pe_callB (k_repr (K := K) rfl hG hr.units) (by rfl) T.n_repr (by decide +kernel) (pa_cons (pv 0) pa_nil)) (pv 2) (by rfl)))))
    refine seq_cut (fun σ' H' => ∃ r kp lo ts us rs, σ' = [some (.ref a), none, some (.str (PyData.list (ns.map PyData.int)).shown), some (.ref r), none, none] ∧ Ex H H' ∧ H' r = some (.lst [.ref kp, .ref lo]) ∧ H' kp = some (.lst (ts.map V.ref)) ∧ StA H' ns ts (gr ns ns.length) (endOf ns ns.length) ∧ H' lo = some (.lst (us.map V.ref)) ∧ CtN H H' lo us rs (ctn ns ns.length) (cutV2 ns)) (fun N hN => ?_) (fun σ1 H1 hC => ?_)
    · walk_at "sx"
      refine reprLn hp (by omega) hA ?_
      refine ⟨a, ns, rfl, hA, by omega, hp, fun r kp lo ts us rs H1 nr e1 hr hk hts hlo hus => ?_⟩
      exact ⟨_, _, ⟨rfl, rfl⟩, hN _ _ ⟨r, kp, lo, ts, us, rs, rfl, e1, hr, hk, hts, hlo, hus⟩⟩
    obtain ⟨r, kp, lo, ts, us, rs, rfl, e1, hr, hk, hts, hlo, hus⟩ := hC
    have neS : ∀ {x : Str} {H : Hp} {R : VK}, R (.bl false) H → rNe (.str x) (.str x) H R := fun {x H R} q => ⟨rfl, by rw [decide_eq_true rfl]; exact q⟩
    have due_ : ∀ {H' : Hp} {R : VK}, Ex H1 H' → R (.str (dAll ns).shown) H' → rRepr K [.ref r] H' R := fun {H' R} e q => repr_all hp (by omega) (e _ _ hr) (e _ _ hk) (hts.ex e) (e _ _ hlo) (hus.ex e) q
    have hA1 := ex_l e1 hA
    refine seq_asg (fun v H' => ∃ p q1 q2 ts2 us2 rs2, v = .ref p ∧ Ex H1 H' ∧ H1 q1 = none ∧ q1 ∉ rs2 ∧ p ∉ rs2 ∧ p ≠ q1 ∧ q2 ≠ q1 ∧ H1 p = none ∧ H' p = some (.lst [.ref q1, .ref q2]) ∧ H' q1 = some (.lst ((ts2 : List Addr).map V.ref)) ∧ StA H' ns ts2 (gr ns ns.length) (endOf ns ns.length) ∧ H' q2 = some (.lst ((us2 : List Addr).map V.ref)) ∧ CtN H1 H' q2 us2 rs2 (ctn ns ns.length) (cutV2 ns)) (fun R hR => ?_) (fun v H2 hC => ?_)
    · walk_at "sx"
      refine ⟨a, ns, rfl, hA1, hl, hp, fun q1 ts2 H2 n1 e2 h1 hs2 => ?_⟩
      refine ⟨a, ns, rfl, ex_l e2 hA1, hl, hp, fun q2 us2 rs2 H3 n2 e3 h2 hc2 => ?_⟩
      refine ⟨by decide, fun p np => ?_⟩
      have ep := Ex.new np (o := .lst [V.ref q1, V.ref q2])
      have nq1 : q1 ∉ rs2 := fun m => by
        have := (hc2.2.2.2.1 q1 m).2
        rw [h1] at this
        cases this
      exact hR _ _ ⟨p, q1, q2, ts2, us2, rs2, rfl, (e2.trans e3).trans ep, n1, (fun m => nq1 m), hc2.notin np, (ne_of_none (e3 _ _ h1) np).symm, (ne_of_none h1 n2).symm, fresh_back (e2.trans e3) np, upd_same, ep _ _ (e3 _ _ h1), hs2.ex (e3.trans ep), ep _ _ h2, (hc2.lower e2).ex ep⟩
    obtain ⟨p, q1, q2, ts2, us2, rs2, rfl, e2, n1, nq1, npr, npq, nqq, np, hp2, hq1, hs2, hq2, hc2⟩ := hC
    simp only [List.set_cons_zero, List.set_cons_succ]
    refine seq_cut (fun σ' H' => σ' = [some (.ref a), some (.ref p), some (.str (PyData.list (ns.map PyData.int)).shown), some (.ref r), none, none] ∧ Ex H2 H') (fun N hN => ?_) (fun σ3 H3 hC => ?_)
    · walk_at "sx"
      refine repr_all hp (by omega) hp2 hq1 hs2 hq2 hc2 ?_
      refine due_ e2 (neS ⟨_, rfl, ?_⟩)
      rw [if_neg (by decide)]
      refine ⟨a, ns, rfl, ex_l e2 hA1, hl, hp, fun x1 ys H4 m1 e4 h1 s1 => ?_⟩
      refine ⟨a, ns, rfl, ex_l (e2.trans e4) hA1, hl, hp, fun x2 us3 rs3 H5 m2 e5 h2 c2 => ?_⟩
      refine ⟨by decide, fun y ny => ?_⟩
      have ey := Ex.new ny (o := .lst [V.ref x1, V.ref x2])
      refine repr_all hp (by omega) upd_same (ey _ _ (e5 _ _ h1)) (s1.ex (e5.trans ey)) (ey _ _ h2) (c2.ex ey) ?_
      refine due_ (e2.trans (e4.trans (e5.trans ey))) (neS ⟨_, rfl, ?_⟩)
      rw [if_neg (by decide)]
      exact hN _ _ ⟨rfl, e4.trans (e5.trans ey)⟩
    obtain ⟨rfl, e3⟩ := hC
    have e13 := e2.trans e3
    have gn := ctn_nodup ns ns.length
    have gl := ctn_len ns ns.length
    refine seq_cut (fun σ' H' => σ' = [some (.ref a), some (.ref p), some (.str (PyData.list (ns.map PyData.int)).shown), some (.ref r), none, none] ∧ Ex H1 H' ∧ H' p = some (.lst [.ref q1, .ref q2]) ∧ H' q2 = some (.lst (us2.map V.ref)) ∧ CtN H1 H' q2 us2 rs2 (ctn ns ns.length) (cutV2 ns)) (fun N hN => ?_) (fun σ4 H4 hC => ?_)
    · walk_at "sx"
      have gl2 := gr_len ns ns.length
      have tl2 := hs2.1
      refine ixL (.inl (.inl (e3 _ _ hp2))) (atI_n (j := 0) rfl rfl) ?_
      refine ⟨tyL (e3 _ _ hq1), appL (e3 _ _ hq1) (BC.sz_lt (by rw [List.length_map]; omega)) ?_⟩
      exact hN _ _ ⟨rfl, e13.mut n1, by rw [upd_ne npq]; exact e3 _ _ hp2, by rw [upd_ne nqq]; exact e3 _ _ hq2, (hc2.ex e3).mut2 nq1 (e3 _ _ hq1)⟩
    obtain ⟨rfl, e4, hp4, hq4, hc4⟩ := hC
    refine seq_cut (fun σ' H' => JRw H1 a p r q1 q2 (PyData.list (ns.map PyData.int)).shown ns us2 rs2 us2.length σ' H') (fun N hN => ?_) (fun σ5 H5 hC => ?_)
    · walk_at "sx"
      refine ixL (.inl (.inl hp4)) (atI_n (j := 1) rfl rfl) ?_
      refine ⟨q2, rfl, ⟨_, .inl (.inl hq4)⟩, ?_⟩
      refine lg_list (xs := us2.map V.ref) (JRw H1 a p r q1 q2 (PyData.list (ns.map PyData.int)).shown ns us2 rs2) ⟨none, none, rfl, e4, hp4, hq4, ?_⟩ (fun i σ' H' _ hP => by obtain ⟨_, _, _, _, _, h, _⟩ := hP; exact .inl (.inl h)) (fun i x σ' H' hx hP => ?_) (fun σ' H' hP => ?_)
      · have : Cx ns (ctn ns ns.length) 0 = cutV2 ns := by
          funext j
          unfold Cx
          rw [List.take_zero, if_neg List.not_mem_nil]
        rw [this]
        exact hc4
      · obtain ⟨l4, l5, rfl, e, hpp, hqq, hc⟩ := hP
        rw [List.getElem?_map] at hx
        obtain ⟨u, hu, rfl⟩ : ∃ q, us2[i]? = some q ∧ x = .ref q := by
          cases y : us2[i]? with
          | none => rw [y] at hx; cases hx
          | some q => rw [y] at hx; cases hx; exact ⟨q, rfl, rfl⟩
        have hi := (List.getElem?_eq_some_iff.mp hu).1
        have l1 := hc.1
        have l2 := hc.2.1
        obtain ⟨w, hw⟩ : ∃ w, rs2[i]? = some w := ⟨_, List.getElem?_eq_getElem (by omega)⟩
        obtain ⟨j, hj⟩ : ∃ j, (ctn ns ns.length)[i]? = some j := ⟨_, List.getElem?_eq_getElem (by omega)⟩
        obtain ⟨y1, y2⟩ := hc.2.2.2.2 i u w j hu hw hj
        have hwm := List.mem_of_getElem? hw
        obtain ⟨nwq, nw1⟩ := hc.2.2.2.1 w hwm
        have nj : j ∉ (ctn ns ns.length).take i := fun m => by
          obtain ⟨x, hx⟩ := List.getElem?_of_mem m
          have hx1 := (List.getElem?_eq_some_iff.mp hx).1
          rw [List.length_take] at hx1
          rw [List.getElem?_take_of_lt (by omega)] at hx
          have := (List.getElem?_inj (by omega) gn).mp (hx.trans hj.symm)
          omega
        have cl := cutl_le hp j
        have cj : Cx ns (ctn ns ns.length) i j = cutV2 ns j := by unfold Cx; rw [if_neg nj]
        rw [cj] at y2
        refine g_two y1 ?_
        simp only [List.set_cons_zero, List.set_cons_succ]
        walk_at "sx"
        refine ⟨tyL y2, appL y2 (BC.sz_lt (by unfold cutV2; rw [List.length_map]; omega)) ?_⟩
        refine ⟨_, _, rfl, e.mut nw1, by rw [upd_ne (fun z : p = w => npr (by rw [z]; exact hwm))]; exact hpp, by rw [upd_ne nwq.symm]; exact hqq, ?_⟩
        have := hc.put (ys := cutV2 ns j ++ [V.int (j : Nat)]) gn hw hj
        have ec : (fun l => if l = j then cutV2 ns j ++ [V.int (j : Nat)] else Cx ns (ctn ns ns.length) i l) = Cx ns (ctn ns ns.length) (i + 1) := by
          funext l
          unfold Cx
          rw [List.take_add_one, hj, Option.toList_some]
          by_cases c : l = j
          · subst c
            rw [if_pos rfl, if_pos (List.mem_append_right _ (List.mem_singleton.mpr rfl))]
          · rw [if_neg c]
            by_cases d : l ∈ (ctn ns ns.length).take i
            · rw [if_pos d, if_pos (List.mem_append_left _ d)]
            · rw [if_neg d, if_neg fun z => (List.mem_append.mp z).elim d fun z => c (List.mem_singleton.mp z)]
        rw [ec] at this
        exact this
      · rw [List.length_map] at hP
        exact hN _ _ hP
    obtain ⟨l4, l5, rfl, e5, hp5, hq5, hc5⟩ := hC
    refine seq_cut (fun σ' H' => σ' = [some (.ref a), some (.ref p), some (.str (PyData.list (ns.map PyData.int)).shown), some (.ref r), l4, l5] ∧ Ex H5 H') (fun N hN => ?_) (fun σ6 H6 hC => ?_)
    · walk_at "sx"
      have l51 := hc5.1
      have l52 := hc5.2.1
      have l53 := hus.1
      have l54 := hus.2.1
      have e15 := e5
      refine ixL (.inl (.inl hp5)) (atI_n (j := 1) rfl rfl) ?_
      refine ⟨q2, rfl, ⟨_, .inl (.inl hq5)⟩, fun D nD => ?_⟩
      refine lc_listE (xs := us2.map V.ref) (PvG H5 D (ctn ns ns.length)) ⟨Ex.new nD, upd_same⟩ (fun i H' _ hP => .inl (.inl (hP.1 _ _ hq5))) (fun i x H' hx hP => ?_) (fun H' hP => ?_)
      · obtain ⟨eP, hD⟩ := hP
        rw [List.getElem?_map] at hx
        obtain ⟨u, hu, rfl⟩ : ∃ q, us2[i]? = some q ∧ x = .ref q := by
          cases y : us2[i]? with
          | none => rw [y] at hx; cases hx
          | some q => rw [y] at hx; cases hx; exact ⟨q, rfl, rfl⟩
        have hi := (List.getElem?_eq_some_iff.mp hu).1
        obtain ⟨w, hw⟩ : ∃ w, rs2[i]? = some w := ⟨_, List.getElem?_eq_getElem (by omega)⟩
        obtain ⟨j, hj⟩ : ∃ j, (ctn ns ns.length)[i]? = some j := ⟨_, List.getElem?_eq_getElem (by omega)⟩
        obtain ⟨y1, y2⟩ := hc5.2.2.2.2 i u w j hu hw hj
        have cj : Cx ns (ctn ns ns.length) us2.length j = cutV2 ns j ++ [V.int (j : Nat)] := by
          unfold Cx
          rw [List.take_of_length_le (by omega), if_pos (List.mem_of_getElem? hj)]
        rw [cj] at y2
        refine g_two (eP _ _ y1) ?_
        refine ⟨rfl, ?_⟩
        simp only [wipe, List.set_cons_zero, List.set_cons_succ]
        walk_at "sx"
        refine ixL (.inl (.inl (eP _ _ y2))) (atI_last (v := V.int (j : Nat)) (by rw [List.length_append, List.length_singleton, Nat.add_sub_cancel, List.getElem?_append_right (Nat.le_refl _), Nat.sub_self]; rfl)) ?_
        refine ⟨_, hD, BC.sz_lt (by rw [List.length_map, nz_len, List.length_take]; omega), eP.mut nD, ?_⟩
        rw [List.take_add_one, hj, upd_same, nz_v]
        rfl
      · obtain ⟨eP, hD⟩ := hP
        rw [List.length_map, List.take_of_length_le (by omega)] at hD
        have eh := e5.trans eP
        refine ixL (.inl (.inl (eh _ _ hr))) (atI_n (j := 1) rfl rfl) ?_
        refine ⟨lo, rfl, ⟨_, .inl (.inl (eh _ _ hlo))⟩, fun D2 nD2 => ?_⟩
        refine lc_listE (xs := us.map V.ref) (PvG H' D2 (ctn ns ns.length)) ⟨Ex.new nD2, upd_same⟩ (fun i H6 _ hP => .inl (.inl (hP.1 _ _ (eh _ _ hlo)))) (fun i x H6 hx hP => ?_) (fun H6 hP => ?_)
        · obtain ⟨eQ, hD2⟩ := hP
          rw [List.getElem?_map] at hx
          obtain ⟨u, hu, rfl⟩ : ∃ q, us[i]? = some q ∧ x = .ref q := by
            cases y : us[i]? with
            | none => rw [y] at hx; cases hx
            | some q => rw [y] at hx; cases hx; exact ⟨q, rfl, rfl⟩
          have hi := (List.getElem?_eq_some_iff.mp hu).1
          obtain ⟨w, hw⟩ : ∃ w, rs[i]? = some w := ⟨_, List.getElem?_eq_getElem (by omega)⟩
          obtain ⟨j, hj⟩ : ∃ j, (ctn ns ns.length)[i]? = some j := ⟨_, List.getElem?_eq_getElem (by omega)⟩
          obtain ⟨y1, y2⟩ := hus.2.2.2.2 i u w j hu hw hj
          refine g_two (eQ _ _ (eh _ _ y1)) ?_
          refine ⟨rfl, ?_⟩
          simp only [wipe, List.set_cons_zero, List.set_cons_succ]
          walk_at "sx"
          refine ⟨_, hD2, BC.sz_lt (by rw [List.length_map, nz_len, List.length_take]; omega), eQ.mut nD2, ?_⟩
          rw [List.take_add_one, hj, upd_same, nz_v]
          rfl
        · obtain ⟨eQ, hD2⟩ := hP
          rw [List.length_map, List.take_of_length_le (by omega)] at hD2
          refine neInts (.inl (.inl (eQ _ _ hD))) (.inl (.inl hD2)) ⟨_, rfl, ?_⟩
          rw [decide_eq_true rfl, if_neg (by decide)]
          exact hN _ _ ⟨rfl, eP.trans eQ⟩
    obtain ⟨rfl, e6⟩ := hC
    walk_at "sx"
    have e16 := e5.trans e6
    refine ⟨a, ns, rfl, ex_l e16 hA1, hl, hp, fun x1 ys H7 m1 e7 h1 s1 => ?_⟩
    refine ⟨a, ns, rfl, ex_l (e16.trans e7) hA1, hl, hp, fun x2 us3 rs3 H8 m2 e8 h2 c2 => ?_⟩
    refine ⟨by decide, fun y ny => ?_⟩
    have ey := Ex.new ny (o := .lst [V.ref x1, V.ref x2])
    refine repr_all hp (by omega) upd_same (ey _ _ (e8 _ _ h1)) (s1.ex (e8.trans ey)) (ey _ _ h2) (c2.ex ey) ?_
    have eF := e16.trans (e7.trans (e8.trans ey))
    have eqS : ∀ {x : Str} {H : Hp} {R : VK}, R (.bl true) H → rEq (.str x) (.str x) H R := fun {x H R} q => ⟨rfl, by rw [decide_eq_true rfl]; exact q⟩
    refine due_ eF (eqS ⟨_, rfl, ?_⟩)
    rw [if_pos rfl]
    refine reprLn hp (by omega) (ex_l eF hA1) (eqS ?_)
    exact k _ (e1.trans eF)
end
end LW

set_option Elab.async false
set_option linter.all false
set_option maxRecDepth 100000
set_option maxHeartbeats 4000000
namespace LW
open PySem PySem.Spec PyProof.Rows L2 BC Evl TR
local macro_rules | `(tactic| walk_at "sx") => `(tactic| try simp only [x_dcT, x_dc, x_updT, x_iitemsT, x_dispT1, x_valsT, x_lockT, SL.x_yfor, SL.x_yplain, SL.x_ythen, SL.x_y0, SL.x_yyield, SL.x_ywhile, SL.x_callY, SL.x_callYK, x_gwhile, x_callG, x_g0, x_gfor, x_gplain, x_gthen, x_gyield, x_listG, x_dnewT, x_dget, x_dget2, x_dput, x_seq, x_next, x_brk, x_cnt, x_nev, x_ret, x_retN, x_drop, x_ifS, x_asg, x_gn, x_gsub, x_par, x_par3, x_aug, x_for, x_lc, x_rng1, x_rng2, x_rng3, x_ilist, x_itup, x_ienum, x_izip, x_izipA, x_istr, x_var, x_c, x_op, x_un, x_test, x_b, x_chain, x_and, x_or, x_not, x_andV, x_orV, x_notV, x_ife, x_nil, x_cons, x_lst, x_tup, x_cb, x_call, x_callK, x_bm, x_bm0, x_tru, x_sl, x_nopart, x_part, x_revL, x_I0, x_I, x_U, x_ip, x_ipC, x_eqI, x_neI, x_eqB, x_neB, x_eqS, x_neS, x_isB, x_isNB, x_lrg, x_gall, x_lenSet, x_augS, x_sortSet, x_rg1, x_rg2,
  L2.start, List.map_cons, List.map_nil, List.length_cons, List.length_nil, Nat.reduceAdd, Nat.reduceSub, Nat.sub_self, Nat.zero_add, List.replicate, List.replicate_succ, List.replicate_zero, List.append_nil, List.cons_append, List.nil_append, List.set_cons_zero, List.set_cons_succ, List.getElem?_cons_zero, List.getElem?_cons_succ, Option.some.injEq, V.int.injEq, V.bl.injEq, V.ref.injEq, V.str.injEq, List.cons.injEq, and_true, true_and, exists_eq_left', exists_eq_left, exists_and_left, exists_eq, if_true, if_false, ite_true, ite_false, Bool.true_eq_false, Bool.false_eq_true, reduceIte, reduceCtorEq, Bool.not_true, Bool.not_false, decide_true, decide_false, decide_eq_true_eq, Bool.and_true, Bool.true_and, Bool.and_self, Bool.and_false, Bool.false_and, Bool.or_self, Bool.or_false, Bool.false_or, Bool.or_true, Bool.true_or, eq_self])
section
open ST
variable {P : Program} {w : World} {K : PySem.W.Frag} {mg : Str → Option Value} {base : Heap}
def spLaw (K : PySem.W.Frag) : Sp := fun vs H Q _ => ∃ (a : Addr) (ns : List Int), vs = [.ref a] ∧ SqL K H a (ns.map V.int) ∧ ns.length ≤ 63 ∧ ∀ H', Q (.bl true) H'
def JO (H1 : Hp) (a : Addr) (i : Nat) (σ' : L2.St) (H' : Hp) : Prop := ∃ l1 l2 l3, σ' = [some (.ref a), l1, l2, l3] ∧ Ex H1 H'
theorem ok_law (T : Txt K mg) : FnG P w K mg base CX0 7 T.f_law T.fd_law ["_law_script"] (spLaw K) := by
  refine fun_okN T.F_law sc_law (fun vs H Q E h => ?_) (fun cdv A outer s H vs Q E hG hr h => ?_)
  · obtain ⟨a, ns, rfl, _⟩ := h
    rfl
  · obtain ⟨a, ns, rfl, hA, hn, k⟩ := h
    apply Exists.intro
    apply And.intro
    · apply pss_cons
      · apply ps_for PassesOwn.never rfl
        · exact (pi_range1 (by rfl) T.n_range (pa_cons (pe_callB (call_max2 rfl) (by rfl) T.n_max (by decide +kernel) (pa_cons pe_int (pa_cons (pe_callB (call_min2 rfl) (by rfl) T.n_min (by decide +kernel) (pa_cons pe_int (pa_cons (pe_callB (k_len (K := K) rfl) (by rfl) T.n_len PySem.boot_len (pa_cons (pv 0) pa_nil)) pa_nil))) pa_nil))) pa_nil))
        · exact (pg_name (i := 1) sc_law.nd rfl (.inl rfl))
        · apply pss_cons
          · exact (ps_set (i := 2) sc_law.nd rfl (.inl rfl) (pe_call (ok_law_pool T) (hr.mono (by decide)) (by rfl) T.m_law_pool T.F_law_pool.kp T.b_law_pool .nil pass0 (pa_cons (pv 0) (pa_cons (pv 1) pa_nil))))
          apply pss_cons
          · exact (ps_set (i := 3) sc_law.nd rfl (.inl rfl) (pe_call (ok_law_line T) (hr.mono (by decide)) (by rfl) T.m_law_line T.F_law_line.kp T.b_law_line .nil pass0 (pa_cons (pv 2) (pa_cons (pv 0) pa_nil))))
          apply pss_cons
          · apply ps_if
            · exact (pt_not (pt_val (pe_callG (ok_law_right T) hG (hr.mono (by decide)) (by rfl) T.m_law_right T.F_law_right.kp T.b_law_right .nil pass0 (pa_cons (pv 3) pa_nil))))
            · apply pss_one
              exact (ps_ret pe_bl)
            · exact pss_nil
          apply pss_cons
          · exact (ps_expr (k_bm0 (K := K) rfl (pe_bm0 PySem.F.plainAttrs_list PySem.F.slot_list_reverse PySem.F.type_list_reverse mt_reverse (pv 3))))
          apply pss_cons
          · apply ps_if
            · exact (pt_not (pt_val (pe_callG (ok_law_right T) hG (hr.mono (by decide)) (by rfl) T.m_law_right T.F_law_right.kp T.b_law_right .nil pass0 (pa_cons (pv 3) pa_nil))))
            · apply pss_one
              exact (ps_ret pe_bl)
            · exact pss_nil
          apply pss_cons
          · apply ps_if
            · exact (pt_cmpR op_lt (pe_callB (k_len (K := K) rfl) (by rfl) T.n_len PySem.boot_len (pa_cons (pv 3) pa_nil)) pe_int (by rfl))
            · apply pss_one
              exact (ps_expr (k_bm (K := K) rfl (pe_bm PySem.F.plainAttrs_list PySem.F.slot_list_insert PySem.F.type_list_insert mt_insert (pv 3) (pa_cons (pe_call (ok_law_draw T) (hr.mono (by decide)) (by rfl) T.m_law_draw T.F_law_draw.kp T.b_law_draw .nil pass0 (pa_cons (pv 2) (pa_cons (pe_op op_add (pe_callB (k_len (K := K) rfl) (by rfl) T.n_len PySem.boot_len (pa_cons (pv 3) pa_nil)) pe_int) pa_nil))) (pa_cons (pe_ix (k_ix_list (K := K) rfl) (pv 3) pe_int (fun _ _ => rfl)) pa_nil)))))
            · exact pss_nil
          apply pss_one
          apply ps_if
          · exact (PW.pt (pw_or (pt_not (pt_val (pe_callG (ok_law_right T) hG (hr.mono (by decide)) (by rfl) T.m_law_right T.F_law_right.kp T.b_law_right .nil pass0 (pa_cons (pv 3) pa_nil)))) (pw_or1 (pt_not (pt_val (pe_callG (ok_law_right T) hG (hr.mono (by decide)) (by rfl) T.m_law_right T.F_law_right.kp T.b_law_right .nil pass0 (pa_cons (pe_lst pa_nil) pa_nil)))))))
          · apply pss_one
            exact (ps_ret pe_bl)
          · exact pss_nil
      apply pss_one
      exact (ps_ret pe_bl)
    walk_at "sx"
    refine lenL hA ?_
    rw [List.length_map]
    refine ⟨_, _, ⟨rfl, rfl⟩, _, _, ⟨rfl, rfl⟩, ?_⟩
    obtain ⟨tn, ht, ht8⟩ : ∃ tn : Nat, (if (if ((ns.length : Nat) : Int) < 6 then ((ns.length : Nat) : Int) else 6) > 1 then (if ((ns.length : Nat) : Int) < 6 then ((ns.length : Nat) : Int) else 6) else 1) = (tn : Int) ∧ tn ≤ 6 := by
      refine ⟨(if (if ((ns.length : Nat) : Int) < 6 then ((ns.length : Nat) : Int) else 6) > 1 then (if ((ns.length : Nat) : Int) < 6 then ((ns.length : Nat) : Int) else 6) else 1).toNat, ?_, ?_⟩
      · rw [Int.toNat_of_nonneg]
        split <;> split <;> omega
      · split <;> split <;> omega
    rw [ht]
    refine ⟨by omega, by omega, ?_⟩
    rw [Int.toNat_natCast]
    refine lg_rng (JO H a) ⟨none, none, none, rfl, Ex.refl H⟩ (fun i σ' H' hi hP => ?_) (fun σ' H' hP => ?_)
    · obtain ⟨l1, l2, l3, rfl, e⟩ := hP
      simp only [x_gn, List.set_cons_zero, List.set_cons_succ]
      refine seq_asg (fun v H2 => ∃ b, v = .ref b ∧ H' b = none ∧ Ex H' H2 ∧ BagAt H2 b 0) (fun R hR => ?_) (fun v H2 hC => ?_)
      · walk_at "sx"
        refine ⟨a, ns, i, by rw [Int.zero_add], ex_l e hA, hn, by omega, fun b H2 nb e2 hb => ?_⟩
        exact hR _ _ ⟨b, rfl, nb, e2, hb⟩
      obtain ⟨b, rfl, nb, e2, hb⟩ := hC
      have nbH : H b = none := fresh_back e nb
      simp only [List.set_cons_zero, List.set_cons_succ]
      refine seq_asg (fun v H3 => ∃ r L, v = .ref r ∧ H' r = none ∧ r ≠ b ∧ Fx b H2 H3 ∧ BagAt H3 b 1000 ∧ H3 r = some (.lst ((L : List Int).map V.int)) ∧ Pg 40 L ∧ 1 ≤ L.length ∧ L.length ≤ 300) (fun R hR => ?_) (fun v H3 hC => ?_)
      · walk_at "sx"
        exact ⟨b, a, ns, 0, rfl, ⟨H', nb, Fx.of e2, ex_l e hA⟩, hb, by omega, fun r L H3 nr f3 b3 hr pg l1 l2 => hR _ _ ⟨r, L, rfl, fresh_back e2 nr, hb.apart nr, f3, by simpa using b3, hr, pg, l1, l2⟩⟩
      obtain ⟨r, L, rfl, nr, nrb, f3, b3, hr, pg, l1, l300⟩ := hC
      have nrH : H r = none := fresh_back e nr
      have f03 : Fx b H H3 := (Fx.of (e.trans e2)).trans f3
      simp only [List.set_cons_zero, List.set_cons_succ]
      have pgR : ∀ {M M' : List Int}, (∀ x ∈ M', x ∈ M) → Pg 40 M → Pg 40 M' := fun h g x hx => g x (h x hx)
      have fin : ∀ (H5 : Hp) (M : List Int), H5 r = some (.lst (M.map V.int)) → Pg 40 M → M.length ≤ 300 → Fx b H H5 →
          spRight K [V.ref r] H5 (fun x H' => ∃ k, x = V.bl k ∧ if (!k) = true then Q (V.bl false) H' else 0 ≤ sizeLine ∧ ∀ (p : Addr), H' p = none → spRight K [V.ref p] (upd H' p (HO.lst []))
            (fun x H' => ∃ k, x = V.bl k ∧ if (!k) = true then Q (V.bl false) H' else JO H a (i + 1) [some (V.ref a), some (V.int (0 + (i : Int))), some (V.ref b), some (V.ref r)] H') E0) E0 := fun H5 M hM pM lM f5 => by
        refine ⟨r, M, rfl, .inl (.inl hM), lM, pM, fun H6 e6 => ⟨_, rfl, ?_⟩⟩
        rw [if_neg (by decide)]
        refine ⟨by decide, fun p np => ?_⟩
        refine ⟨p, [], rfl, .inl (.inl upd_same), by simp, fun x hx => absurd hx List.not_mem_nil, fun H7 e7 => ⟨_, rfl, ?_⟩⟩
        rw [if_neg (by decide)]
        exact ⟨_, _, _, rfl, (f5.trans (Fx.of (e6.trans ((Ex.new np).trans e7)))).ex nbH⟩
      walk_at "sx"
      refine ⟨r, L, rfl, .inl (.inl hr), l300, pg, fun H4 e4 => ⟨_, rfl, ?_⟩⟩
      rw [if_neg (by decide)]
      have hr4 := e4 _ _ hr
      refine ⟨tyL hr4, r, _, rfl, rfl, hr4, ?_⟩
      have hr5 : (upd H4 r (.lst (L.map V.int).reverse)) r = some (.lst (L.reverse.map V.int)) := by rw [upd_same, List.map_reverse]
      have f5 : Fx b H (upd H4 r (.lst (L.map V.int).reverse)) := (f03.trans (Fx.of e4)).mut nrH
      have b5 := (b3.ex e4).off nrb (o := .lst (L.map V.int).reverse)
      generalize (upd H4 r (.lst (L.map V.int).reverse)) = H5 at hr5 f5 b5 ⊢
      have pg5 : Pg 40 L.reverse := pgR (fun x hx => List.mem_reverse.mp hx) pg
      have l5 : L.reverse.length = L.length := List.length_reverse
      generalize L.reverse = M at hr5 pg5 l5
      refine ⟨r, M, rfl, .inl (.inl hr5), by omega, pg5, fun H6 e6 => ⟨_, rfl, ?_⟩⟩
      rw [if_neg (by decide)]
      have hr6 := e6 _ _ hr5
      have f6 := f5.trans (Fx.of e6)
      refine lenL (.inl (.inl hr6)) ?_
      rw [List.length_map]
      walk_at "sx"
      by_cases c : ((M.length : Nat) : Int) < 300
      · rw [if_pos c]
        refine ⟨tyL hr6, lenL (.inl (.inl hr6)) ?_⟩
        rw [List.length_map]
        walk_at "sx"
        refine ⟨b, _, _, rfl, by omega, big_of (by omega), b5.ex e6, by omega, fun j H7 j0 j1 f7 b7 => ?_⟩
        have hr7 := f7 _ _ nrb hr6
        obtain ⟨x, hx⟩ : ∃ x, M[0]? = some x := ⟨_, List.getElem?_eq_getElem (by omega)⟩
        refine ixL (.inl (.inl hr7)) (atI_n (j := 0) rfl (at_ints hx)) ?_
        refine ⟨_, j, _, ⟨rfl, rfl⟩, hr7, BC.sz_lt (by rw [List.length_map]; omega), j0, by omega, ?_⟩
        refine fin _ (M.take j.toNat ++ [x] ++ M.drop j.toNat) (by rw [upd_same, List.map_append, List.map_append, List.map_take, List.map_drop]; rfl) (pgR (fun y hy => ?_) pg5) ?_ ((f6.trans f7).mut nrH)
        · rcases List.mem_append.mp hy with hy | hy
          · rcases List.mem_append.mp hy with hy | hy
            · exact List.mem_of_mem_take hy
            · rw [List.mem_singleton.mp hy]; exact List.mem_of_getElem? hx
          · exact List.mem_of_mem_drop hy
        · rw [List.length_append, List.length_append, List.length_take, List.length_drop, List.length_singleton]; omega
      · rw [if_neg c]
        exact fin _ M hr6 pg5 (by omega) f6
    · obtain ⟨l1, l2, l3, rfl, e⟩ := hP
      walk_at "sx"
      exact k _
end
end LW

set_option Elab.async false
set_option linter.all false
set_option maxRecDepth 100000
set_option maxHeartbeats 4000000
namespace LW
open PySem PySem.Spec PyProof.Rows L2 BC Evl TR
theorem all_mk {l : PySem.W.OpenLaw} {w : World} {K : PySem.W.Frag} {h : Heap} {mg : Str → Option Value} {fa : Addr} (X : K.In h) (G : h.Ns mainGlobals mg) (hfa : mg "law" = some (.ref fa))
    {f0 : Addr} {od0 an0 : Option Addr} {sl0 : Array (Option Value)} {oc0 kV0 dc0 pm0 cd0 ct0 : Value}
    {f1 : Addr} {od1 an1 : Option Addr} {sl1 : Array (Option Value)} {oc1 kV1 dc1 pm1 cd1 ct1 : Value}
    {f2 : Addr} {od2 an2 : Option Addr} {sl2 : Array (Option Value)} {oc2 kV2 dc2 pm2 cd2 ct2 : Value}
    {f3 : Addr} {od3 an3 : Option Addr} {sl3 : Array (Option Value)} {oc3 kV3 dc3 pm3 cd3 ct3 : Value}
    {f4 : Addr} {od4 an4 : Option Addr} {sl4 : Array (Option Value)} {oc4 kV4 dc4 pm4 cd4 ct4 : Value}
    {f5 : Addr} {od5 an5 : Option Addr} {sl5 : Array (Option Value)} {oc5 kV5 dc5 pm5 cd5 ct5 : Value}
    {f6 : Addr} {od6 an6 : Option Addr} {sl6 : Array (Option Value)} {oc6 kV6 dc6 pm6 cd6 ct6 : Value}
    {f7 : Addr} {od7 an7 : Option Addr} {sl7 : Array (Option Value)} {oc7 kV7 dc7 pm7 cd7 ct7 : Value}
    {f8 : Addr} {od8 an8 : Option Addr} {sl8 : Array (Option Value)} {oc8 kV8 dc8 pm8 cd8 ct8 : Value}
    {f9 : Addr} {od9 an9 : Option Addr} {sl9 : Array (Option Value)} {oc9 kV9 dc9 pm9 cd9 ct9 : Value}
    {f10 : Addr} {od10 an10 : Option Addr} {sl10 : Array (Option Value)} {oc10 kV10 dc10 pm10 cd10 ct10 : Value}
    {f11 : Addr} {od11 an11 : Option Addr} {sl11 : Array (Option Value)} {oc11 kV11 dc11 pm11 cd11 ct11 : Value}
    {f12 : Addr} {od12 an12 : Option Addr} {sl12 : Array (Option Value)} {oc12 kV12 dc12 pm12 cd12 ct12 : Value}
    {f13 : Addr} {od13 an13 : Option Addr} {sl13 : Array (Option Value)} {oc13 kV13 dc13 pm13 cd13 ct13 : Value}
    {f14 : Addr} {od14 an14 : Option Addr} {sl14 : Array (Option Value)} {oc14 kV14 dc14 pm14 cd14 ct14 : Value}
    {tt_MOST_PAGE : Tok}
    {tt_MOST_VISITS : Tok}
    (a0 : PySem.W.nsIn K mainGlobals "is_integer" = some (some (.ref f0))) (l0 : K.lookup f0 = some ⟨oc0, od0, .func (PySem.W.fnOf "is_integer" "is_integer" (defArgs s_is_integer) (defBody s_is_integer) (defScope s_is_integer) .none kV0 dc0 pm0 an0 cd0 ct0), sl0⟩) (c0 : PySem.W.codeIn K cd0 "is_integer" = true) (k0 : PySem.W.keepIn K (.ref f0) = true)
    (a1 : PySem.W.nsIn K mainGlobals "is_page" = some (some (.ref f1))) (l1 : K.lookup f1 = some ⟨oc1, od1, .func (PySem.W.fnOf "is_page" "is_page" (defArgs s_is_page) (defBody s_is_page) (defScope s_is_page) .none kV1 dc1 pm1 an1 cd1 ct1), sl1⟩) (c1 : PySem.W.codeIn K cd1 "is_page" = true) (k1 : PySem.W.keepIn K (.ref f1) = true)
    (a2 : PySem.W.nsIn K mainGlobals "is_visits" = some (some (.ref f2))) (l2 : K.lookup f2 = some ⟨oc2, od2, .func (PySem.W.fnOf "is_visits" "is_visits" (defArgs s_is_visits) (defBody s_is_visits) (defScope s_is_visits) .none kV2 dc2 pm2 an2 cd2 ct2), sl2⟩) (c2 : PySem.W.codeIn K cd2 "is_visits" = true) (k2 : PySem.W.keepIn K (.ref f2) = true)
    (a3 : PySem.W.nsIn K mainGlobals "check_visits" = some (some (.ref f3))) (l3 : K.lookup f3 = some ⟨oc3, od3, .func (PySem.W.fnOf "check_visits" "check_visits" (defArgs s_check_visits) (defBody s_check_visits) (defScope s_check_visits) .none kV3 dc3 pm3 an3 cd3 ct3), sl3⟩) (c3 : PySem.W.codeIn K cd3 "check_visits" = true) (k3 : PySem.W.keepIn K (.ref f3) = true)
    (a4 : PySem.W.nsIn K mainGlobals "visited" = some (some (.ref f4))) (l4 : K.lookup f4 = some ⟨oc4, od4, .func (PySem.W.fnOf "visited" "visited" (defArgs s_visited) (defBody s_visited) (defScope s_visited) .none kV4 dc4 pm4 an4 cd4 ct4), sl4⟩) (c4 : PySem.W.codeIn K cd4 "visited" = true) (k4 : PySem.W.keepIn K (.ref f4) = true)
    (a5 : PySem.W.nsIn K mainGlobals "stays" = some (some (.ref f5))) (l5 : K.lookup f5 = some ⟨oc5, od5, .func (PySem.W.fnOf "stays" "stays" (defArgs s_stays) (defBody s_stays) (defScope s_stays) .none kV5 dc5 pm5 an5 cd5 ct5), sl5⟩) (c5 : PySem.W.codeIn K cd5 "stays" = true) (k5 : PySem.W.keepIn K (.ref f5) = true)
    (a6 : PySem.W.nsIn K mainGlobals "cuts" = some (some (.ref f6))) (l6 : K.lookup f6 = some ⟨oc6, od6, .func (PySem.W.fnOf "cuts" "cuts" (defArgs s_cuts) (defBody s_cuts) (defScope s_cuts) .none kV6 dc6 pm6 an6 cd6 ct6), sl6⟩) (c6 : PySem.W.codeIn K cd6 "cuts" = true) (k6 : PySem.W.keepIn K (.ref f6) = true)
    (a7 : PySem.W.nsIn K mainGlobals "_law_pool" = some (some (.ref f7))) (l7 : K.lookup f7 = some ⟨oc7, od7, .func (PySem.W.fnOf "_law_pool" "_law_pool" (defArgs s_law_pool) (defBody s_law_pool) (defScope s_law_pool) .none kV7 dc7 pm7 an7 cd7 ct7), sl7⟩) (c7 : PySem.W.codeIn K cd7 "_law_pool" = true) (k7 : PySem.W.keepIn K (.ref f7) = true)
    (a8 : PySem.W.nsIn K mainGlobals "_law_draw" = some (some (.ref f8))) (l8 : K.lookup f8 = some ⟨oc8, od8, .func (PySem.W.fnOf "_law_draw" "_law_draw" (defArgs s_law_draw) (defBody s_law_draw) (defScope s_law_draw) .none kV8 dc8 pm8 an8 cd8 ct8), sl8⟩) (c8 : PySem.W.codeIn K cd8 "_law_draw" = true) (k8 : PySem.W.keepIn K (.ref f8) = true)
    (a9 : PySem.W.nsIn K mainGlobals "_law_line" = some (some (.ref f9))) (l9 : K.lookup f9 = some ⟨oc9, od9, .func (PySem.W.fnOf "_law_line" "_law_line" (defArgs s_law_line) (defBody s_law_line) (defScope s_law_line) .none kV9 dc9 pm9 an9 cd9 ct9), sl9⟩) (c9 : PySem.W.codeIn K cd9 "_law_line" = true) (k9 : PySem.W.keepIn K (.ref f9) = true)
    (a10 : PySem.W.nsIn K mainGlobals "_law_after" = some (some (.ref f10))) (l10 : K.lookup f10 = some ⟨oc10, od10, .func (PySem.W.fnOf "_law_after" "_law_after" (defArgs s_law_after) (defBody s_law_after) (defScope s_law_after) .none kV10 dc10 pm10 an10 cd10 ct10), sl10⟩) (c10 : PySem.W.codeIn K cd10 "_law_after" = true) (k10 : PySem.W.keepIn K (.ref f10) = true)
    (a11 : PySem.W.nsIn K mainGlobals "_law_trails" = some (some (.ref f11))) (l11 : K.lookup f11 = some ⟨oc11, od11, .func (PySem.W.fnOf "_law_trails" "_law_trails" (defArgs s_law_trails) (defBody s_law_trails) (defScope s_law_trails) .none kV11 dc11 pm11 an11 cd11 ct11), sl11⟩) (c11 : PySem.W.codeIn K cd11 "_law_trails" = true) (k11 : PySem.W.keepIn K (.ref f11) = true)
    (a12 : PySem.W.nsIn K mainGlobals "_law_due" = some (some (.ref f12))) (l12 : K.lookup f12 = some ⟨oc12, od12, .func (PySem.W.fnOf "_law_due" "_law_due" (defArgs s_law_due) (defBody s_law_due) (defScope s_law_due) .none kV12 dc12 pm12 an12 cd12 ct12), sl12⟩) (c12 : PySem.W.codeIn K cd12 "_law_due" = true) (k12 : PySem.W.keepIn K (.ref f12) = true)
    (a13 : PySem.W.nsIn K mainGlobals "_law_right" = some (some (.ref f13))) (l13 : K.lookup f13 = some ⟨oc13, od13, .func (PySem.W.fnOf "_law_right" "_law_right" (defArgs s_law_right) (defBody s_law_right) (defScope s_law_right) .none kV13 dc13 pm13 an13 cd13 ct13), sl13⟩) (c13 : PySem.W.codeIn K cd13 "_law_right" = true) (k13 : PySem.W.keepIn K (.ref f13) = true)
    (a14 : PySem.W.nsIn K mainGlobals "law" = some (some (.ref f14))) (l14 : K.lookup f14 = some ⟨oc14, od14, .func (PySem.W.fnOf "law" "law" (defArgs s_law) (defBody s_law) (defScope s_law) .none kV14 dc14 pm14 an14 cd14 ct14), sl14⟩) (c14 : PySem.W.codeIn K cd14 "law" = true) (k14 : PySem.W.keepIn K (.ref f14) = true)
    (q_MOST_PAGE : PySem.W.nsIn K mainGlobals "MOST_PAGE" = some (some (.int 39 tt_MOST_PAGE)))
    (q_MOST_VISITS : PySem.W.nsIn K mainGlobals "MOST_VISITS" = some (some (.int 300 tt_MOST_VISITS)))
    (z_all : PySem.W.nsIn K mainGlobals "all" = some none)
    (z_bool : PySem.W.nsIn K mainGlobals "bool" = some none)
    (z_enumerate : PySem.W.nsIn K mainGlobals "enumerate" = some none)
    (z_int : PySem.W.nsIn K mainGlobals "int" = some none)
    (z_isinstance : PySem.W.nsIn K mainGlobals "isinstance" = some none)
    (z_len : PySem.W.nsIn K mainGlobals "len" = some none)
    (z_list : PySem.W.nsIn K mainGlobals "list" = some none)
    (z_max : PySem.W.nsIn K mainGlobals "max" = some none)
    (z_min : PySem.W.nsIn K mainGlobals "min" = some none)
    (z_range : PySem.W.nsIn K mainGlobals "range" = some none)
    (z_repr : PySem.W.nsIn K mainGlobals "repr" = some none) :
    ∃ fd : FuncData, (∀ (s : Shared) (v : Value), BindsTo s fd ⟨[v], []⟩ [("_law_script", v)]) ∧ ∀ base : Heap, K.In base → base.Ns mainGlobals mg → FnG l.prog w K mg base CX0 7 fa fd ["_law_script"] (spLaw K) := by
  have e := hfa.symm.trans (PySem.W.mg_of X G a14)
  cases e
  let T : Txt K mg := ⟨f0, _, fun_mk (st := s_is_integer) l0 c0 k0, PySem.W.mg_of X G a0, (fun_mk (st := s_is_integer) l0 c0 k0).binds fun _ _ _ _ _ _ us hl => match us, hl with | [_, _, _], _ => rfl,
    f1, _, fun_mk (st := s_is_page) l1 c1 k1, PySem.W.mg_of X G a1, (fun_mk (st := s_is_page) l1 c1 k1).binds fun _ _ _ _ _ _ us hl => match us, hl with | [_], _ => rfl,
    f2, _, fun_mk (st := s_is_visits) l2 c2 k2, PySem.W.mg_of X G a2, (fun_mk (st := s_is_visits) l2 c2 k2).binds fun _ _ _ _ _ _ us hl => match us, hl with | [_], _ => rfl,
    f3, _, fun_mk (st := s_check_visits) l3 c3 k3, PySem.W.mg_of X G a3, (fun_mk (st := s_check_visits) l3 c3 k3).binds fun _ _ _ _ _ _ us hl => match us, hl with | [_], _ => rfl,
    f4, _, fun_mk (st := s_visited) l4 c4 k4, PySem.W.mg_of X G a4, (fun_mk (st := s_visited) l4 c4 k4).binds fun _ _ _ _ _ _ us hl => match us, hl with | [_, _], _ => rfl,
    f5, _, fun_mk (st := s_stays) l5 c5 k5, PySem.W.mg_of X G a5, (fun_mk (st := s_stays) l5 c5 k5).binds fun _ _ _ _ _ _ us hl => match us, hl with | [_], _ => rfl,
    f6, _, fun_mk (st := s_cuts) l6 c6 k6, PySem.W.mg_of X G a6, (fun_mk (st := s_cuts) l6 c6 k6).binds fun _ _ _ _ _ _ us hl => match us, hl with | [_], _ => rfl,
    f7, _, fun_mk (st := s_law_pool) l7 c7 k7, PySem.W.mg_of X G a7, (fun_mk (st := s_law_pool) l7 c7 k7).binds fun _ _ _ _ _ _ us hl => match us, hl with | [_, _], _ => rfl,
    f8, _, fun_mk (st := s_law_draw) l8 c8 k8, PySem.W.mg_of X G a8, (fun_mk (st := s_law_draw) l8 c8 k8).binds fun _ _ _ _ _ _ us hl => match us, hl with | [_, _], _ => rfl,
    f9, _, fun_mk (st := s_law_line) l9 c9 k9, PySem.W.mg_of X G a9, (fun_mk (st := s_law_line) l9 c9 k9).binds fun _ _ _ _ _ _ us hl => match us, hl with | [_, _], _ => rfl,
    f10, _, fun_mk (st := s_law_after) l10 c10 k10, PySem.W.mg_of X G a10, (fun_mk (st := s_law_after) l10 c10 k10).binds fun _ _ _ _ _ _ us hl => match us, hl with | [_, _], _ => rfl,
    f11, _, fun_mk (st := s_law_trails) l11 c11 k11, PySem.W.mg_of X G a11, (fun_mk (st := s_law_trails) l11 c11 k11).binds fun _ _ _ _ _ _ us hl => match us, hl with | [_, _], _ => rfl,
    f12, _, fun_mk (st := s_law_due) l12 c12 k12, PySem.W.mg_of X G a12, (fun_mk (st := s_law_due) l12 c12 k12).binds fun _ _ _ _ _ _ us hl => match us, hl with | [_], _ => rfl,
    f13, _, fun_mk (st := s_law_right) l13 c13 k13, PySem.W.mg_of X G a13, (fun_mk (st := s_law_right) l13 c13 k13).binds fun _ _ _ _ _ _ us hl => match us, hl with | [_], _ => rfl,
    fa, _, fun_mk (st := s_law) l14 c14 k14, PySem.W.mg_of X G a14, (fun_mk (st := s_law) l14 c14 k14).binds fun _ _ _ _ _ _ us hl => match us, hl with | [_], _ => rfl,
    BC.Fun.kb (fun_mk (st := s_cuts) l6 c6 k6) fun _ _ _ _ _ _ us ws h1 h2 => match us, h1, ws, h2 with | [], _, [_], _ => rfl,
    BC.Fun.kb (fun_mk (st := s_stays) l5 c5 k5) fun _ _ _ _ _ _ us ws h1 h2 => match us, h1, ws, h2 with | [], _, [_], _ => rfl,
    tt_MOST_PAGE, PySem.W.mg_of X G q_MOST_PAGE,
    tt_MOST_VISITS, PySem.W.mg_of X G q_MOST_VISITS,
    PySem.W.mg_none_of X G z_all,
    PySem.W.mg_none_of X G z_bool,
    PySem.W.mg_none_of X G z_enumerate,
    PySem.W.mg_none_of X G z_int,
    PySem.W.mg_none_of X G z_isinstance,
    PySem.W.mg_none_of X G z_len,
    PySem.W.mg_none_of X G z_list,
    PySem.W.mg_none_of X G z_max,
    PySem.W.mg_none_of X G z_min,
    PySem.W.mg_none_of X G z_range,
    PySem.W.mg_none_of X G z_repr⟩
  exact ⟨T.fd_law, fun s v => .of_eq rfl, fun base _ _ => ok_law T⟩

end LW
open PySem PySem.W PyProof.Rows
set_option maxHeartbeats 0 in
theorem PySem.Challenge.cw_breadcrumbs_k75_stays_and_cuts_holds : PySem.Challenge.rw_breadcrumbs_k75_stays_and_cuts.Holds := by
  w_on; o_law; k_head; (case hw => w_witness2)
  k_fill
  refine BC.walk_G (l := PySem.Challenge.rw_breadcrumbs_k75_stays_and_cuts) (n := 63) (k := 7) (x := "_law_script") (sp := fun w => LW.spLaw _) rfl (by decide) rfl ⟨rfl, by decide, by decide⟩ (fun w h Y => PySem.W.kIn_of Y) ?F (fun w H a ns hl hS => ⟨a, ns, rfl, hS, hl, fun _ => rfl⟩)
  case F =>
    intro w mg fa h KX G hmg
    refine' LW.all_mk KX G hmg ?a0 ?l0 ?c0 ?k0 ?a1 ?l1 ?c1 ?k1 ?a2 ?l2 ?c2 ?k2 ?a3 ?l3 ?c3 ?k3 ?a4 ?l4 ?c4 ?k4 ?a5 ?l5 ?c5 ?k5 ?a6 ?l6 ?c6 ?k6 ?a7 ?l7 ?c7 ?k7 ?a8 ?l8 ?c8 ?k8 ?a9 ?l9 ?c9 ?k9 ?a10 ?l10 ?c10 ?k10 ?a11 ?l11 ?c11 ?k11 ?a12 ?l12 ?c12 ?k12 ?a13 ?l13 ?c13 ?k13 ?a14 ?l14 ?c14 ?k14 ?q_MOST_PAGE ?q_MOST_VISITS ?z_all ?z_bool ?z_enumerate ?z_int ?z_isinstance ?z_len ?z_list ?z_max ?z_min ?z_range ?z_repr
    (case a0 => k_is); (case l0 => k_is); (case c0 => k_is); (case k0 => k_is); (case a1 => k_is); (case l1 => k_is); (case c1 => k_is); (case k1 => k_is); (case a2 => k_is); (case l2 => k_is); (case c2 => k_is); (case k2 => k_is); (case a3 => k_is); (case l3 => k_is); (case c3 => k_is); (case k3 => k_is); (case a4 => k_is); (case l4 => k_is); (case c4 => k_is); (case k4 => k_is); (case a5 => k_is); (case l5 => k_is); (case c5 => k_is); (case k5 => k_is); (case a6 => k_is); (case l6 => k_is); (case c6 => k_is); (case k6 => k_is); (case a7 => k_is); (case l7 => k_is); (case c7 => k_is); (case k7 => k_is); (case a8 => k_is); (case l8 => k_is); (case c8 => k_is); (case k8 => k_is); (case a9 => k_is); (case l9 => k_is); (case c9 => k_is); (case k9 => k_is); (case a10 => k_is); (case l10 => k_is); (case c10 => k_is); (case k10 => k_is); (case a11 => k_is); (case l11 => k_is); (case c11 => k_is); (case k11 => k_is); (case a12 => k_is); (case l12 => k_is); (case c12 => k_is); (case k12 => k_is); (case a13 => k_is); (case l13 => k_is); (case c13 => k_is); (case k13 => k_is); (case a14 => k_is); (case l14 => k_is); (case c14 => k_is); (case k14 => k_is); (case q_MOST_PAGE => k_is); (case q_MOST_VISITS => k_is); (case z_all => k_is); (case z_bool => k_is); (case z_enumerate => k_is); (case z_int => k_is); (case z_isinstance => k_is); (case z_len => k_is); (case z_list => k_is); (case z_max => k_is); (case z_min => k_is); (case z_range => k_is); (case z_repr => k_is)

