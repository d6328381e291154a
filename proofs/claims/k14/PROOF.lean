import PyProof.Rows.All
import Wide.All
import OpenK.AllK
import Wide.FinOn
import HandS.ForMost
import HandS.IsInst
import HandS.Style
import HandS.Wide
import HandS.Evl
import HandS.Zip
import HandS.SortKw
import HandS.Conv
import HandS.TupLe
import HandS.RaiseMore
import HandS.Defaults
import HandS.SetFor
import HandS.Strs
import HandS.FStr
import HandS.Text
import PyProof.StrBlock2
import PyProof.Rows.StrIntSpec
import PyProof.FString3
import PyProof.CollectIter
import HandS.Steps
import HandS.Property
import HandS.DictComp
import HandS.ListItems
import HandS.DictTup
import HandS.SortRule
import HandS.Dict
import HandS.ExcIs
import HandS.ExcValue
import HandS.TryOnly
import HandS.HotCalls
import HandS.WordsExc
import KE.KCallOwn
import PyProof.InstEq
import HandS.More
import PySem.Challenge.RW_breadcrumbs_k14_keyword_arguments
set_option Elab.async false
set_option linter.all false
set_option maxRecDepth 100000
set_option maxHeartbeats 4000000
namespace BC
open PySem PySem.Spec PyProof.Rows L2
section
variable {X : Cx}
/-- a power of a number of any size that matters here -/
def CPowX (i j : Int) : Prop := 0 ≤ j ∧ j ≤ 1000 ∧ i.natAbs.log2 < 100000
theorem op_powX : OpR X (binaryOp .Pow) (rI CPowX fun i j => .int (i ^ j.toNat)) := opI fun i j _ _ _ _ _ hc q => by
  obtain ⟨h0, h1, h2⟩ := hc
  refine pow_int h0 ?_ q
  have hb : Builtin.Int.intBits i ≤ 100000 := by
    unfold Builtin.Int.intBits
    split <;> omega
  have h3 : (Builtin.Int.intBits i : Int) * j ≤ 100000 * j := Int.mul_le_mul_of_nonneg_right (by omega) h0
  omega
/-- a product: one factor small, or both of bounded size -/
def CMulX (i j : Int) : Prop := CMul i j ∨ CMulW i j
theorem op_mulX : OpR X (binaryOp .Mult) (rI CMulX fun i j => .int (i * j)) := opI fun _ _ _ _ _ _ _ hc q => by
  rcases hc with hc | hc
  · exact mul_int q hc.ok
  · exact mul_int q hc.ok
theorem op_fdivX : OpR X (binaryOp .FloorDiv) (rI CDivW fun i j => .int (i / j)) := op_fdivW
theorem op_modX : OpR X (binaryOp .Mod) (rI (fun _ j => 0 < j) fun i j => .int (i % j)) := opI fun i j _ _ _ _ _ hc q => by
  refine mod_int' (show j ≠ 0 by omega) ?_
  rw [Int.fmod_eq_emod_of_nonneg i (by omega)]
  exact q
def ipC (C : Int → Int → Prop) (f : Int → Int → Int) : TIp := fun x y H Q => ∃ i j, x = .int i ∧ y = .int j ∧ C i j ∧ Q (.int (f i j)) H
theorem ip_mulX : PIp X .Mult (ipC CMulX fun i j => i * j) := by
  intro pins s σ H x y v u Q I r1 r2 h
  obtain ⟨i, j, rfl, rfl, hc, q⟩ := h
  obtain ⟨t, rfl⟩ := r1
  obtain ⟨t', rfl⟩ := r2
  have ok : IntMulOk i j := by
    rcases hc with hc | hc
    · exact hc.ok
    · exact hc.ok
  exact imul_int ⟨.int (i * j), H, I.tok _, ⟨_, rfl⟩, q⟩ ok
end
end BC

/-! ### readings opened one construct at a time: full applications alone, so that what stands in a loop is left closed -/
namespace BC
open PySem PySem.Spec PyProof.Rows L2
section
variable {K : PySem.W.Frag} {σ : L2.St} {H : Hp} {Q : VK} {QT : Bool → Hp → Prop} {QA : List V → Hp → Prop} {D : Ends} {ta tb tc : TE} {t u : TT} {a : TA} {r r' : R2} {i j : Nat} {v x y : V} {s1 s2 : TS} {g : TG} {QG : L2.St → Hp → Prop}
def LoopG (J : It) (g : TG) (tb : TS) : TS := fun D σ H => ∃ W : Nat → Nat → L2.St → Hp → Prop, (∃ m, W 0 m σ H) ∧ ∀ i m σ H, W i m σ H →
  (J.stop i H ∧ D.nx σ H) ∨ (J.go i H ∧ ∃ N : L2.St → Hp → Prop, (∀ σ' H', N σ' H' → ∃ m', m' < m ∧ W (i + 1) m' σ' H') ∧ ∀ x H', J.yld i H x H' → g x σ H' fun σ2 H2 => tb { D with nx := N, ct := N, bk := D.nx } σ2 H2)
def LcG (J : It) (g : TG) (tt : TT) (te : TE) (vs : List Nat) (σ : L2.St) (Dl : Addr) (H1 : Hp) (Q : VK) : Prop := ∃ W : Nat → Nat → Hp → Prop, (∃ m, W 0 m (upd H1 Dl (.lst []))) ∧ ∀ i m H, W i m H →
  (J.stop i H ∧ Q (.ref Dl) H) ∨ (J.go i H ∧ ∃ Nx : Hp → Prop, (∀ H', Nx H' → ∃ m', m' < m ∧ W (i + 1) m' H') ∧ ∀ x H', J.yld i H x H' → g x (wipe σ vs) H' fun σ2 H2 => wipe σ2 vs = wipe σ vs ∧ tt σ2 H2 fun b H3 =>
    if b = true then te σ2 H3 fun y H4 => ∃ acc, H4 Dl = some (.lst acc) ∧ acc.length < sizeLine ∧ Nx (upd H4 Dl (.lst (acc ++ [y]))) else Nx H3)
theorem x_seq : tSeq s1 s2 D σ H = s1 { D with nx := s2 D } σ H := rfl
theorem x_next : tNext D σ H = D.nx σ H := rfl
theorem x_brk : tBreak D σ H = D.bk σ H := rfl
theorem x_cnt : tCont D σ H = D.ct σ H := rfl
theorem x_nev : tNever D σ H = False := rfl
theorem x_ret : tRet ta D σ H = ta σ H D.rt := rfl
theorem x_retN : tRetN D σ H = D.rt .non H := rfl
theorem x_drop : tDrop ta D σ H = ta σ H (fun _ H1 => D.nx σ H1) := rfl
theorem x_ifS : tIfS t s1 s2 D σ H = t σ H (fun b H1 => if b = true then s1 D σ H1 else s2 D σ H1) := rfl
theorem x_asg : tAsg ta g D σ H = ta σ H (fun x H1 => g x σ H1 D.nx) := rfl
theorem x_gn : gName i v σ H QG = QG (σ.set i (some v)) H := rfl
theorem x_gsub {o ix : TE} {st : TSet} : gSub o ix st v σ H QG = o σ H (fun o H1 => ix σ H1 fun i H2 => st o i v H2 fun H3 => QG σ H3) := rfl
theorem x_par : tPar i j a D σ H = a σ H (fun vs H1 => ∃ v w, vs = [v, w] ∧ D.nx ((σ.set i (some v)).set j (some w)) H1) := rfl
theorem x_par3 {l : Nat} : tPar3 i j l a D σ H = a σ H (fun vs H1 => ∃ u v w, vs = [u, v, w] ∧ D.nx (((σ.set i (some u)).set j (some v)).set l (some w)) H1) := rfl
theorem x_aug {ti : TIp} : tAug i ta ti D σ H = ∃ x, σ[i]? = some (some x) ∧ ta σ H fun y H1 => ti x y H1 fun z H2 => D.nx (σ.set i (some z)) H2 := rfl
theorem x_for {wi : TI} : tFor wi g s1 D σ H = wi σ H (fun J H1 => LoopG J g s1 D σ H1) := rfl
theorem x_lc {wi : TI} {vs : List Nat} : tLc wi g t ta vs σ H Q = wi σ H (fun J H1 => ∀ Dl, H1 Dl = none → LcG J g t ta vs σ Dl H1 Q) := rfl
theorem x_rng1 {R : It → Hp → Prop} : iRng1 a σ H R = a σ H (fun vs H1 => ∃ j : Int, vs = [.int j] ∧ -(2 ^ 62) ≤ j ∧ j < 2 ^ 62 ∧ R (Itr 0 j.toNat) H1) := rfl
theorem x_rng2 {R : It → Hp → Prop} : iRng2 a σ H R = a σ H (fun vs H1 => ∃ i j : Int, vs = [.int i, .int j] ∧ (-(2 ^ 62) ≤ i ∧ i < 2 ^ 62 ∧ -(2 ^ 62) ≤ j ∧ j < 2 ^ 62) ∧ R (Itr i (j - i).toNat) H1) := rfl
theorem x_rng3 {R : It → Hp → Prop} : iRng3 a σ H R = a σ H (fun vs H1 => ∃ (i j c : Int) (n : Nat), vs = [.int i, .int j, .int c] ∧ RgC i j c n ∧ R (Itc i c n) H1) := rfl
theorem x_ilist {R : It → Hp → Prop} : iList K ta σ H R = ta σ H (fun x H1 => ∃ a, x = .ref a ∧ (∃ xs, SqL K H1 a xs) ∧ R (Itl K a) H1) := rfl
theorem x_itup {R : It → Hp → Prop} : iTup K ta σ H R = ta σ H (fun x H1 => ∃ a, x = .ref a ∧ (∃ xs, SqT K H1 a xs) ∧ R (Itt K a) H1) := rfl
theorem x_ienum {R : It → Hp → Prop} : iEnum K a σ H R = a σ H (fun vs H1 => ∃ a xs, vs = [.ref a] ∧ SqL K H1 a xs ∧ R (Ite K a) H1) := rfl
theorem x_izip {R : It → Hp → Prop} : iZip K a σ H R = a σ H (fun vs H1 => ∃ a b xs ys, vs = [.ref a, .ref b] ∧ SqL K H1 a xs ∧ SqL K H1 b ys ∧ R (Itz K a b) H1) := rfl
theorem x_istr {R : It → Hp → Prop} : iStr ta σ H R = ta σ H (fun v H1 => ∃ x, v = .str x ∧ R (Its x) H1) := rfl
theorem x_var : tVar i σ H Q = ∃ v, σ[i]? = some (some v) ∧ Q v H := rfl
theorem x_c : tC v σ H Q = Q v H := rfl
theorem x_op : tOp r ta tb σ H Q = ta σ H (fun x H1 => tb σ H1 fun y H2 => r x y H2 Q) := rfl
theorem x_un {ru : V → Hp → VK → Prop} : tUn ru ta σ H Q = ta σ H (fun x H1 => ru x H1 Q) := rfl
theorem x_test : tTest ta σ H QT = ta σ H (fun x H' => ∃ k, x = .bl k ∧ QT k H') := rfl
theorem x_b : tB ta σ H QT = ta σ H (fun x H' => ∃ k, x = .bl k ∧ QT k H') := rfl
theorem x_chain : tChain r r' ta tb tc σ H Q = ta σ H (fun x H1 => tb σ H1 fun y H2 => r x y H2 fun z H3 => ∃ k, z = .bl k ∧ (if k = true then tc σ H3 fun w' H4 => r' y w' H4 Q else Q (.bl false) H3)) := rfl
theorem x_and : tAnd t u σ H QT = t σ H (fun c H1 => if c = true then u σ H1 QT else QT false H1) := rfl
theorem x_or : tOr t u σ H QT = t σ H (fun c H1 => if c = true then QT true H1 else u σ H1 QT) := rfl
theorem x_not : tNot t σ H QT = t σ H (fun c H1 => QT (!c) H1) := rfl
theorem x_andV : tAndV ta tb σ H Q = ta σ H (fun x H1 => ∃ c, x = .bl c ∧ if c = true then tb σ H1 Q else Q (.bl false) H1) := rfl
theorem x_orV : tOrV ta tb σ H Q = ta σ H (fun x H1 => ∃ c, x = .bl c ∧ if c = true then Q (.bl true) H1 else tb σ H1 Q) := rfl
theorem x_notV : tNotV ta σ H Q = ta σ H (fun x H1 => ∃ c, x = .bl c ∧ Q (.bl (!c)) H1) := rfl
theorem x_ife : tIf t ta tb σ H Q = t σ H (fun c H1 => if c = true then ta σ H1 Q else tb σ H1 Q) := rfl
theorem x_nil : tNil σ H QA = QA [] H := rfl
theorem x_cons {rest : TA} : tCons ta rest σ H QA = ta σ H (fun x H1 => rest σ H1 fun xs H2 => QA (x :: xs) H2) := rfl
theorem x_lst : tLst a σ H Q = a σ H (fun xs H1 => xs.length ≤ sizeLine ∧ ∀ p, H1 p = none → Q (.ref p) (upd H1 p (.lst xs))) := rfl
theorem x_tup : tTup a σ H Q = a σ H (fun xs H1 => xs.length ≤ sizeLine ∧ ∀ p, H1 p = none → Q (.ref p) (upd H1 p (.tup xs))) := rfl
theorem x_cb {rc : List V → Hp → VK → Prop} : tCB rc a σ H Q = a σ H (fun vs H1 => rc vs H1 Q) := rfl
theorem x_call {sp : Sp} {dvs : List V} {E : XK} : tCall sp dvs E a σ H Q = a σ H (fun vs H1 => sp (vs ++ dvs) H1 Q E) := rfl
theorem x_callK {sp : Sp} {gV : List V → List V → List V} {E : XK} {b : TA} : tCallK sp gV E a b σ H Q = a σ H (fun vs H1 => b σ H1 fun zs H2 => sp (gV vs zs) H2 Q E) := rfl
theorem x_bm {T : String} {rm : V → List V → Hp → VK → Prop} : tBM K T rm ta a σ H Q = ta σ H (fun x H1 => tyV K T x H1 ∧ a σ H1 fun xs H2 => rm x xs H2 Q) := rfl
theorem x_bm0 {T : String} {rm : V → List V → Hp → VK → Prop} : tBM0 K T rm ta σ H Q = ta σ H (fun x H1 => tyV K T x H1 ∧ rm x [] H1 Q) := rfl
theorem x_sl {rs : V → Option Int → Option Int → Hp → VK → Prop} {tl th : TO} : tSl rs ta tl th σ H Q = ta σ H (fun x H1 => tl σ H1 fun l H2 => th σ H2 fun u H3 => rs x l u H3 Q) := rfl
theorem x_nopart {QO : Option Int → Hp → Prop} : tNoPart σ H QO = QO none H := rfl
theorem x_part {QO : Option Int → Hp → Prop} : tPart ta σ H QO = ta σ H (fun x H1 => ∃ i, x = .int i ∧ QO (some i) H1) := rfl
theorem x_revL : tRevL K ta σ H Q = ta σ H (fun x H1 => ∃ a xs, x = .ref a ∧ SqL K H1 a xs ∧ ∀ p, H1 p = none → Q (.ref p) (upd H1 p (.lst xs.reverse))) := rfl
theorem x_I0 {f : Int → Int → V} {m n : Int} : rI0 f (.int m) (.int n) H Q ↔ Q (f m n) H := ⟨fun ⟨i, j, e1, e2, q⟩ => by cases e1; cases e2; exact q, fun q => ⟨m, n, rfl, rfl, q⟩⟩
theorem x_I {C : Int → Int → Prop} {f : Int → Int → V} {m n : Int} : rI C f (.int m) (.int n) H Q ↔ C m n ∧ Q (f m n) H := ⟨fun ⟨i, j, e1, e2, q⟩ => by cases e1; cases e2; exact q, fun q => ⟨m, n, rfl, rfl, q⟩⟩
theorem x_U {f : Int → V} {m : Int} : rU f (.int m) H Q ↔ Q (f m) H := ⟨fun ⟨i, e1, q⟩ => by cases e1; exact q, fun q => ⟨m, rfl, q⟩⟩
theorem x_ip {f : Int → Int → Int} {m n : Int} : ipI f (.int m) (.int n) H Q ↔ Q (.int (f m n)) H := ⟨fun ⟨i, j, e1, e2, q⟩ => by cases e1; cases e2; exact q, fun q => ⟨m, n, rfl, rfl, q⟩⟩
theorem x_ipC {C : Int → Int → Prop} {f : Int → Int → Int} {m n : Int} : ipC C f (.int m) (.int n) H Q ↔ C m n ∧ Q (.int (f m n)) H := ⟨fun ⟨i, j, e1, e2, q⟩ => by cases e1; cases e2; exact q, fun q => ⟨m, n, rfl, rfl, q⟩⟩
theorem x_eqI {m n : Int} : rEq (.int m) (.int n) H Q ↔ Q (.bl (decide (m = n))) H := by
  unfold rEq
  rw [show scal (V.int m) (V.int n) = true from rfl]
  by_cases e : m = n
  · subst e; simp
  · simp [e]
theorem x_neI {m n : Int} : rNe (.int m) (.int n) H Q ↔ Q (.bl (!decide (m = n))) H := by
  unfold rNe
  rw [show scal (V.int m) (V.int n) = true from rfl]
  by_cases e : m = n
  · subst e; simp
  · simp [e]
end
/-! ### the rules that speak of the written part, by its own name -/
section
variable {X : Cx} {K : PySem.W.Frag}
theorem k_pi_list {tg l : Expr} {tl : TE} (hK : X.K = K) (hl : PE X l tl) : PI X tg l (iList K tl) := by subst hK; exact pi_list hl
theorem k_pi_tup {tg l : Expr} {tl : TE} (hK : X.K = K) (hl : PE X l tl) : PI X tg l (iTup K tl) := by subst hK; exact pi_tup hl
theorem k_pi_enum {e : Expr} {ta : TA} {p pos tpos : Pos} {elts : List Expr} {kk : Nat} (hK : X.K = K) (hg : Gl X "enumerate") (hm : X.mg "enumerate" = none) (ha : PA X [e] ta) (hs : starEach [e] X.env = [(false, eval e X.env)] := by rfl) : PI X (.Tuple elts kk tpos) (.Call (.Name "enumerate" p) [e] [] pos) (iEnum K ta) := by subst hK; exact pi_enum hg hm ha hs
theorem k_pi_zip {e e2 : Expr} {ta : TA} {p pos tpos : Pos} {elts : List Expr} {kk : Nat} (hK : X.K = K) (hg : Gl X "zip") (hm : X.mg "zip" = none) (ha : PA X [e, e2] ta)
    (hs : starEach [e, e2] X.env = (false, eval e X.env) :: starEach [e2] X.env := by rfl) (hpl : (backTo pos (starEach [e2] X.env)).any (·.1) = false := by rfl) : PI X (.Tuple elts kk tpos) (.Call (.Name "zip" p) [e, e2] [] pos) (iZip K ta) := by subst hK; exact pi_zip hg hm ha hs hpl
theorem k_ix_list (hK : X.K = K) : IxR X (rIxL K) := by subst hK; exact ix_list
theorem k_ix_tup (hK : X.K = K) : IxR X (rIxT K) := by subst hK; exact ix_tup
theorem k_sl_list (hK : X.K = K) : SlR X (rSlL K) := by subst hK; exact sl_list
theorem k_in (hK : X.K = K) : OpR X (compareOp .In) (rIn K false) := by subst hK; exact op_in_seq
theorem k_notIn (hK : X.K = K) : OpR X (compareOp .NotIn) (rIn K true) := by subst hK; exact op_notIn_seq
theorem k_eqD (hK : X.K = K) (hu : X.A.units + 64 < cLine) : OpR X (compareOp .Eq) (rEqD K) := by subst hK; exact op_eqD hu
theorem k_neD (hK : X.K = K) (hu : X.A.units + 64 < cLine) : OpR X (compareOp .NotEq) (rNeD K) := by subst hK; exact op_neD hu
def rLen (K : PySem.W.Frag) : List V → Hp → VK → Prop := fun xs H Q => ∃ p ys, xs = [.ref p] ∧ (SqL K H p ys ∨ SqT K H p ys) ∧ Q (.int ys.length) H
def rListOf (K : PySem.W.Frag) : List V → Hp → VK → Prop := fun xs H Q => ∃ p ys, xs = [.ref p] ∧ (SqL K H p ys ∨ SqT K H p ys) ∧ ∀ l, H l = none → Q (.ref l) (upd H l (.lst ys))
def rTupOf (K : PySem.W.Frag) : List V → Hp → VK → Prop := fun xs H Q => ∃ p ys, xs = [.ref p] ∧ ((SqL K H p ys ∧ ∀ l, H l = none → Q (.ref l) (upd H l (.tup ys))) ∨ (SqT K H p ys ∧ Q (.ref p) H))
theorem k_len (hK : X.K = K) : CallR X (.builtin "len") (rLen K) := by subst hK; exact call_len_seq
theorem k_listOf (hK : X.K = K) : CallR X (.type "list") (rListOf K) := by subst hK; exact call_list_of
theorem k_tupOf (hK : X.K = K) : CallR X (.type "tuple") (rTupOf K) := by subst hK; exact call_tuple_of
theorem k_isi (hK : X.K = K) : CallR X (.builtin "isinstance") (rIsi K) := by subst hK; exact call_isi
theorem k_sum (hK : X.K = K) (hc : X.calm = true) : CallR X (.builtin "sum") (rSum K) := by subst hK; exact cr_sum hc
theorem k_all (hK : X.K = K) (hc : X.calm = true) : CallR X (.builtin "all") (rAll K) := by subst hK; exact cr_all hc
theorem k_any (hK : X.K = K) (hc : X.calm = true) : CallR X (.builtin "any") (rAny K) := by subst hK; exact cr_any hc
theorem k_sorted (hK : X.K = K) : CallR X (.builtin "sorted") (rSorted K) := by subst hK; exact cr_sorted
def tTruK (K : PySem.W.Frag) (ta : TE) : TT := fun σ H Q => ta σ H fun x H' => ∃ k, TruV K x H' k ∧ Q k H'
theorem k_truth {a : Expr} {ta : TE} (hK : X.K = K) (ha : PE X a ta) (he : ∀ whole, isTrue a X.env whole = (do let v ← whole; standAt a.pos; holding [v] (truthy v))) : PT X a (tTruK K ta) := by subst hK; exact pt_truth ha he
theorem k_tup {es : List Expr} {k n : Nat} {pos : Pos} {t : TGs} (hK : X.K = K) (hc : X.calm = true) (h : PGs X es t)
    (hn : (assignEach es X.env).length = n := by rfl) (hst : (assignEach es X.env).findIdx? (·.1) = none := by rfl) : PG X (.Tuple es k pos) (gTup K n t) := by subst hK; exact pg_tup hc h hn hst
theorem k_bm0 {T : String} {to : TE} {r : V → List V → Hp → VK → Prop} {e : Expr} (hK : X.K = K) (h : PE X e (tBM0 X.K T r to)) : PE X e (tBM0 K T r to) := by subst hK; exact h
theorem k_bm {T : String} {to : TE} {ta : TA} {r : V → List V → Hp → VK → Prop} {e : Expr} (hK : X.K = K) (h : PE X e (tBM X.K T r to ta)) : PE X e (tBM K T r to ta) := by subst hK; exact h
theorem k_rev {e : Expr} {te : TE} {k : Nat} {p1 p2 p3 pos : Pos} (hK : X.K = K) (he : PE X e te) : PE X (.Subscript e (.Slice none none (some (.UnaryOp .USub (.Constant (.int 1) k p1) p2)) p3) pos) (tRevL K te) := by subst hK; exact pe_revL he
theorem k_index (hK : X.K = K) : MtR X "list.index" (rIndex K) := by subst hK; exact mt_index
end
section
variable {K : PySem.W.Frag} {σ : L2.St} {H : Hp} {ta : TE} {QT : Bool → Hp → Prop}
theorem x_tru : tTruK K ta σ H QT = ta σ H (fun x H' => ∃ k, TruV K x H' k ∧ QT k H') := rfl
end
/-! ### loops -/
section
variable {K : PySem.W.Frag} {σ : L2.St} {H : Hp} {D : Ends} {g : TG} {tb : TS}
theorem lg_rng {lo : Int} {n : Nat} (Pv : Nat → L2.St → Hp → Prop) (h0 : Pv 0 σ H)
    (hs : ∀ i σ H, i < n → Pv i σ H → g (.int (lo + i)) σ H fun σ2 H2 => tb { D with nx := Pv (i + 1), ct := Pv (i + 1), bk := D.nx } σ2 H2) (hd : ∀ σ H, Pv n σ H → D.nx σ H) : LoopG (Itr lo n) g tb D σ H := for_range Pv h0 hs hd
theorem lg_rngC {lo c : Int} {n : Nat} (Pv : Nat → L2.St → Hp → Prop) (h0 : Pv 0 σ H)
    (hs : ∀ i σ H, i < n → Pv i σ H → g (.int (lo + (i : Nat) * c)) σ H fun σ2 H2 => tb { D with nx := Pv (i + 1), ct := Pv (i + 1), bk := D.nx } σ2 H2) (hd : ∀ σ H, Pv n σ H → D.nx σ H) : LoopG (Itc lo c n) g tb D σ H := for_rangeC Pv h0 hs hd
theorem lg_list {a : Addr} {xs : List V} (Pv : Nat → L2.St → Hp → Prop) (h0 : Pv 0 σ H) (hl : ∀ i σ H, i ≤ xs.length → Pv i σ H → SqL K H a xs)
    (hs : ∀ i x σ H, xs[i]? = some x → Pv i σ H → g x σ H fun σ2 H2 => tb { D with nx := Pv (i + 1), ct := Pv (i + 1), bk := D.nx } σ2 H2) (hd : ∀ σ H, Pv xs.length σ H → D.nx σ H) : LoopG (Itl K a) g tb D σ H := for_list Pv h0 hl hs hd
/-- enumerate over a list that stands still: each pair is a new tuple -/
theorem lg_enum {a : Addr} {xs : List V} (Pv : Nat → L2.St → Hp → Prop) (h0 : Pv 0 σ H) (hl : ∀ i σ H, i ≤ xs.length → Pv i σ H → SqL K H a xs)
    (hs : ∀ i x σ H T, xs[i]? = some x → Pv i σ H → H T = none → g (.ref T) σ (upd H T (.tup [.int (i : Nat), x])) fun σ2 H2 => tb { D with nx := Pv (i + 1), ct := Pv (i + 1), bk := D.nx } σ2 H2) (hd : ∀ σ H, Pv xs.length σ H → D.nx σ H) : LoopG (Ite K a) g tb D σ H := by
  refine ⟨fun i m σ H => m = xs.length - i ∧ i ≤ xs.length ∧ Pv i σ H, ⟨xs.length, by simp, Nat.zero_le _, h0⟩, ?_⟩
  rintro i m σ H ⟨rfl, hi, p⟩
  have q := hl i σ H hi p
  by_cases hlt : i < xs.length
  · refine .inr ⟨⟨xs, xs[i], q, by simp [hlt]⟩, Pv (i + 1), fun σ' H' p' => ⟨xs.length - (i + 1), by omega, rfl, hlt, p'⟩, fun x H' y => ?_⟩
    obtain ⟨T, x', rfl, hT, rfl, f⟩ := y
    exact hs i x' σ H T (f xs q) p hT
  · have e : i = xs.length := by omega
    subst e
    exact .inl ⟨⟨xs, q, Nat.le_refl _⟩, hd σ H p⟩
/-- a pair unpacked -/
theorem g_two {i j : Nat} {T : Addr} {x y : V} {QG : L2.St → Hp → Prop} (h : H T = some (.tup [x, y])) (q : QG ((σ.set i (some x)).set j (some y)) H) : gTup K 2 (gCons (gName i) (gCons (gName j) gNil)) (.ref T) σ H QG :=
  ⟨T, [x, y], rfl, .inl (.inl h), rfl, x, [y], rfl, y, [], rfl, rfl, q⟩
end
/-! ### comprehensions over lists whose elements are given by a function of the turn -/
section
variable {K : PySem.W.Frag} {σ : L2.St} {H1 : Hp} {g : TG} {tt : TT} {te : TE} {vs : List Nat} {Dl : Addr} {Q : VK}
theorem lc_g (n : Nat) {J : It} (Pv : Nat → Hp → Prop) (h0 : Pv 0 (upd H1 Dl (.lst []))) (hst : ∀ H, Pv n H → J.stop n H) (hgo : ∀ i H, i < n → Pv i H → J.go i H)
    (hs : ∀ i H x H', i < n → Pv i H → J.yld i H x H' → g x (wipe σ vs) H' fun σ2 H2 => wipe σ2 vs = wipe σ vs ∧ tt σ2 H2 fun b H3 =>
      if b = true then te σ2 H3 fun y H4 => ∃ acc, H4 Dl = some (.lst acc) ∧ acc.length < sizeLine ∧ Pv (i + 1) (upd H4 Dl (.lst (acc ++ [y]))) else Pv (i + 1) H3) (hd : ∀ H, Pv n H → Q (.ref Dl) H) : LcG J g tt te vs σ Dl H1 Q := by
  refine ⟨fun i m H => m = n - i ∧ i ≤ n ∧ Pv i H, ⟨n, by simp, Nat.zero_le _, h0⟩, ?_⟩
  rintro i m H ⟨rfl, hi, p⟩
  by_cases hlt : i < n
  · exact .inr ⟨hgo i H hlt p, Pv (i + 1), fun H' p' => ⟨n - (i + 1), by omega, rfl, hlt, p'⟩, fun x H' y => hs i H x H' hlt p y⟩
  · have e : i = n := by omega
    subst e
    exact .inl ⟨hst H p, hd H p⟩
end
/-! ### comprehensions that change nothing -/
section
variable {K : PySem.W.Frag} {σ : L2.St} {H1 : Hp} {g : TG} {tt : TT} {te : TE} {vs : List Nat} {Dl : Addr} {Q : VK}
def kept (n : Nat) (keep : Nat → Bool) (f : Nat → V) : List V := ((List.range n).filter keep).map f
theorem kept_yes {n : Nat} {k : Nat → Bool} {f : Nat → V} (h : k n = true) : kept (n + 1) k f = kept n k f ++ [f n] := by
  unfold kept
  rw [List.range_succ, List.filter_append, List.map_append]
  simp [h]
theorem kept_no {n : Nat} {k : Nat → Bool} {f : Nat → V} (h : k n = false) : kept (n + 1) k f = kept n k f := by
  unfold kept
  rw [List.range_succ, List.filter_append, List.map_append]
  simp [h]
theorem kept_len (n : Nat) (k : Nat → Bool) (f : Nat → V) : (kept n k f).length ≤ n := by
  unfold kept
  rw [List.length_map]
  exact Nat.le_trans (List.length_filter_le _ _) (by rw [List.length_range]; exact Nat.le_refl _)
theorem kept_all (n : Nat) (f : Nat → V) : kept n (fun _ => true) f = (List.range n).map f := by
  unfold kept
  rw [List.filter_eq_self.mpr (by simp)]
theorem lc_pure {J : It} (n : Nat) (item : Nat → L2.St) (keep : Nat → Bool) (f : Nat → V) (hD : H1 Dl = none) (hn : n ≤ 100000)
    (hst : ∀ H', Evl.Ex H1 H' → J.stop n H') (hgo : ∀ i H', i < n → Evl.Ex H1 H' → J.go i H')
    (hy : ∀ i H' x H'' (QG : L2.St → Hp → Prop), i < n → Evl.Ex H1 H' → J.yld i H' x H'' → (Evl.Ex H' H'' → QG (item i) H'') → g x (wipe σ vs) H'' QG)
    (hw : ∀ i, i < n → wipe (item i) vs = wipe σ vs) (ht : ∀ i, i < n → Evl.EvT tt (item i) H1 (keep i)) (he : ∀ i, i < n → keep i = true → Evl.Ev te (item i) H1 (f i))
    (hd : ∀ H', Evl.Ex H1 H' → H' Dl = some (.lst (kept n keep f)) → Q (.ref Dl) H') : LcG J g tt te vs σ Dl H1 Q := by
  refine lc_g n (fun i H' => Evl.Ex H1 H' ∧ H' Dl = some (.lst (kept i keep f))) ⟨Evl.Ex.new hD, upd_same⟩ (fun H' h => hst H' h.1) (fun i H' hi h => hgo i H' hi h.1) (fun i H' x H'' hi h y => ?_) (fun H' h => hd H' h.1 h.2)
  obtain ⟨e, hl⟩ := h
  refine hy i H' x H'' _ hi e y fun e2 => ⟨hw i hi, ht i hi H'' (e.trans e2) _ fun H3 e3 => ?_⟩
  have hl3 := e3 _ _ (e2 _ _ hl)
  cases hk : keep i with
  | false =>
    show (if false = true then _ else _)
    rw [if_neg Bool.false_ne_true, kept_no hk]
    exact ⟨(e.trans e2).trans e3, hl3⟩
  | true =>
    show (if true = true then _ else _)
    rw [if_pos rfl]
    refine he i hi hk H3 ((e.trans e2).trans e3) _ fun H4 e4 => ⟨_, e4 _ _ hl3, Nat.lt_of_lt_of_le (Nat.lt_of_le_of_lt (kept_len i keep f) hi) (Nat.le_trans hn (by decide)), ?_⟩
    rw [kept_yes hk]
    exact ⟨(((e.trans e2).trans e3).trans e4).mut hD, upd_same⟩
theorem tyes {σ : L2.St} {H : Hp} : Evl.EvT tYes σ H true := fun H1 _ _ q => q H1 (Evl.Ex.refl H1)
theorem lc_enum {a : Addr} {xs : List V} {j k : Nat} (keep : Nat → Bool) (f : Nat → V) (hx : SqL K H1 a xs) (hD : H1 Dl = none) (hn : xs.length ≤ 100000)
    (hw : ∀ u v : V, wipe (((wipe σ vs).set j (some u)).set k (some v)) vs = wipe σ vs)
    (ht : ∀ i x, xs[i]? = some x → Evl.EvT tt (((wipe σ vs).set j (some (.int (i : Nat)))).set k (some x)) H1 (keep i))
    (he : ∀ i x, xs[i]? = some x → keep i = true → Evl.Ev te (((wipe σ vs).set j (some (.int (i : Nat)))).set k (some x)) H1 (f i))
    (hd : ∀ H', Evl.Ex H1 H' → H' Dl = some (.lst (kept xs.length keep f)) → Q (.ref Dl) H') : LcG (Ite K a) (gTup K 2 (gCons (gName j) (gCons (gName k) gNil))) tt te vs σ Dl H1 Q := by
  refine lc_pure xs.length (fun i => ((wipe σ vs).set j (some (.int (i : Nat)))).set k (some (xs.getD i .non))) keep f hD hn (fun H' e => ⟨xs, Evl.ex_l e hx, Nat.le_refl _⟩) (fun i H' hi e => ⟨xs, xs[i], Evl.ex_l e hx, List.getElem?_eq_getElem hi⟩)
    (fun i H' x H'' QG hi e y q => ?_) (fun i hi => hw _ _) (fun i hi => ht i _ (by rw [List.getD_eq_getElem?_getD, List.getElem?_eq_getElem hi]; rfl)) (fun i hi => he i _ (by rw [List.getD_eq_getElem?_getD, List.getElem?_eq_getElem hi]; rfl)) hd
  obtain ⟨T, v, rfl, hT, rfl, hf⟩ := y
  have hv := hf xs (Evl.ex_l e hx)
  have e1 : xs.getD i .non = v := by rw [List.getD_eq_getElem?_getD, hv]; rfl
  refine g_two upd_same ?_
  have q2 := q (Evl.Ex.new hT)
  rw [e1] at q2
  exact q2
theorem lc_list {a : Addr} {xs : List V} {j : Nat} (keep : Nat → Bool) (f : Nat → V) (hx : SqL K H1 a xs) (hD : H1 Dl = none) (hn : xs.length ≤ 100000)
    (hw : ∀ u : V, wipe ((wipe σ vs).set j (some u)) vs = wipe σ vs)
    (ht : ∀ i x, xs[i]? = some x → Evl.EvT tt ((wipe σ vs).set j (some x)) H1 (keep i))
    (he : ∀ i x, xs[i]? = some x → keep i = true → Evl.Ev te ((wipe σ vs).set j (some x)) H1 (f i))
    (hd : ∀ H', Evl.Ex H1 H' → H' Dl = some (.lst (kept xs.length keep f)) → Q (.ref Dl) H') : LcG (Itl K a) (gName j) tt te vs σ Dl H1 Q := by
  refine lc_pure xs.length (fun i => (wipe σ vs).set j (some (xs.getD i .non))) keep f hD hn (fun H' e => ⟨xs, Evl.ex_l e hx, Nat.le_refl _⟩) (fun i H' hi e => ⟨xs, xs[i], Evl.ex_l e hx, List.getElem?_eq_getElem hi⟩)
    (fun i H' x H'' QG hi e y q => ?_) (fun i hi => hw _) (fun i hi => ht i _ (by rw [List.getD_eq_getElem?_getD, List.getElem?_eq_getElem hi]; rfl)) (fun i hi => he i _ (by rw [List.getD_eq_getElem?_getD, List.getElem?_eq_getElem hi]; rfl)) hd
  obtain ⟨rfl, hf⟩ := y
  have hv := hf xs (Evl.ex_l e hx)
  have e1 : xs.getD i .non = x := by rw [List.getD_eq_getElem?_getD, hv]; rfl
  show QG _ _
  rw [← e1]
  exact q (Evl.Ex.refl _)
theorem lc_rng {lo : Int} {n j : Nat} (keep : Nat → Bool) (f : Nat → V) (hD : H1 Dl = none) (hn : n ≤ 100000)
    (hw : ∀ u : V, wipe ((wipe σ vs).set j (some u)) vs = wipe σ vs)
    (ht : ∀ i, i < n → Evl.EvT tt ((wipe σ vs).set j (some (.int (lo + i)))) H1 (keep i))
    (he : ∀ i, i < n → keep i = true → Evl.Ev te ((wipe σ vs).set j (some (.int (lo + i)))) H1 (f i))
    (hd : ∀ H', Evl.Ex H1 H' → H' Dl = some (.lst (kept n keep f)) → Q (.ref Dl) H') : LcG (Itr lo n) (gName j) tt te vs σ Dl H1 Q := by
  refine lc_pure n (fun i => (wipe σ vs).set j (some (.int (lo + i)))) keep f hD hn (fun H' e => Nat.le_refl _) (fun i H' hi e => hi)
    (fun i H' x H'' QG hi e y q => ?_) (fun i hi => hw _) ht he hd
  obtain ⟨rfl, rfl⟩ := y
  exact q (Evl.Ex.refl _)
end
/-! ### operations on values -/
section
variable {K : PySem.W.Frag} {H : Hp} {Q : VK}
theorem isi_int {i : Int} {T : String} {b : Bool} (h : kitB "int" T = some b) (q : Q (.bl b) H) : rIsi K [.int i, .ty T] H Q :=
  ⟨.int i, .ty T, .type "int", .type T, b, rfl, .ty T, .base (.int i), kit_ty h, q⟩
theorem ixL {p : Addr} {xs : List V} {i : Int} {v : V} (h : SqL K H p xs) (hi : atI xs i = some v) (q : Q v H) : rIxL K (.ref p) (.int i) H Q := ⟨p, xs, i, v, rfl, rfl, h, hi, q⟩
theorem setL {p : Addr} {xs : List V} {i : Int} {j : Nat} {v : V} {R : Hp → Prop} (h : H p = some (.lst xs)) (hj : ixN xs.length i = some j) (q : R (upd H p (.lst (xs.set j v)))) : rSetL (.ref p) (.int i) v H R := ⟨p, xs, i, j, rfl, rfl, h, hj, q⟩
theorem repL {p : Addr} {xs : List V} {k : Int} (h : H p = some (.lst xs)) (h1 : -(2 ^ 63) ≤ k) (h2 : k < 2 ^ 63) (hz : xs.length * k.toNat ≤ sizeLine) (q : ∀ l, H l = none → Q (.ref l) (upd H l (.lst (List.replicate k.toNat xs).flatten))) : rRep (.ref p) (.int k) H Q := ⟨p, k, xs, rfl, rfl, h, h1, h2, hz, q⟩
theorem catL {p b : Addr} {xs ys : List V} (h : H p = some (.lst xs)) (hb : H b = some (.lst ys)) (hz : xs.length + ys.length ≤ sizeLine) (q : ∀ l, H l = none → Q (.ref l) (upd H l (.lst (xs ++ ys)))) : rCat (.ref p) (.ref b) H Q := ⟨p, b, xs, ys, rfl, rfl, h, hb, hz, q⟩
theorem sumL {p : Addr} {ns : List Int} (h : SqL K H p (ns.map V.int)) (q : Q (.int ns.sum) H) : rSum K [.ref p] H Q := ⟨p, ns, rfl, h, q⟩
theorem appL {p : Addr} {xs : List V} {y : V} (h : H p = some (.lst xs)) (hz : xs.length < sizeLine) (q : Q .non (upd H p (.lst (xs ++ [y])))) : rAppend (.ref p) [y] H Q := ⟨p, xs, y, rfl, rfl, h, hz, q⟩
theorem tyL {p : Addr} {xs : List V} (h : H p = some (.lst xs)) : tyV K "list" (.ref p) H := Or.inl ⟨rfl, _, Or.inl (Or.inl h)⟩
theorem atI_n {xs : List V} {i : Int} {j : Nat} {v : V} (e : i = (j : Int)) (h : xs[j]? = some v) : atI xs i = some v := by
  subst e
  have hj := (List.getElem?_eq_some_iff.mp h).1
  unfold atI ixN
  rw [if_pos (by omega), if_pos (by omega)]
  exact h
theorem ixN_n {n : Nat} {i : Int} {j : Nat} (e : i = (j : Int)) (h : j < n) : ixN n i = some j := by
  subst e
  unfold ixN
  rw [if_pos (by omega), if_pos (by omega)]
  rfl
theorem sz_ok {n : Nat} (h : n ≤ 100000) : n ≤ sizeLine := Nat.le_trans h (by decide)
theorem sz_lt {n : Nat} (h : n < 100000) : n < sizeLine := Nat.lt_of_lt_of_le h (by decide)
end
end BC

set_option Elab.async false
set_option linter.all false
set_option maxRecDepth 100000
set_option maxHeartbeats 4000000
namespace BC
open PySem PySem.Spec PyProof.Rows L2 Evl RZ
/-! ### all but the object at b stands -/
def Fx (b : Addr) (H H' : Hp) : Prop := ∀ a o, a ≠ b → H a = some o → H' a = some o
theorem Fx.refl (b : Addr) (H : Hp) : Fx b H H := fun _ _ _ h => h
theorem Fx.trans {b : Addr} {H H1 H2 : Hp} (x : Fx b H H1) (y : Fx b H1 H2) : Fx b H H2 := fun a o n h => y a o n (x a o n h)
theorem Fx.of {b : Addr} {H H' : Hp} (e : Ex H H') : Fx b H H' := fun a o _ h => e a o h
theorem Fx.put {b : Addr} {H : Hp} {o : HO} : Fx b H (upd H b o) := fun a u n h => by rw [upd_ne n]; exact h
theorem Fx.ex {b : Addr} {H H' : Hp} (x : Fx b H H') (h : H b = none) : Ex H H' := fun a o e => x a o (ne_of_none e h) e
theorem Fx.l {K : PySem.W.Frag} {b a : Addr} {H H' : Hp} {xs : List V} (x : Fx b H H') (n : a ≠ b) (h : SqL K H a xs) : SqL K H' a xs := by
  rcases h with h | h
  · rcases h with h | ⟨o, h⟩
    · exact .inl (.inl (x a _ n h))
    · exact .inl (.inr ⟨o, x a _ n h⟩)
  · exact .inr h
/-! ### lists -/
theorem cutV_mem {xs : List V} {lo hi : Option Int} {x : V} (h : x ∈ cutV xs lo hi) : x ∈ xs := by
  unfold cutV at h
  exact List.mem_of_mem_drop (List.mem_of_mem_take h)
theorem cutV_len (xs : List V) (lo hi : Option Int) : (cutV xs lo hi).length ≤ xs.length := by
  unfold cutV
  rw [List.length_take, List.length_drop]
  omega
theorem two_at0 {x y r : Int} {n : Nat} (h0 : 0 ≤ r) (h1 : r < 2) (hx0 : 0 ≤ x) (hx1 : x ≤ n) (hy0 : 0 ≤ y) (hy1 : y ≤ n) : ∃ m : Nat, m ≤ n ∧ atI [V.int x, V.int y] r = some (.int m) := by
  by_cases e : r = 0
  · exact ⟨x.toNat, by omega, by rw [Int.toNat_of_nonneg hx0]; exact atI_n (j := 0) e rfl⟩
  · exact ⟨y.toNat, by omega, by rw [Int.toNat_of_nonneg hy0]; exact atI_n (j := 1) (by omega) rfl⟩
theorem two_at {x y r : Int} {n : Nat} (h0 : 0 ≤ r) (h1 : r < 2) (hx0 : 1 ≤ x) (hx1 : x ≤ n) (hy0 : 1 ≤ y) (hy1 : y ≤ n) : ∃ m : Nat, 1 ≤ m ∧ m ≤ n ∧ atI [V.int x, V.int y] r = some (.int m) := by
  by_cases e : r = 0
  · exact ⟨x.toNat, by omega, by omega, by rw [Int.toNat_of_nonneg (by omega)]; exact atI_n (j := 0) e rfl⟩
  · exact ⟨y.toNat, by omega, by omega, by rw [Int.toNat_of_nonneg (by omega)]; exact atI_n (j := 1) (by omega) rfl⟩
/-- a written list read at a drawn place -/
theorem pick {xs : List V} {r : Int} (h0 : 0 ≤ r) (h1 : r < xs.length) : ∃ v, v ∈ xs ∧ atI xs r = some v := by
  have hj : r.toNat < xs.length := by omega
  exact ⟨xs[r.toNat], List.getElem_mem hj, atI_n (j := r.toNat) (by omega) (List.getElem?_eq_getElem hj)⟩
theorem rep_one (n : Nat) (v : V) : (List.replicate n [v]).flatten = List.replicate n v := by
  induction n with
  | zero => rfl
  | succ n ih => rw [List.replicate_succ, List.flatten_cons, ih]; rfl
theorem take_succ {xs : List V} {i : Nat} {v : V} (h : xs[i]? = some v) : xs.take (i + 1) = xs.take i ++ [v] := by
  rw [List.take_add_one, h]
  rfl
theorem log2_small {i : Int} {k : Nat} (hk : 0 < k) (h : i.natAbs < 2 ^ k) : i.natAbs.log2 < k := PySem.Flt.log2_lt_of hk h
/-! ### kinds -/
section
variable {X : Cx} {K : PySem.W.Frag} {H : Hp} {Q : VK}
theorem k_pi_zipA {e e2 : Expr} {ta : TA} {p pos tpos : Pos} {elts : List Expr} {kk : Nat} (hK : X.K = K) (hg : Gl X "zip") (hm : X.mg "zip" = none) (ha : PA X [e, e2] ta)
    (hs : starEach [e, e2] X.env = (false, eval e X.env) :: starEach [e2] X.env := by rfl) (hpl : (backTo pos (starEach [e2] X.env)).any (·.1) = false := by rfl) : PI X (.Tuple elts kk tpos) (.Call (.Name "zip" p) [e, e2] [] pos) (iZipA K ta) := by subst hK; exact pi_zipA hg hm ha hs hpl
theorem k_isiT (hK : X.K = K) : CallR X (.builtin "isinstance") (rIsiT K) := by subst hK; exact call_isiT
theorem tyx_l {a : Addr} {xs : List V} (h : SqL K H a xs) : TyX K H (.ref a) (.type "list") := by
  rcases h with (h | ⟨o, h⟩) | ⟨o, its, n, h, c, _⟩
  · exact .base (.lst h)
  · exact .base (.frz h)
  · exact .kList h c
theorem tyx_t {a : Addr} {xs : List V} (h : SqT K H a xs) : TyX K H (.ref a) (.type "tuple") := by
  rcases h with (h | ⟨o, h⟩) | ⟨o, its, n, h, c, _⟩
  · exact .base (.tup h)
  · exact .fTuple h
  · exact .kTuple h c
def tyn : PyData → String
  | .none => "NoneType"
  | .bool _ => "bool"
  | .int _ => "int"
  | .str _ => "str"
  | .list _ => "list"
  | .tuple _ => "tuple"
  | .dict _ => "dict"
theorem tyx_d {v : V} {d : PyData} (h : Dp K H v d) : TyX K H v (.type (tyn d)) := by
  cases h with
  | non => exact .base .non
  | bl b => exact .base (.bl b)
  | int i => exact .base (.int i)
  | str x => exact .base (.str x)
  | lst h _ => exact tyx_l h
  | tup h _ => exact tyx_t h
theorem isi_x {v : V} {A T : String} {b : Bool} (h : TyX K H v (.type A)) (hk : kitB A T = some b) (q : Q (.bl b) H) : rIsi K [v, .ty T] H Q :=
  ⟨v, .ty T, .type A, .type T, b, rfl, .ty T, h, kit_ty hk, q⟩
theorem kit_two {A B C : String} {b c : Bool} (h1 : kitB A B = some b) (h2 : kitB A C = some c) : PySem.W.kitAny K (.type A) [.type B, .type C] = some (b || c) := by
  refine kitAny_cons (kit_ty h1) (fun e => ?_) (fun e => by rw [e]; rfl)
  subst e
  refine kitAny_cons (kit_ty h2) (fun e => ?_) (fun e => by rw [e]; rfl)
  subst e
  exact kitAny_nil
theorem isiT2 {v : V} {p : Addr} {A B C : String} {b c : Bool} (h : TyX K H v (.type A)) (hp : H p = some (.tup [.ty B, .ty C])) (h1 : kitB A B = some b) (h2 : kitB A C = some c) (q : Q (.bl (b || c)) H) : rIsiT K [v, .ref p] H Q :=
  ⟨v, p, [.ty B, .ty C], .type A, [.type B, .type C], b || c, rfl, hp, .cons (.ty B) (.cons (.ty C) .nil), h, kit_two h1 h2, q⟩
theorem ex_d {H H' : Hp} (e : Ex H H') : ∀ (d : PyData) (v : V), Dp K H v d → Dp K H' v d
  | .none, _, h => by cases h; exact .non
  | .bool _, _, h => by cases h; exact .bl _
  | .int _, _, h => by cases h; exact .int _
  | .str _, _, h => by cases h; exact .str _
  | .dict _, _, h => by cases h
  | .list ds, _, h => by
    cases h with
    | lst h1 h2 => exact .lst (ex_l e h1) (all ds _ h2)
  | .tuple ds, _, h => by
    cases h with
    | tup h1 h2 => exact .tup (ex_t e h1) (all ds _ h2)
where
  all : ∀ (ds : List PyData) (vs : List V), DpAll K H vs ds → DpAll K H' vs ds
  | [], _, h => by cases h; exact .nil
  | d :: ds, _, h => by
    cases h with
    | cons h1 h2 => exact .cons (ex_d e d _ h1) (all ds _ h2)
theorem dp_len : ∀ {vs : List V} {ds : List PyData}, DpAll K H vs ds → vs.length = ds.length
  | _, _, .nil => rfl
  | _, _, .cons _ h => by rw [List.length_cons, List.length_cons, dp_len h]
theorem dp_at : ∀ {vs : List V} {ds : List PyData} {i : Nat} {v : V}, DpAll K H vs ds → vs[i]? = some v → ∃ d, ds[i]? = some d ∧ Dp K H v d
  | _, _, _, _, .nil, e => by simp at e
  | _, _, 0, _, .cons h _, e => by simp at e; subst e; exact ⟨_, rfl, h⟩
  | _, _, i + 1, _, .cons _ h, e => by
    obtain ⟨d, e1, e2⟩ := dp_at (i := i) h (by simpa using e)
    exact ⟨d, by simpa using e1, e2⟩
theorem dp_ints : ∀ ns : List Int, DpAll K H (ns.map V.int) (ns.map PyData.int)
  | [] => .nil
  | n :: ns => .cons (.int n) (dp_ints ns)
/-- data of so many levels, of moderate size -/
inductive Sh : Nat → PyData → Prop
  | non (n : Nat) : Sh n .none
  | bl (n : Nat) (b : Bool) : Sh n (.bool b)
  | int (n : Nat) (i : Int) : Sh n (.int i)
  | str (n : Nat) (x : Str) : Sh n (.str x)
  | lst {n : Nat} {ds : List PyData} (hl : ds.length ≤ 100000) (h : ∀ d ∈ ds, Sh n d) : Sh (n + 1) (.list ds)
  | tup {n : Nat} {ds : List PyData} (hl : ds.length ≤ 100000) (h : ∀ d ∈ ds, Sh n d) : Sh (n + 1) (.tuple ds)
theorem sh_ints (ns : List Int) (h : ns.length ≤ 100000) : Sh 1 (.list (ns.map PyData.int)) := .lst (by rw [List.length_map]; exact h) fun d hd => by
  obtain ⟨n, _, rfl⟩ := List.mem_map.mp hd
  exact .int 0 n
end
/-! ### more readings -/
section
variable {K : PySem.W.Frag} {σ : L2.St} {H H1 : Hp} {g : TG} {tt : TT} {te : TE} {vs : List Nat} {Dl : Addr} {Q : VK}
theorem x_eqB {m n : Bool} : rEq (.bl m) (.bl n) H Q ↔ Q (.bl (decide (m = n))) H := by
  unfold rEq
  rw [show scal (V.bl m) (V.bl n) = true from rfl]
  cases m <;> cases n <;> simp
theorem x_neB {m n : Bool} : rNe (.bl m) (.bl n) H Q ↔ Q (.bl (!decide (m = n))) H := by
  unfold rNe
  rw [show scal (V.bl m) (V.bl n) = true from rfl]
  cases m <;> cases n <;> simp
theorem x_eqS {m n : Str} : rEq (.str m) (.str n) H Q ↔ Q (.bl (decide (m = n))) H := by
  unfold rEq
  rw [show scal (V.str m) (V.str n) = true from rfl]
  by_cases e : m = n
  · subst e; simp
  · simp [e]
theorem x_neS {m n : Str} : rNe (.str m) (.str n) H Q ↔ Q (.bl (!decide (m = n))) H := by
  unfold rNe
  rw [show scal (V.str m) (V.str n) = true from rfl]
  by_cases e : m = n
  · subst e; simp
  · simp [e]
theorem allL {p : Addr} {bs : List Bool} (h : SqL K H p (bs.map V.bl)) (q : Q (.bl (bs.all id)) H) : rAll K [.ref p] H Q := ⟨p, bs, rfl, h, q⟩
theorem anyL {p : Addr} {bs : List Bool} (h : SqL K H p (bs.map V.bl)) (q : Q (.bl (bs.any id)) H) : rAny K [.ref p] H Q := ⟨p, bs, rfl, h, q⟩
theorem lenL {p : Addr} {xs : List V} (h : SqL K H p xs) (q : Q (.int (xs.length : Nat)) H) : rLen K [.ref p] H Q := ⟨p, xs, rfl, .inl h, q⟩
theorem lenT {p : Addr} {xs : List V} (h : SqT K H p xs) (q : Q (.int (xs.length : Nat)) H) : rLen K [.ref p] H Q := ⟨p, xs, rfl, .inr h, q⟩
theorem x_izipA {a : TA} {R : It → Hp → Prop} : iZipA K a σ H R = a σ H (fun vs H1 => ∃ a b xs ys, vs = [.ref a, .ref b] ∧ ((SqL K H1 a xs ∧ SqL K H1 b ys ∧ R (Itz K a b) H1) ∨ (SqT K H1 a xs ∧ SqT K H1 b ys ∧ R (ItzT K a b) H1))) := rfl
theorem eq_same {v : V} (h : scal v v = true) (q : Q (.bl true) H) : rEq v v H Q := ⟨h, by rw [decide_eq_true rfl]; exact q⟩
theorem g_three {i j l : Nat} {T : Addr} {x y z : V} {QG : L2.St → Hp → Prop} (h : H T = some (.tup [x, y, z])) (q : QG (((σ.set i (some x)).set j (some y)).set l (some z)) H) : gTup K 3 (gCons (gName i) (gCons (gName j) (gCons (gName l) gNil))) (.ref T) σ H QG :=
  ⟨T, [x, y, z], rfl, .inl (.inl h), rfl, x, [y, z], rfl, y, [z], rfl, z, [], rfl, rfl, q⟩
theorem lc_zip {a b : Addr} {xs ys : List V} {j k : Nat} (keep : Nat → Bool) (f : Nat → V) (hx : SqL K H1 a xs) (hy : SqL K H1 b ys) (he0 : xs.length = ys.length) (hD : H1 Dl = none) (hn : xs.length ≤ 100000)
    (hw : ∀ u v : V, wipe (((wipe σ vs).set j (some u)).set k (some v)) vs = wipe σ vs)
    (ht : ∀ i x y, xs[i]? = some x → ys[i]? = some y → Evl.EvT tt (((wipe σ vs).set j (some x)).set k (some y)) H1 (keep i))
    (he : ∀ i x y, xs[i]? = some x → ys[i]? = some y → keep i = true → Evl.Ev te (((wipe σ vs).set j (some x)).set k (some y)) H1 (f i))
    (hd : ∀ H', Evl.Ex H1 H' → H' Dl = some (.lst (kept xs.length keep f)) → Q (.ref Dl) H') : LcG (Itz K a b) (gTup K 2 (gCons (gName j) (gCons (gName k) gNil))) tt te vs σ Dl H1 Q := by
  have gx : ∀ i, i < xs.length → xs[i]? = some (xs.getD i .non) := fun i hi => by rw [List.getD_eq_getElem?_getD, List.getElem?_eq_getElem hi]; rfl
  have gy : ∀ i, i < xs.length → ys[i]? = some (ys.getD i .non) := fun i hi => by rw [List.getD_eq_getElem?_getD, List.getElem?_eq_getElem (by omega)]; rfl
  refine lc_pure xs.length (fun i => ((wipe σ vs).set j (some (xs.getD i .non))).set k (some (ys.getD i .non))) keep f hD hn (fun H' e => ⟨xs, ys, Evl.ex_l e hx, Evl.ex_l e hy, .inl (Nat.le_refl _)⟩)
    (fun i H' hi e => ⟨xs, ys, _, _, Evl.ex_l e hx, Evl.ex_l e hy, gx i hi, gy i hi⟩)
    (fun i H' x H'' QG hi e y q => ?_) (fun i hi => hw _ _) (fun i hi => ht i _ _ (gx i hi) (gy i hi)) (fun i hi => he i _ _ (gx i hi) (gy i hi)) hd
  obtain ⟨T, u, v, rfl, hT, rfl, hf, hf2⟩ := y
  have hu := hf xs (Evl.ex_l e hx)
  have hv := hf2 ys (Evl.ex_l e hy)
  have e1 : xs.getD i .non = u := by rw [List.getD_eq_getElem?_getD, hu]; rfl
  have e2 : ys.getD i .non = v := by rw [List.getD_eq_getElem?_getD, hv]; rfl
  refine g_two upd_same ?_
  have q2 := q (Evl.Ex.new hT)
  rw [e1, e2] at q2
  exact q2
theorem lc_zipT {a b : Addr} {xs ys : List V} {j k : Nat} (keep : Nat → Bool) (f : Nat → V) (hx : SqT K H1 a xs) (hy : SqT K H1 b ys) (he0 : xs.length = ys.length) (hD : H1 Dl = none) (hn : xs.length ≤ 100000)
    (hw : ∀ u v : V, wipe (((wipe σ vs).set j (some u)).set k (some v)) vs = wipe σ vs)
    (ht : ∀ i x y, xs[i]? = some x → ys[i]? = some y → Evl.EvT tt (((wipe σ vs).set j (some x)).set k (some y)) H1 (keep i))
    (he : ∀ i x y, xs[i]? = some x → ys[i]? = some y → keep i = true → Evl.Ev te (((wipe σ vs).set j (some x)).set k (some y)) H1 (f i))
    (hd : ∀ H', Evl.Ex H1 H' → H' Dl = some (.lst (kept xs.length keep f)) → Q (.ref Dl) H') : LcG (ItzT K a b) (gTup K 2 (gCons (gName j) (gCons (gName k) gNil))) tt te vs σ Dl H1 Q := by
  have gx : ∀ i, i < xs.length → xs[i]? = some (xs.getD i .non) := fun i hi => by rw [List.getD_eq_getElem?_getD, List.getElem?_eq_getElem hi]; rfl
  have gy : ∀ i, i < xs.length → ys[i]? = some (ys.getD i .non) := fun i hi => by rw [List.getD_eq_getElem?_getD, List.getElem?_eq_getElem (by omega)]; rfl
  refine lc_pure xs.length (fun i => ((wipe σ vs).set j (some (xs.getD i .non))).set k (some (ys.getD i .non))) keep f hD hn (fun H' e => ⟨xs, ys, Evl.ex_t e hx, Evl.ex_t e hy, .inl (Nat.le_refl _)⟩)
    (fun i H' hi e => ⟨xs, ys, _, _, Evl.ex_t e hx, Evl.ex_t e hy, gx i hi, gy i hi⟩)
    (fun i H' x H'' QG hi e y q => ?_) (fun i hi => hw _ _) (fun i hi => ht i _ _ (gx i hi) (gy i hi)) (fun i hi => he i _ _ (gx i hi) (gy i hi)) hd
  obtain ⟨T, u, v, rfl, hT, rfl, hf, hf2⟩ := y
  have hu := hf xs (Evl.ex_t e hx)
  have hv := hf2 ys (Evl.ex_t e hy)
  have e1 : xs.getD i .non = u := by rw [List.getD_eq_getElem?_getD, hu]; rfl
  have e2 : ys.getD i .non = v := by rw [List.getD_eq_getElem?_getD, hv]; rfl
  refine g_two upd_same ?_
  have q2 := q (Evl.Ex.new hT)
  rw [e1, e2] at q2
  exact q2
theorem all_true (n : Nat) : ((List.replicate n true).all id) = true := by
  induction n with
  | zero => rfl
  | succ n ih => rw [List.replicate_succ, List.all_cons, ih]; rfl
theorem kept_const (n : Nat) (v : V) : kept n (fun _ => true) (fun _ => v) = List.replicate n v := by
  rw [kept_all]
  apply List.ext_getElem?
  intro j
  rw [List.getElem?_map]
  by_cases h : j < n
  · rw [List.getElem?_range h, List.getElem?_replicate, if_pos h]
    rfl
  · rw [List.getElem?_eq_none (by rw [List.length_range]; omega), List.getElem?_eq_none (by rw [List.length_replicate]; omega)]
    rfl
end
end BC

set_option Elab.async false
set_option linter.all false
set_option maxRecDepth 100000
set_option maxHeartbeats 4000000
/-! repr of lists wants to know that no repr is under way around: promises that hold where nothing is guarded -/
namespace BC
open PySem PySem.Spec PyProof.Rows L2 Evl
/-- nothing is guarded around -/
def G0 (A : Around) : Prop := A.guards = some []
theorem G0.deeper {A : Around} (g : G0 A) (env : Env) : G0 (A.deeper env) := g
/-- FnOk where nothing is guarded around -/
structure FnG (P : Program) (w : World) (K : PySem.W.Frag) (mg : Str → Option Value) (base : Heap) (CX : CXT) (k : Nat) (f : Addr) (fd : FuncData) (ps : List Str) (sp : Sp) : Prop where
  size : ∀ vs H Q E, sp vs H Q E → vs.length = ps.length
  go : ∀ (A : Around) (outer : List Env) (s : Shared) (H : Hp) (args : Args) (us : List Value) (vs : List V) (Q : VK) (E : XK), G0 A → Room k A → Env0 P w K mg base A outer s H →
    BindsTo s fd args (ps.zip us) → Vals vs us → sp vs H Q E → codeAny (model P w) A (.call (.ref f) args) (CR CX outer P w H s Q E) s
section
variable {P : Program} {w : World} {K : PySem.W.Frag} {mg : Str → Option Value} {base : Heap} {CX : CXT} {k : Nat} {f : Addr} {fd : FuncData} {ps : List Str} {sp : Sp}
theorem FnG.of (F : FnOk P w K mg base CX k f fd ps sp) : FnG P w K mg base CX k f fd ps sp :=
  ⟨F.len, fun A outer s H args us vs Q E _ => F.run A outer s H args us vs Q E⟩
theorem FnG.up (F : FnG P w K mg base CX k f fd ps sp) {j : Nat} (h : k ≤ j) : FnG P w K mg base CX j f fd ps sp :=
  ⟨F.size, fun A outer s H args us vs Q E g hr => F.go A outer s H args us vs Q E g (hr.mono h)⟩
/-- the rule for a def -/
theorem fun_okG {x qual : Str} {st : Stmt} {N : List Str} (F : Fun K x qual st f fd) (S : FnScope N ps (defScope st)) (size : ∀ vs H Q E, sp vs H Q E → vs.length = ps.length)
    (body : ∀ (cdv : Value) (A : Around) (outer : List Env) (s : Shared) (H : Hp) (vs : List V) (Q : VK) (E : XK), G0 (A.deeper (envOfC qual (defScope st) s.heap.objs.size f cdv)) → Room k (A.deeper (envOfC qual (defScope st) s.heap.objs.size f cdv)) → sp vs H Q E →
      ∃ t, PSs (cxOf CX P w K mg base N qual (defScope st) f cdv A outer s H E) (defBody st) t ∧ t { nx := fun _ H' => Q .non H', rt := Q } (start N vs) H) : FnG P w K mg base CX (k + 1) f fd ps sp := by
  obtain ⟨oc, od, kV, doc, pm, an, cdv, ct, osl, rfl, lk, hcd⟩ := F.ex
  refine ⟨size, fun A outer s H args us vs Q E g room env bind vals prom => ?_⟩
  have inK : K.In s.heap := env.mod.kin.keeps fun b o q => (env.bs b o q).1
  have loose : s.heap.NoLimit := env.mod.nolimit.keeps fun b o q => (env.bs b o q).1
  have kinds : ∀ z ∈ ps.zip us, (defScope st).names.lookup z.1 = some .local ∨ ((defScope st).names.lookup z.1 = some .cell ∧ ((cellsFrom (s.heap.objs.size + 1) (defScope st).names []).lookup z.1).isSome = true) := by
    rintro ⟨n, v⟩ hz
    have hn := (List.of_mem_zip hz).1
    rcases S.par n hn with h | h
    · exact Or.inl h
    · exact Or.inr ⟨h, PySem.W.cellsFrom_some _ _ _ (Or.inl h)⟩
  refine codeAny_call_function room.depth (inK _ _ lk) rfl S.co S.gen rfl (PySem.W.codeRec_of inK hcd) (bind _ _ _ _ ?_)
  refine wpAny_newFunctionEnv_cells S.kind kinds fun env' e1 s1 into => ?_
  subst e1
  refine ⟨loose.keeps into.toInCall.keep, codeAny_func ?_⟩
  obtain ⟨t, deriv, read⟩ := body cdv A outer s H vs Q E (g.deeper _) (room.deeper _) prom
  have I := inv_start (CX := CX) (E := E) S room.hd env (size _ _ _ _ prom) vals into
  refine wpAny_mono (deriv.run [] s1 (start N vs) H _ I read) (fun flow s' ends => ?_) fun _ _ q => q
  have done : ∀ {σ2 : L2.St} {H2 : Hp} {v : V} {u : Value}, Inv (cxOf CX P w K mg base N qual (defScope st) f cdv A outer s H E) [] σ2 H2 s' → RelV v u → Q v H2 → CE outer P w H s Q u s' := by
    intro σ2 H2 v u J rel q
    exact ⟨v, H2, J.os, J.bare, J.base, J.hok, rel, q⟩
  match flow, ends with
  | .ret u, ends =>
    obtain ⟨v, σ2, H2, J, rel, q⟩ := ends
    exact done J rel q
  | .next, ends =>
    obtain ⟨σ2, H2, J, q⟩ := ends
    exact done (v := V.non) (u := Value.none) J rfl q
  | .brk, ends =>
    obtain ⟨_, _, _, q⟩ := ends
    exact q.elim
  | .cont, ends =>
    obtain ⟨_, _, _, q⟩ := ends
    exact q.elim
end
section
variable {X : Cx} {CX : CXT} {k : Nat} {f : Addr} {fd : FuncData} {ps : List Str} {sp : Sp} {dvs : List V} {ds : List Value} {E : XK} {x : Str} {p pos : Pos} {e : Expr} {es : List Expr} {t : TA}
theorem call_G {pins : List (Addr × Obj)} {σ : L2.St} {H : Hp} {s : Shared} {Q : VK} {us : List Value} {vs : List V} (F : FnG X.prog X.w X.K X.mg X.base CX k f fd ps sp) (g : G0 X.A) (hr : Room k X.A) (hb : Binds X.K fd ps ds) (hd : Vals dvs ds)
    (hx : Passes CX X E) (I : Inv X pins σ H s) (r : Vals vs us) (h : sp (vs ++ dvs) H Q E) : wpAny (model X.prog X.w) X.A (call (.ref f) us) (EP X pins σ Q) X.xe s := by
  have both : Vals (vs ++ dvs) (us ++ ds) := r.append hd
  have many : (us ++ ds).length = ps.length := both.length.symm.trans (F.size _ _ _ _ h)
  have run := F.go X.A X.stack s H ⟨us, []⟩ (us ++ ds) (vs ++ dvs) Q E g hr I.env0 (hb s us I.kIn many) both h
  refine wpAny_call (codeAny_mono run fun res s' q => ?_)
  match res, q with
  | .error err, q => exact hx pins σ H s err s' I q
  | .ok (.ret u), q => exact I.after q
theorem pe_callG (F : FnG X.prog X.w X.K X.mg X.base CX k f fd ps sp) (g : G0 X.A) (hr : Room k X.A) (hg : Gl X x) (hm : X.mg x = some (.ref f)) (hk : PySem.W.keepIn X.K (.ref f) = true) (hb : Binds X.K fd ps ds) (hd : Vals dvs ds) (hx : Passes CX X E)
    (ha : PA X (e :: es) t) (hdb : (x == ("__debug__" : Str)) = false := by decide) (he : starEach (e :: es) X.env = (false, eval e X.env) :: starEach es X.env := by rfl) (hpl : (backTo pos (starEach es X.env)).any (·.1) = false := by rfl) :
    PE X (.Call (.Name x p) (e :: es) [] pos) (tCall sp dvs E t) := by
  constructor
  intro pins s σ H Q I h
  have args := ha.run pos pins s σ H _ I h
  refine wpAny_Call_Name_kw (ld_glob I hg hm (PySem.W.callWith_K (h₀ := X.base) I.ok.mod.kin hk (thn args ?_) he hpl) hdb)
  rintro us s1 ⟨vs, H1, I1, r, q⟩
  exact ⟨I1.kIn, call_G F g hr hb hd hx I1 r q⟩
end

/-! ### the law's own call, for a promise of this kind -/
section
variable {P : Program} {w : World} {K : PySem.W.Frag} {mg mb : Str → Option Value} {k : Nat} {fa a : Addr} {fd : FuncData} {x : Str} {sp : Sp} {s : Shared} {vs : List Value} {ns : List Int}
/-- the abstract heap at the entry: the script alone, locked; or nothing, where the script is the module's own -/
def entryH (a : Addr) (vs : List Value) (ns : List Int) (own : Bool) : Hp := fun b => if own = false ∧ b = a then some (.frz { cls := .type "list", data := .seq vs.toArray } (.lst (ns.map V.int))) else none
theorem entry_other {own : Bool} {b : Addr} (h : b ≠ a) : entryH a vs ns own b = none := if_neg fun z => h z.2
theorem entry_own {b : Addr} : entryH a vs ns true b = none := if_neg fun z => nomatch z.1
theorem entry_at : entryH a vs ns false a = some (.frz { cls := .type "list", data := .seq vs.toArray } (.lst (ns.map V.int))) := if_pos ⟨rfl, rfl⟩
theorem entry_case {own : Bool} {b : Addr} {o : HO} (h : entryH a vs ns own b = some o) : own = false ∧ b = a ∧ o = .frz { cls := .type "list", data := .seq vs.toArray } (.lst (ns.map V.int)) := by
  unfold entryH at h
  by_cases q : own = false ∧ b = a
  · rw [if_pos q] at h
    exact ⟨q.1, q.2, (Option.some.inj h).symm⟩
  · rw [if_neg q] at h
    cases h
theorem law_goG (hK : K.In s.heap) (hns : s.heap.Ns mainGlobals mg) (hb : s.heap.Ns builtinsNs mb) (hbb : ∀ x : Str, x ≠ "__name__" → mb x = bootBuiltins x) (hlim : s.heap.NoLimit) (hg : s.gens = #[])
    (ha : s.heap.get? a = some { cls := .type "list", data := .seq vs.toArray }) (hi : IntsAre vs ns) (hl : ns.length ≤ sizeLine) (hr : Room k callerA)
    (F : ∀ base : Heap, K.In base → base.Ns mainGlobals mg → FnG P w K mg base CX0 k fa fd [x] sp) (bind : ∀ (s : Shared) (u : Value), BindsTo s fd ⟨[u], []⟩ [(x, u)])
    (prom : ∀ H : Hp, SqL K H a (ns.map V.int) → sp [.ref a] H (fun v _ => v = .bl true) fun _ _ _ => False) :
    codeAny (model P w) callerA (.call (.ref fa) ⟨[.ref a], []⟩) (fun r s' => r = .ok (.ret (.bool true)) ∧ OldK s.heap s'.heap ∧ s'.os = s.os ∧ AllBare s'.gens) s := by
  have rv := vals_ints hi
  have many := hi.length
  obtain ⟨own, hown⟩ : ∃ own : Bool, own = (K.lookup a).isSome := ⟨_, rfl⟩
  let H : Hp := entryH a vs ns own
  have reads : SqL K H a (ns.map V.int) := by
    cases q : K.lookup a with
    | none =>
      have e : own = false := by rw [hown, q]; rfl
      exact Or.inl (Or.inr ⟨_, by show entryH a vs ns own a = _; rw [e]; exact entry_at⟩)
    | some o =>
      have z := hK a o q
      rw [ha] at z
      cases z
      refine Or.inr ⟨_, vs.toArray, _, q, rfl, rfl, rfl, ?_, ?_⟩
      · rw [List.size_toArray, many]
        exact hl
      · exact rv
  have held : HOk P w H s.heap := fun b o q => by
    obtain ⟨_, rfl, rfl⟩ := entry_case q
    exact ⟨ha, by rw [List.length_map]; exact hl, vs, _, rv, ha⟩
  have spare : ∀ {b : Addr} {o : Obj}, s.heap.get? b = some o → (∀ u n, o.data ≠ .seq u n) → H b = none := fun {b o} e d => by
    cases q : H b with
    | none => rfl
    | some u =>
      obtain ⟨_, rfl, _⟩ := entry_case q
      rw [ha] at e
      cases e
      exact absurd rfl (d _ _)
  have nsT : ∀ {b : Addr} {m : Str → Option Value}, s.heap.Ns b m → (hidT s.heap H).Ns b m := by
    rintro b m ⟨o, es, ep, e, d, r⟩
    exact ⟨o, es, ep, hidT_get e (spare e fun u n z => by rw [d] at z; cases z), d, r⟩
  have kT : K.In (hidT s.heap H) := fun b o e => hidT_get (hK b o e) (by
    cases q : H b with
    | none => rfl
    | some u =>
      obtain ⟨z, rfl, _⟩ := entry_case q
      rw [hown, e] at z
      cases z)
  have module : Mod K mg (hidT s.heap H) := ⟨kT, nsT hns, ⟨mb, nsT hb, hbb⟩, by obtain ⟨mc, h1, h2⟩ := hlim; exact ⟨mc, nsT h1, h2⟩⟩
  have entry : Env0 P w K mg (hidT s.heap H) callerA [] s H :=
    ⟨rfl, module, fun b o e => of_hidT e, Nat.le_of_eq (hidT_size _ _), trivial, fun b z => (List.not_mem_nil z).elim, held, .of_eq hg⟩
  have ran := (F _ kT (nsT hns)).go callerA [] s H ⟨[.ref a], []⟩ [.ref a] [.ref a] _ _ rfl hr entry (bind s (.ref a)) (.cons rfl .nil) (prom H reads)
  refine codeAny_mono ran fun r s' q => ?_
  match r, q with
  | .ok (.ret u), q =>
    obtain ⟨v, H', os, bare, un, held', rel, fin⟩ := q
    obtain rfl : v = .bl true := fin
    obtain rfl : u = Value.bool true := rel
    refine ⟨rfl, OldK.of_keep fun b o e => ?_, os, bare⟩
    cases q : H b with
    | none => exact un.keep b o e q (fun z => (List.not_mem_nil z).elim) List.not_mem_nil
    | some u =>
      obtain ⟨_, rfl, rfl⟩ := entry_case q
      have z := (held' _ _ (un.frzs _ _ _ q)).1
      rw [ha] at e
      cases e
      exact z
theorem walk_G {l : PySem.W.OpenLaw} {n k : Nat} {q : Program} {loose : List Str} {XP : (Str → Option Value) → Heap → Prop} {YP : World → Heap → Prop} {d : DefRec} {K : Params → PySem.W.Frag} {sp : World → Sp} {x : Str}
    (hn : l.most = some n) (hn2 : n ≤ sizeLine) (hdf : d.params.defaults = []) (hr : Room k callerA) (hY : ∀ (w : World) (h : Heap), YP w h → (K w.params).In h)
    (F : ∀ (w : World) (mg : Str → Option Value) (fa : Addr) (h : Heap), (K w.params).In h → h.Ns mainGlobals mg → mg d.name = some (.ref fa) →
      ∃ fd : FuncData, (∀ (s : Shared) (u : Value), BindsTo s fd ⟨[u], []⟩ [(x, u)]) ∧ ∀ base : Heap, (K w.params).In base → base.Ns mainGlobals mg → FnG l.prog w (K w.params) mg base CX0 k fa fd [x] (sp w))
    (prom : ∀ (w : World) (H : Hp) (a : Addr) (ns : List Int), ns.length ≤ n → SqL (K w.params) H a (ns.map V.int) → sp w [.ref a] H (fun v _ => v = .bl true) fun _ _ _ => False) :
    PySem.W.WalkO q loose XP YP l.row.toRowW d [] (fun f vs => PySem.call f vs) := by
  refine Att.attach_call hn hdf ?_
  intro w s0 s1 mg mb fa o pm cd doc a vs ns G Y _ hd hcd hmg hobj hints hlen hg
  have inK := hY w _ Y
  obtain ⟨fd, bind, keep⟩ := F w mg fa _ inK G.T.g hmg
  exact law_goG inK G.T.g G.T.b G.T.builtins G.T.nolimit hg hobj hints (Nat.le_trans hlen hn2) hr keep bind fun H hS => prom w H a ns hlen hS
end
end BC

set_option Elab.async false
set_option linter.all false
set_option maxRecDepth 100000
set_option maxHeartbeats 4000000
/-! repr, keywords, more readings -/
namespace BC
open PySem PySem.Spec PyProof.Rows L2 Evl
section
variable {X : Cx} {K : PySem.W.Frag} {σ : L2.St} {H : Hp} {Q : VK}
/-- repr of lists, tuples and what lies in them -/
def rRepr (K : PySem.W.Frag) : List V → Hp → VK → Prop := fun xs H Q => ∃ a d, xs = [.ref a] ∧ Dp K H (.ref a) d ∧ d.showable = true ∧ d.depth ≤ 60 ∧ d.hasDict = false ∧ d.shown.length ≤ sizeLine ∧ Q (.str d.shown) H
theorem k_repr (hK : X.K = K) (g : G0 X.A) (hu : X.A.units + 64 < cLine) : CallR X (.builtin "repr") (rRepr K) := by
  subst hK
  intro pins s σ H xs us Q I r h
  obtain ⟨a, d, rfl, hd, h1, h2, h3, h4, q⟩ := h
  obtain ⟨u, rfl, rfl⟩ := vals1 r
  obtain ⟨as, rd⟩ := Dp.reads I d (.ref a) (.ref a) hd rfl
  exact repr_of_reads' rd h1 (PyData.noDict_hsm h3) g (by omega) (fun _ _ e => e) (fun h' u tk hk => ⟨.str _, H, I.kept hk, ⟨_, rfl⟩, q⟩) h4
def rIsB : R2 := fun x y H Q => ∃ a b, x = .bl a ∧ y = .bl b ∧ Q (.bl (decide (a = b))) H
def rIsNB : R2 := fun x y H Q => ∃ a b, x = .bl a ∧ y = .bl b ∧ Q (.bl (!decide (a = b))) H
theorem op_isB : OpR X (compareOp .Is) rIsB := op_is_bl
theorem op_isNB : OpR X (compareOp .IsNot) rIsNB := op_isnot_bl
theorem x_isB {a b : Bool} : rIsB (.bl a) (.bl b) H Q ↔ Q (.bl (decide (a = b))) H := ⟨fun ⟨i, j, e1, e2, q⟩ => by cases e1; cases e2; exact q, fun q => ⟨a, b, rfl, rfl, q⟩⟩
theorem x_isNB {a b : Bool} : rIsNB (.bl a) (.bl b) H Q ↔ Q (.bl (!decide (a = b))) H := ⟨fun ⟨i, j, e1, e2, q⟩ => by cases e1; cases e2; exact q, fun q => ⟨a, b, rfl, rfl, q⟩⟩
theorem x_lrg {te : L2.St → Hp → (Int → Int → Hp → Prop) → Prop} : tLstRg te σ H Q = te σ H fun a b H1 => RgOk a b ∧ ∀ q, H1 q = none → Q (.ref q) (upd H1 q (.lst (rgV a b))) := rfl
theorem x_rg1 {ta : TE} {R : Int → Int → Hp → Prop} : tRg1 ta σ H R = ta σ H fun x H1 => ∃ n, x = .int n ∧ R 0 n H1 := rfl
theorem x_rg2 {ta tb : TE} {R : Int → Int → Hp → Prop} : tRg2 ta tb σ H R = ta σ H fun x H1 => tb σ H1 fun y H2 => ∃ i j, x = .int i ∧ y = .int j ∧ R i j H2 := rfl
end
theorem Fx.mut {b r : Addr} {H H' : Hp} {o : HO} (f : Fx b H H') (n : H r = none) : Fx b H (upd H' r o) := fun a u na h => by rw [upd_ne (ne_of_none h n)]; exact f a u na h
theorem fx_none {b x : Addr} {H H' : Hp} (h : Fx b H H') (n : H' x = none) (nb : x ≠ b) : H x = none := by
  cases e : H x with
  | none => rfl
  | some o => rw [h _ _ nb e] at n; cases n
/-- a promise that asks for more -/
theorem weak {P : Program} {w : World} {K : PySem.W.Frag} {mg : Str → Option Value} {base : Heap} {CX : CXT} {k : Nat} {f : Addr} {fd : FuncData} {ps : List Str} {sp sp' : Sp} (F : FnOk P w K mg base CX k f fd ps sp) (h : ∀ vs H Q E, sp' vs H Q E → sp vs H Q E) : FnOk P w K mg base CX k f fd ps sp' :=
  ⟨fun vs H Q E q => F.len vs H Q E (h _ _ _ _ q), fun A outer s H args us vs Q E hr env bind vals q => F.run A outer s H args us vs Q E hr env bind vals (h _ _ _ _ q)⟩
/-! ### a cut: what stands after one statement -/
section
variable {σ : L2.St} {H : Hp} {D : Ends} {ta : TE} {s1 s2 : TS} {i : Nat}
theorem seq_asg (C : V → Hp → Prop) (h1 : ∀ R : VK, (∀ v H', C v H' → R v H') → ta σ H R) (h2 : ∀ v H', C v H' → s2 D (σ.set i (some v)) H') : tSeq (tAsg ta (gName i)) s2 D σ H := h1 _ h2
theorem seq_cut (C : L2.St → Hp → Prop) (h1 : ∀ N : L2.St → Hp → Prop, (∀ σ' H', C σ' H' → N σ' H') → s1 { D with nx := N } σ H) (h2 : ∀ σ' H', C σ' H' → s2 D σ' H') : tSeq s1 s2 D σ H := h1 _ h2
end
/-! ### keywords -/
def kg {α : Type} (d : α) (a b : Nat) (perm : List Nat) (us ws : List α) : List α := if us.length = a ∧ ws.length = b then perm.map fun i => (us ++ ws).getD i d else []
theorem vals_getD : ∀ {vs : List V} {us : List Value}, Vals vs us → ∀ i, RelV (vs.getD i .non) (us.getD i .none)
  | [], [], .nil, _ => rfl
  | _ :: _, _ :: _, .cons h _, 0 => h
  | _ :: _, _ :: _, .cons _ r, i + 1 => vals_getD r i
theorem vals_perm {vs : List V} {us : List Value} (r : Vals vs us) : ∀ p : List Nat, Vals (p.map fun i => vs.getD i .non) (p.map fun i => us.getD i .none)
  | [] => .nil
  | i :: p => .cons (vals_getD r i) (vals_perm r p)
theorem kg_rel {a b : Nat} {p : List Nat} {vs : List V} {us : List Value} {zs : List V} {ws : List Value} (r : Vals vs us) (z : Vals zs ws) : Vals (kg .non a b p vs zs) (kg .none a b p us ws) := by
  unfold kg
  rw [r.length, z.length]
  split
  · exact vals_perm (r.append z) p
  · exact .nil
theorem kg_mk {K : PySem.W.Frag} {fd : FuncData} {q : Str} {ps ks : List Str} {a b : Nat} {p : List Nat} (h : ∀ us ws : List Value, us.length = a → ws.length = b → bindArgs fd ⟨us, ks.zip ws⟩ = pure ((q :: ps).zip (p.map fun i => (us ++ ws).getD i .none))) :
    KBinds K fd (q :: ps) ks (kg .none a b p) (kg .non a b p) := by
  refine ⟨fun s us ws _ hl => ?_, kg_rel⟩
  unfold kg at hl ⊢
  split at hl
  · next c =>
    rw [if_pos c]
    exact .of_eq (h us ws c.1 c.2)
  · cases hl
theorem fun_okN {P : Program} {w : World} {K : PySem.W.Frag} {mg : Str → Option Value} {base : Heap} {CX : CXT} {k : Nat} {f : Addr} {fd : FuncData} {ps : List Str} {sp : Sp} {x qual : Str} {st : Stmt} {N : List Str} (F : Fun K x qual st f fd) (S : FnScope N ps (defScope st)) (size : ∀ vs H Q E, sp vs H Q E → vs.length = ps.length)
    (body : ∀ (cdv : Value) (A : Around) (outer : List Env) (s : Shared) (H : Hp) (vs : List V) (Q : VK) (E : XK), G0 (A.deeper (envOfC qual (defScope st) s.heap.objs.size f cdv)) → Room k (A.deeper (envOfC qual (defScope st) s.heap.objs.size f cdv)) → sp vs H Q E →
      ∃ t, PSs (cxOf CX P w K mg base N qual (defScope st) f cdv A outer s H E).nox (defBody st) t ∧ t { nx := fun _ H' => Q .non H', rt := Q } (start N vs) H) : FnG P w K mg base CX (k + 1) f fd ps sp :=
  fun_okG F S size fun cdv A outer s H vs Q E hG hr h => let ⟨t, d, q⟩ := body cdv A outer s H vs Q E hG hr h; ⟨t, d.nox, q⟩
theorem Fun.kb {K : PySem.W.Frag} {x qual q : Str} {st : Stmt} {f : Addr} {fd : FuncData} {ps ks : List Str} {a b : Nat} {p : List Nat} (F : Fun K x qual st f fd)
    (h : ∀ (kV doc pm : Value) (an : Option Addr) (cdv ct : Value) (us ws : List Value), us.length = a → ws.length = b → bindArgs (PySem.W.fnOf x qual (defArgs st) (defBody st) (defScope st) .none kV doc pm an cdv ct) ⟨us, ks.zip ws⟩ = pure ((q :: ps).zip (p.map fun i => (us ++ ws).getD i .none))) :
    KBinds K fd (q :: ps) ks (kg .none a b p) (kg .non a b p) := by
  obtain ⟨oc, od, kV, doc, pm, an, cdv, ct, osl, rfl, lk, hcd⟩ := F.ex
  exact kg_mk (h kV doc pm an cdv ct)
section
variable {X : Cx} {CX : CXT} {k : Nat} {f : Addr} {fd : FuncData} {ps ks : List Str} {sp : Sp} {E : XK} {x : Str} {p pos : Pos} {e : Expr} {es : List Expr} {kws : List Keyword} {t tk : TA} {g : List Value → List Value → List Value} {gV : List V → List V → List V}
theorem pe_callK0 (F : FnOk X.prog X.w X.K X.mg X.base CX k f fd ps sp) (hr : Room k X.A) (hg : Gl X x) (hm : X.mg x = some (.ref f)) (hk : PySem.W.keepIn X.K (.ref f) = true) (hb : KBinds X.K fd ps ks g gV) (hx : Passes CX X E)
    (hkw : PK X kws tk) (hall : (backToKw pos (keywordEach kws X.env)).all (·.1.isSome) = true := by rfl) (hks : (backToKw pos (keywordEach kws X.env)).filterMap (·.1) = ks := by rfl)
    (hdb : (x == ("__debug__" : Str)) = false := by decide)
    (hpl : ((backTo pos (starEach [] X.env)).any (·.1) || (backToKw pos (keywordEach kws X.env)).any (·.1.isNone)) = false := by rfl) :
    PE X (.Call (.Name x p) [] kws pos) (tCallK sp gV E tNil tk) := by
  refine ⟨fun pins s σ H Q I h => ?_⟩
  refine wpAny_Call_Name_kw (ld_glob I hg hm ?_ hdb)
  refine PySem.W.callWith_KW0 (h₀ := X.base) I.ok.mod.kin hk hall (thn (hkw.run pos pins s σ H _ I h) fun ws s2 ⟨zs, H2, I2, rz, q2⟩ => ⟨I2.kIn, ?_⟩) hpl
  rw [hks]
  exact run_fnk F hr hb hx I2 .nil rz q2
theorem run_fnkG {pins : List (Addr × Obj)} {σ : L2.St} {H : Hp} {s : Shared} {Q : VK} {us ws : List Value} {vs zs : List V} (F : FnG X.prog X.w X.K X.mg X.base CX k f fd ps sp) (g0 : G0 X.A) (hr : Room k X.A) (hb : KBinds X.K fd ps ks g gV) (hx : Passes CX X E)
    (I : Inv X pins σ H s) (r : Vals vs us) (rz : Vals zs ws) (h : sp (gV vs zs) H Q E) : wpAny (model X.prog X.w) X.A (call (.ref f) us (ks.zip ws)) (EP X pins σ Q) X.xe s := by
  have r2 := hb.rel r rz
  have hl : (g us ws).length = ps.length := by rw [← r2.length]; exact F.size _ _ _ _ h
  refine wpAny_call (codeAny_mono (F.go X.A X.stack s H ⟨us, ks.zip ws⟩ (g us ws) (gV vs zs) Q E g0 hr I.env0 (hb.to s us ws I.kIn hl) r2 h) fun r s' hq => ?_)
  cases r with
  | error e => exact hx pins σ H s e s' I hq
  | ok fl =>
    cases fl with
    | ret u => exact I.after hq
    | next => exact False.elim hq
    | brk => exact False.elim hq
    | cont => exact False.elim hq
theorem pe_callKG (F : FnG X.prog X.w X.K X.mg X.base CX k f fd ps sp) (g0 : G0 X.A) (hr : Room k X.A) (hg : Gl X x) (hm : X.mg x = some (.ref f)) (hk : PySem.W.keepIn X.K (.ref f) = true) (hb : KBinds X.K fd ps ks g gV) (hx : Passes CX X E)
    (ha : PA X (e :: es) t) (hkw : PK X kws tk) (hall : (backToKw pos (keywordEach kws X.env)).all (·.1.isSome) = true := by rfl) (hks : (backToKw pos (keywordEach kws X.env)).filterMap (·.1) = ks := by rfl)
    (hdb : (x == ("__debug__" : Str)) = false := by decide) (he : starEach (e :: es) X.env = (false, eval e X.env) :: starEach es X.env := by rfl)
    (hpl : ((backTo pos (starEach (e :: es) X.env)).any (·.1) || (backToKw pos (keywordEach kws X.env)).any (·.1.isNone)) = false := by rfl) :
    PE X (.Call (.Name x p) (e :: es) kws pos) (tCallK sp gV E t tk) := by
  refine ⟨fun pins s σ H Q I h => ?_⟩
  refine wpAny_Call_Name_kw (ld_glob I hg hm ?_ hdb)
  refine PySem.W.callWith_KW (h₀ := X.base) I.ok.mod.kin hk hall (thn (ha.run pos pins s σ H _ I h) fun us s1 ⟨vs, H1, I1, r, q⟩ => ?_) hpl he
  refine thn (hkw.run pos pins s1 σ H1 _ I1 q) fun ws s2 ⟨zs, H2, I2, rz, q2⟩ => ⟨I2.kIn, ?_⟩
  rw [hks]
  exact run_fnkG F g0 hr hb hx I2 r rz q2
end
end BC

set_option Elab.async false
set_option linter.all false
set_option maxRecDepth 100000
set_option maxHeartbeats 4000000
/-! xs[:] = ys -/
namespace BC
open PySem PySem.Spec PyProof.Rows L2 Evl
theorem bounds_all (n : Nat) : sliceBounds none none none n = (((0 : Nat) : Int), ((n : Nat) : Int), 1) := by
  simp [sliceBounds]
section
variable {prog : Program} {w : World} {A : Around} {s : Shared} {E : Value → Shared → Prop}
theorem setItem_all {l b sl : Addr} {items new : Array Value} {n n2 : Nat} {vl vu : Value} {Q : Unit → Shared → Prop}
    (e : s.heap.get? l = some { cls := .type "list", data := .seq items n }) (e2 : s.heap.get? b = some { cls := .type "list", data := .seq new n2 }) (hne : l ≠ b)
    (hs : s.heap.IsSliceOf sl vl vu .none) (pl : IsPart vl none) (pu : IsPart vu none)
    (hsz : items.size + new.size ≤ sizeLine) (h : Q () { s with heap := s.heap.update l (Obj.mapSeq fun xs => xs.extract 0 0 ++ new ++ xs.extract items.size xs.size) }) :
    wpAny (model prog w) A (setItem (.ref l) (.ref sl) (.ref b)) Q E s := by
  have hl : s.heap.IsList l items := PySem.IsL.isList e
  have hb : s.heap.IsList b new := PySem.IsL.isList e2
  obtain ⟨os, hos, hcs, hds⟩ := id hs
  have hTs : s.TypeIs (.ref sl) "slice" := ⟨os, hos, hcs⟩
  have hstep : ¬ ((rawPart none == rawInt 0) = true) := Bool.false_ne_true
  have hsame : Builtin.List.listSameRef (.ref l) (.ref b) = false := by
    unfold Builtin.List.listSameRef
    exact beq_eq_false_iff_ne.mpr hne
  have hmax : (max ((0 : Nat) : Int) ((items.size : Nat) : Int)).toNat = items.size := by omega
  have hz' : ((fun xs : Array Value => xs.extract 0 0 ++ new ++ xs.extract items.size xs.size) items).size ≤ sizeLine + 1 := by
    simp only [Array.size_append, Array.size_extract]
    omega
  unfold setItem
  try with_reducible refine wpAny_holding ?_
  first | refine wpAny_bind (wpAny_pure ?_) | skip
  refine wpAny_bind (wpAny_sequenceKey hl.typeIs (by decide) ?_)
  refine wpAny_bind (wpAny_callSpecial?_slot (name := Str.ofString "__setitem__") hl.typeIs slot_list_setitem
    (wpAny_call_entry slot_list_setitem hl.typeIs entry_list_setitem ?_ (args_list_setitem _ _ _)))
  show wpAny _ _ (Builtin.List.listSubscript? (.ref sl) >>= _) _ _ s
  refine wpAny_bind ?_
  unfold Builtin.List.listSubscript?
  refine wpAny_bind (wpAny_specialOf hTs slice_no_index ?_)
  simp only [Option.isNone_none, if_true]
  refine wpAny_pure ?_
  show wpAny _ _ (typeOf (.ref sl) >>= _) _ _ s
  refine wpAny_bind (wpAny_typeOf hTs ?_)
  first
    | rw [if_neg (by decide)]
    | refine PySem.W.KFB.if_not (by decide) ?_
  rw [listSliceParts_eq]
  refine wpAny_bind (wpAny_bind (wpAny_field hos hds (x := .none) rfl (wpAny_bind (wpAny_listPart .none ?_))))
  rw [if_neg hstep]
  refine wpAny_bind (wpAny_field hos hds (x := vl) rfl (wpAny_bind (wpAny_listPart pl ?_)))
  refine wpAny_bind (wpAny_field hos hds (x := vu) rfl (wpAny_bind (wpAny_listPart pu (wpAny_pure ?_))))
  first
    | simp only [hsame, Bool.false_eq_true, if_false]
    | refine PySem.W.KFB.if_not hsame ?_
    | (dsimp only
       rw [if_neg (by rw [hsame]; exact Bool.false_ne_true)])
  refine wpAny_bind (m := Builtin.List.listAllItems (.ref b) "must assign iterable to extended slice") ?_
  unfold Builtin.List.listAllItems
  refine wpAny_bind (wpAny_typeOf hb.typeIs ?_)
  first
    | refine PySem.W.KFB.if_so (by decide) ?_
    | rw [if_pos (by decide)]
    | simp only [beq_self_eq_true, Bool.true_or, if_true]
  unfold Builtin.List.listItems
  refine wpAny_bind (wpAny_seqItems e2 rfl (wpAny_pure ?_))
  refine wpAny_bind (wpAny_bind (wpAny_seqItems e rfl (wpAny_pure ?_)))
  refine wpAny_bind (wpAny_of_eq ((sliceIndices_raw none none none items.size (by simp)).trans (congrArg (pure : Int × Int × Int → Sem (Int × Int × Int)) (bounds_all items.size))) ?_)
  show wpAny _ _ (if ((1 : Int) == 1) = true then _ else _) _ _ s
  rw [if_pos (by decide)]
  refine wpAny_bind (wpAny_rule ?_)
  first
    | simp only [notLongL hsz, Bool.false_eq_true, if_false]
    | refine PySem.W.KFB.if_not (notLongL hsz) ?_
  first | refine wpAny_bind (wpAny_pure ?_) | skip
  show wpAny _ _ (updateSeq l (fun xs => xs.extract 0 ((0 : Nat) : Int).toNat ++ new ++ xs.extract (max ((0 : Nat) : Int) ((items.size : Nat) : Int)).toNat xs.size) >>= _) _ _ s
  rw [hmax, Int.toNat_natCast]
  refine wpAny_bind (wpAny_updateSeq (hz := Nat.le_trans (Nat.le_add_right _ _) hsz) (_hz' := hz') e rfl ?_)
  refine wpAny_bind (wpAny_letGo ?_)
  first
    | exact wpAny_bind (wpAny_pure (wpAny_pure ⟨.none, rfl, wpAny_pure h⟩))
    | exact wpAny_pure ⟨.none, rfl, wpAny_pure h⟩
end
section
variable {X : Cx} {o e : Expr} {to : TE} {p2 pos : Pos}
/-- o[:] = v, both lists -/
def gAll (to : TE) : TG := fun v σ H QG => to σ H fun x H1 => ∃ a b xs ys, x = .ref a ∧ v = .ref b ∧ a ≠ b ∧ H1 a = some (.lst xs) ∧ H1 b = some (.lst ys) ∧ xs.length + ys.length ≤ sizeLine ∧ QG σ (upd H1 a (.lst ys))
theorem set_all {pins : List (Addr × Obj)} {s : Shared} {σ : L2.St} {H : Hp} {l b sl : Addr} {xs ys : List V} {vl vu : Value} {Q : Unit → Shared → Prop} (I : Inv X pins σ H s)
    (hH : H l = some (.lst xs)) (hB : H b = some (.lst ys)) (hne : l ≠ b) (hs : s.heap.IsSliceOf sl vl vu .none) (pl : IsPart vl none) (pu : IsPart vu none)
    (hz : xs.length + ys.length ≤ sizeLine) (h : ∀ s', Inv X pins σ (upd H l (.lst ys)) s' → Q () s') :
    wpAny (model X.prog X.w) X.A (setItem (.ref l) (.ref sl) (.ref b)) Q X.xe s := by
  obtain ⟨z, its, n, r, hl, e⟩ := I.lstM hH
  obtain ⟨z2, its2, n2, r2, hl2, e2⟩ := I.lstM hB
  refine setItem_all e e2 hne hs pl pu (by rw [List.size_toArray, List.size_toArray]; omega) (h _ ?_)
  refine I.lset (its' := its2) (t' := s.toks) hH e ?_ r2 (by omega)
  simp
theorem pg_all (ho : PE X o to)
    (ha0 : ∀ v, assign (.Subscript o (.Slice none none none p2) pos) X.env v = (do
      let ov ← holding [v] (eval o X.env)
      let iv ← holding [v, ov] (eval (.Slice none none none p2) X.env)
      standAt pos
      holding [v, ov, iv] (setItem ov iv v)
      release [iv, v, ov] []) := by intro _; rfl) : PG X (.Subscript o (.Slice none none none p2) pos) (gAll to) := by
  refine ⟨fun pins s σ H v u Q I r h => ?_⟩
  rw [ha0]
  refine wpAny_bind (wpAny_holding (thn (ho.run pins s σ H _ I h) fun ov s1 ⟨x, H1, I1, r1, q1⟩ => ?_))
  obtain ⟨a, b, xs, ys, rfl, rfl, hne, ha, hb, hz, q⟩ := q1
  cases r1
  cases r
  refine wpAny_bind (wpAny_holding ?_)
  refine wpAny_Slice ?_
  rw [evalPart_none]
  refine wpAny_pure ?_
  refine wpAny_pure ?_
  refine wpAny_pure ?_
  have I4 : Inv X pins σ H1 { s1 with heap := s1.heap.push { cls := .type "slice", data := .fields #[.none, .none, .none] } } := I1.kept (t' := s1.toks) fun b ob q => Heap.get?_push_of_some _ q
  refine wpAny_bind (wpAny_standAt (wpAny_bind (wpAny_holding ?_)))
  refine set_all I4 ha hb hne (Heap.IsSliceOf.new ..) .none .none hz fun s' I5 => ?_
  exact wpAny_release ⟨σ, _, I5, q⟩
def rDivmod : List V → Hp → VK → Prop := fun xs H Q => ∃ i j, xs = [.int i, .int j] ∧ CDivW i j ∧ ∀ p, H p = none → Q (.ref p) (upd H p (.tup [.int (i / j), .int (i % j)]))
theorem call_dmX : CallR X (.builtin "divmod") rDivmod := by
  intro pins s σ H xs us Q I r h
  obtain ⟨i, j, rfl, hc, q⟩ := h
  obtain ⟨u, u2, rfl, ⟨t, rfl⟩, ⟨t2, rfl⟩⟩ := vals2 r
  have pos : 0 < j := hc.1
  have new := I.hok.fresh (Nat.le_refl s.heap.objs.size)
  refine divmod_int (by omega) ?_ (.inl (PyProof.noPylong_of_log2 hc.2))
  rw [Int.fdiv_eq_ediv_of_nonneg i (by omega), Int.fmod_eq_emod_of_nonneg i (by omega)]
  refine ⟨.ref s.heap.objs.size, _, ?_, rfl, q _ new⟩
  refine I.laid (fun b o e => Heap.get?_push_of_some _ e) (Nat.le_refl _) ⟨?_, [.int (i / j) s.toks, .int (i % j) (s.toks + 1)], .cons ⟨_, rfl⟩ (.cons ⟨_, rfl⟩ .nil), ?_⟩
  · exact Evl.sz_of (by simp)
  · exact ⟨_, Heap.get?_push_size s.heap rfl, rfl, 0, rfl⟩
theorem x_gall {σ : L2.St} {H : Hp} {v : V} {QG : L2.St → Hp → Prop} : gAll to v σ H QG = to σ H fun x H1 => ∃ a b xs ys, x = .ref a ∧ v = .ref b ∧ a ≠ b ∧ H1 a = some (.lst xs) ∧ H1 b = some (.lst ys) ∧ xs.length + ys.length ≤ sizeLine ∧ QG σ (upd H1 a (.lst ys)) := rfl
end
end BC

set_option Elab.async false
set_option linter.all false
set_option maxRecDepth 100000
set_option maxHeartbeats 4000000
/-! comprehensions that change what stands, or whose values are chosen as they come -/
namespace BC
open PySem PySem.Spec PyProof.Rows L2 Evl
section
variable {K : PySem.W.Frag} {σ : L2.St} {H1 : Hp} {g : TG} {te : TE} {vs : List Nat} {Dl : Addr} {Q : VK}
theorem lc_rngE {lo : Int} {n : Nat} (Pv : Nat → Hp → Prop) (h0 : Pv 0 (upd H1 Dl (.lst [])))
    (hs : ∀ i H, i < n → Pv i H → g (.int (lo + i)) (wipe σ vs) H fun σ2 H2 => wipe σ2 vs = wipe σ vs ∧ te σ2 H2 fun y H4 => ∃ acc, H4 Dl = some (.lst acc) ∧ acc.length < sizeLine ∧ Pv (i + 1) (upd H4 Dl (.lst (acc ++ [y]))))
    (hd : ∀ H, Pv n H → Q (.ref Dl) H) : LcG (Itr lo n) g tYes te vs σ Dl H1 Q := by
  refine lc_g n Pv h0 (fun H h => Nat.le_refl _) (fun i H hi h => hi) (fun i H x H' hi h y => ?_) hd
  obtain ⟨rfl, rfl⟩ := y
  have q := hs i _ hi h
  exact q
theorem lc_listE {a : Addr} {xs : List V} (Pv : Nat → Hp → Prop) (h0 : Pv 0 (upd H1 Dl (.lst []))) (hl : ∀ i H, i ≤ xs.length → Pv i H → SqL K H a xs)
    (hs : ∀ i x H, xs[i]? = some x → Pv i H → g x (wipe σ vs) H fun σ2 H2 => wipe σ2 vs = wipe σ vs ∧ te σ2 H2 fun y H4 => ∃ acc, H4 Dl = some (.lst acc) ∧ acc.length < sizeLine ∧ Pv (i + 1) (upd H4 Dl (.lst (acc ++ [y]))))
    (hd : ∀ H, Pv xs.length H → Q (.ref Dl) H) : LcG (Itl K a) g tYes te vs σ Dl H1 Q := by
  refine lc_g xs.length Pv h0 (fun H h => ⟨xs, hl _ H (Nat.le_refl _) h, Nat.le_refl _⟩) (fun i H hi h => ⟨xs, xs[i], hl i H (by omega) h, List.getElem?_eq_getElem hi⟩) (fun i H x H' hi h y => ?_) hd
  obtain ⟨rfl, hf⟩ := y
  exact hs i x _ (hf xs (hl i _ (by omega) h)) h
end
/-- a fourfold tuple unpacked -/
theorem g_four {K : PySem.W.Frag} {σ : L2.St} {H : Hp} {i j l m : Nat} {T : Addr} {x y z u : V} {QG : L2.St → Hp → Prop} (h : H T = some (.tup [x, y, z, u])) (q : QG ((((σ.set i (some x)).set j (some y)).set l (some z)).set m (some u)) H) : gTup K 4 (gCons (gName i) (gCons (gName j) (gCons (gName l) (gCons (gName m) gNil)))) (.ref T) σ H QG :=
  ⟨T, [x, y, z, u], rfl, .inl (.inl h), rfl, x, [y, z, u], rfl, y, [z, u], rfl, z, [u], rfl, u, [], rfl, rfl, q⟩
theorem revL {H : Hp} {Q : VK} {p : Addr} {xs : List V} (h : H p = some (.lst xs)) (q : Q .non (upd H p (.lst xs.reverse))) : rReverse (.ref p) [] H Q := ⟨p, xs, rfl, rfl, h, q⟩
theorem Sh.mono {n m : Nat} {d : PyData} (h : Sh n d) (e : n ≤ m) : Sh m d := by
  induction h generalizing m with
  | non n => exact .non m
  | bl n b => exact .bl m b
  | int n i => exact .int m i
  | str n x => exact .str m x
  | @lst n ds hl h ih =>
    cases m with
    | zero => omega
    | succ m => exact .lst hl fun d hd => ih d hd (by omega)
  | @tup n ds hl h ih =>
    cases m with
    | zero => omega
    | succ m => exact .tup hl fun d hd => ih d hd (by omega)
end BC

set_option Elab.async false
set_option linter.all false
set_option maxRecDepth 100000
set_option maxHeartbeats 4000000
/-! visits and their trails, lists of numbers, their repr -/
namespace BC
open PySem PySem.Spec PyProof.Rows L2 Evl
/-! ### data whose repr is short -/
structure Tm (d : PyData) : Prop where
  s : d.showable = true
  n : d.hasDict = false
  l : d.leavesShort 13 = true
theorem Tm.int {i : Int} (h : i.natAbs < 10 ^ 12) : Tm (.int i) := ⟨by
  show decide (i.natAbs.log2 < 1920) = true
  refine decide_eq_true ?_
  by_cases z : i.natAbs = 0
  · rw [z]; decide
  · exact (Nat.log2_lt z).mpr (Nat.lt_of_lt_of_le h (by decide +kernel)), rfl, by
  show decide (_ ≤ 13) = true
  exact decide_eq_true (PyData.shown_int_le h)⟩
theorem Tm.all {ds : List PyData} (h : ∀ d ∈ ds, Tm d) : PyData.showableAll ds = true ∧ PyData.hasDictAll ds = false ∧ PyData.leavesShortAll 13 ds = true := by
  induction ds with
  | nil => exact ⟨rfl, rfl, rfl⟩
  | cons d ds ih =>
    have a := h d List.mem_cons_self
    obtain ⟨b1, b2, b3⟩ := ih fun e m => h e (List.mem_cons_of_mem _ m)
    refine ⟨?_, ?_, ?_⟩
    · show (d.showable && _) = true
      rw [a.s, b1]; rfl
    · show (d.hasDict || _) = false
      rw [a.n, b2]; rfl
    · show (d.leavesShort 13 && _) = true
      rw [a.l, b3]; rfl
theorem Tm.list {ds : List PyData} (h : ∀ d ∈ ds, Tm d) : Tm (.list ds) := ⟨by simp only [PyData.showable]; exact (Tm.all h).1, by simp only [PyData.hasDict]; exact (Tm.all h).2.1, by simp only [PyData.leavesShort]; exact (Tm.all h).2.2⟩
theorem Tm.tuple {ds : List PyData} (h : ∀ d ∈ ds, Tm d) : Tm (.tuple ds) := ⟨by simp only [PyData.showable]; exact (Tm.all h).1, by simp only [PyData.hasDict]; exact (Tm.all h).2.1, by simp only [PyData.leavesShort]; exact (Tm.all h).2.2⟩
theorem wt_int {i : Int} (h : i.natAbs < 2 ^ 40) : (PyData.int i).weight ≤ 40 := by
  simp only [PyData.weight]
  split
  · omega
  · next z =>
    have z0 : i.natAbs ≠ 0 := fun e => z (by rw [Int.natAbs_eq_zero.mp e]; rfl)
    have := (Nat.log2_lt z0).mpr h
    omega
theorem wt_all {ds : List PyData} {n : Nat} (h : ∀ d ∈ ds, d.weight ≤ n) : PyData.weightAll ds ≤ (n + 1) * ds.length := by
  induction ds with
  | nil => simp [PyData.weightAll]
  | cons d ds ih =>
    have a := h d List.mem_cons_self
    have b := ih fun e m => h e (List.mem_cons_of_mem _ m)
    simp only [PyData.weightAll, List.length_cons, Nat.mul_add]
    omega
theorem dep_all {ds : List PyData} {n : Nat} (h : ∀ d ∈ ds, d.depth ≤ n) : PyData.depthAll ds ≤ n := by
  induction ds with
  | nil => simp [PyData.depthAll]
  | cons d ds ih =>
    have a := h d List.mem_cons_self
    have b := ih fun e m => h e (List.mem_cons_of_mem _ m)
    simp only [PyData.depthAll]
    omega
section
variable {K : PySem.W.Frag} {H : Hp} {Q : VK} {a : Addr}
theorem reprX {d : PyData} (h : Dp K H (.ref a) d) (t : Tm d) (dp : d.depth ≤ 60) (wt : d.weight ≤ 2 ^ 20) (q : Q (.str d.shown) H) : rRepr K [.ref a] H Q :=
  ⟨a, d, rfl, h, t.s, dp, t.n, PyData.shown_fits (B := 13) (by decide) (by decide) t.l wt, q⟩
/-- what repr of a list of numbers says -/
def shInts (ns : List Int) : Str := (PyData.list (ns.map PyData.int)).shown
theorem reprInts {ns : List Int} (h : SqL K H a (ns.map V.int)) (hs : ∀ n ∈ ns, n.natAbs < 10 ^ 12) (hl : ns.length ≤ 20000) (q : Q (.str (shInts ns)) H) : rRepr K [.ref a] H Q := by
  refine reprX (.lst h (dp_ints ns)) (.list fun d m => ?_) ?_ ?_ q
  · obtain ⟨n, hn, rfl⟩ := List.mem_map.mp m
    exact .int (hs n hn)
  · simp only [PyData.depth]
    have := dep_all (ds := ns.map PyData.int) (n := 0) fun d m => by
      obtain ⟨n, hn, rfl⟩ := List.mem_map.mp m
      simp [PyData.depth]
    omega
  · simp only [PyData.weight]
    have := wt_all (ds := ns.map PyData.int) (n := 40) fun d m => by
      obtain ⟨n, hn, rfl⟩ := List.mem_map.mp m
      exact wt_int (Nat.lt_of_lt_of_le (hs n hn) (by decide +kernel))
    rw [List.length_map] at this
    omega
/-! ### in, index, a part of a list of numbers -/
theorem flat_ints (ns : List Int) : (ns.map V.int).all flatV = true := by
  rw [List.all_eq_true]
  intro x hx
  obtain ⟨n, _, rfl⟩ := List.mem_map.mp hx
  rfl
theorem inV_ints (p : Int) (ns : List Int) : inV (.int p) (ns.map V.int) = decide (p ∈ ns) := by
  unfold inV
  rw [List.any_map]
  by_cases h : p ∈ ns
  · rw [decide_eq_true h, List.any_eq_true]
    exact ⟨p, h, by simp [eqV]⟩
  · rw [decide_eq_false h, List.any_eq_false]
    intro x hx
    have : x ≠ p := fun e => h (e ▸ hx)
    simp [eqV, this]
theorem inL {p : Int} {ns : List Int} (h : SqL K H a (ns.map V.int)) (q : Q (.bl (decide (p ∈ ns))) H) : rIn K false (.int p) (.ref a) H Q :=
  ⟨a, _, rfl, .inl h, rfl, flat_ints ns, by rw [inV_ints]; exact q⟩
theorem ninL {p : Int} {ns : List Int} (h : SqL K H a (ns.map V.int)) (q : Q (.bl (!decide (p ∈ ns))) H) : rIn K true (.int p) (.ref a) H Q :=
  ⟨a, _, rfl, .inl h, rfl, flat_ints ns, by rw [inV_ints]; exact q⟩
theorem idxL {p : Int} {ns : List Int} (h : SqL K H a (ns.map V.int)) (hp : p ∈ ns) (q : Q (.int (ns.idxOf p : Nat)) H) : rIndex K (.ref a) [.int p] H Q := by
  have hl := List.idxOf_lt_length_of_mem hp
  refine ⟨a, _, _, ns.idxOf p, .int p, rfl, rfl, h, rfl, flat_ints ns, ?_, by simp [eqV], fun m z hm hz => ?_, q⟩
  · rw [List.getElem?_map, List.getElem?_eq_getElem hl, List.getElem_idxOf hl]
    rfl
  · rw [List.getElem?_map] at hz
    have hml : m < ns.length := by omega
    rw [List.getElem?_eq_getElem hml] at hz
    cases hz
    have ne : ns[m] ≠ p := fun e => by
      have := List.not_of_lt_findIdx (p := fun x => x == p) (xs := ns) hm
      simp [e] at this
    simp [eqV, ne]
/-- numbers that are kept -/
theorem kept_ints (n : Nat) (k : Nat → Bool) (f : Nat → Int) : ∃ fr : List Int, kept n k (fun i => V.int (f i)) = fr.map V.int ∧ (∀ x ∈ fr, ∃ i, i < n ∧ k i = true ∧ x = f i) ∧ (fr = [] → ∀ i, i < n → k i = false) := by
  induction n with
  | zero => exact ⟨[], rfl, fun x h => (List.not_mem_nil h).elim, fun _ i h => by omega⟩
  | succ n ih =>
    obtain ⟨fr, h1, h2, h3⟩ := ih
    cases c : k n with
    | true =>
      refine ⟨fr ++ [f n], by rw [kept_yes c, h1, List.map_append]; rfl, fun x h => ?_, fun e => by simp at e⟩
      rcases List.mem_append.mp h with h | h
      · obtain ⟨i, a, b⟩ := h2 x h
        exact ⟨i, by omega, b⟩
      · exact ⟨n, by omega, c, List.mem_singleton.mp h⟩
    | false =>
      refine ⟨fr, by rw [kept_no c, h1], fun x h => ?_, fun e i hi => ?_⟩
      · obtain ⟨i, a, b⟩ := h2 x h
        exact ⟨i, by omega, b⟩
      · by_cases q : i = n
        · rw [q]; exact c
        · exact h3 e i (by omega)
theorem rgV_ints (a b : Int) : rgV a b = ((List.range (b - a).toNat).map fun i => a + ((i : Nat) : Int)).map V.int := by
  unfold rgV
  rw [List.map_map]
  rfl
theorem shp_ints (ns : List Int) : SeqAt.shaped (.list (ns.map PyData.int)) = true := by
  have h1 : ∀ ns : List Int, PyData.canLayAll0 (ns.map PyData.int) = true := fun ns => by
    induction ns with
    | nil => simp [PyData.canLayAll0]
    | cons n ns ih => simp [PyData.canLayAll0, PyData.canLay0, ih]
  have h2 := dep_all (ds := ns.map PyData.int) (n := 0) fun d m => by
      obtain ⟨n, hn, rfl⟩ := List.mem_map.mp m
      simp [PyData.depth]
  show (PyData.canLay0 _ && decide (PyData.depth _ ≤ 64)) = true
  rw [Bool.and_eq_true]
  refine ⟨?_, decide_eq_true ?_⟩
  · simp only [PyData.canLay0]; exact h1 ns
  · simp only [PyData.depth]; omega
theorem eqv_ints : ∀ ns ms : List Int, PyData.eqv (.list (ns.map PyData.int)) (.list (ms.map PyData.int)) = decide (ns = ms) := fun ns ms => by
  simp only [PyData.eqv]
  induction ns generalizing ms with
  | nil => cases ms <;> simp [PyData.eqvAll]
  | cons n ns ih =>
    cases ms with
    | nil => simp [PyData.eqvAll]
    | cons m ms =>
      simp only [List.map_cons, PyData.eqvAll, PyData.eqv, ih]
      by_cases h : n = m
      · subst h; simp
      · simp [h]
theorem eqInts {b : Addr} {ns ms : List Int} (h : SqL K H a (ns.map V.int)) (g : SqL K H b (ms.map V.int)) (q : Q (.bl (decide (ns = ms))) H) : rEqD K (.ref a) (.ref b) H Q :=
  ⟨_, _, .lst h (dp_ints ns), .lst g (dp_ints ms), shp_ints ns, shp_ints ms, by rw [eqv_ints]; exact q⟩
theorem neInts {b : Addr} {ns ms : List Int} (h : SqL K H a (ns.map V.int)) (g : SqL K H b (ms.map V.int)) (q : Q (.bl (!decide (ns = ms))) H) : rNeD K (.ref a) (.ref b) H Q :=
  ⟨_, _, .lst h (dp_ints ns), .lst g (dp_ints ms), shp_ints ns, shp_ints ms, by rw [eqv_ints]; exact q⟩
theorem pickI {ns : List Int} {r : Int} (h0 : 0 ≤ r) (h1 : r < ns.length) : ∃ n, n ∈ ns ∧ atI (ns.map V.int) r = some (.int n) := by
  obtain ⟨v, hv, e⟩ := pick (xs := ns.map V.int) h0 (by rw [List.length_map]; exact h1)
  obtain ⟨n, hn, rfl⟩ := List.mem_map.mp hv
  exact ⟨n, hn, e⟩
theorem cut_to (xs : List V) {i : Int} {j : Nat} (e : i = (j : Int)) (h : j ≤ xs.length) : cutV xs none (some i) = xs.take j := by
  subst e
  unfold cutV
  have e1 : HT.sIx xs.length 0 none = 0 := rfl
  rw [HT.sIx_nat, e1, List.drop_zero, Nat.sub_zero, Nat.min_eq_left h]
theorem slL {lo hi : Option Int} {xs : List V} (h : SqL K H a xs) (q : ∀ p, H p = none → Q (.ref p) (upd H p (.lst (cutV xs lo hi)))) : rSlL K (.ref a) lo hi H Q := ⟨a, xs, rfl, h, q⟩
theorem tyLL {xs : List V} (h : SqL K H a xs) : tyV K "list" (.ref a) H := Or.inl ⟨rfl, _, h⟩
end
end BC
namespace TR
/-! ### trails -/
def Pg (w : Int) (l : List Int) : Prop := ∀ x ∈ l, 0 ≤ x ∧ x < w
def vis (t : List Int) (p : Int) : List Int := if p ∈ t then t.take (t.idxOf p + 1) else t ++ [p]
def trl (row : List Int) : List Int := row.foldl vis []
/-- the lengths of the trails -/
def lens (row : List Int) : List Int := (List.range row.length).map fun i => ((trl (row.take (i + 1))).length : Int)
theorem vis_mem {t : List Int} {p x : Int} (h : x ∈ vis t p) : x ∈ t ∨ x = p := by
  unfold vis at h
  split at h
  · exact .inl (List.mem_of_mem_take h)
  · simpa using h
theorem vis_nodup {t : List Int} {p : Int} (h : t.Nodup) : (vis t p).Nodup := by
  unfold vis
  split
  · exact h.sublist (List.take_sublist _ _)
  · next n =>
    rw [List.nodup_append]
    exact ⟨h, List.nodup_cons.mpr ⟨List.not_mem_nil, List.nodup_nil⟩, fun a ha b hb e => n (by simp at hb; rw [← hb, ← e]; exact ha)⟩
theorem vis_pos (t : List Int) (p : Int) : 1 ≤ (vis t p).length := by
  unfold vis
  split
  · next h =>
    have := List.idxOf_lt_length_of_mem h
    rw [List.length_take]; omega
  · rw [List.length_append, List.length_singleton]; omega
theorem vis_le (t : List Int) (p : Int) : (vis t p).length ≤ t.length + 1 := by
  unfold vis
  split
  · rw [List.length_take]; omega
  · rw [List.length_append, List.length_singleton]; omega
theorem vis_pg {w : Int} {t : List Int} {p : Int} (h : Pg w t) (h0 : 0 ≤ p) (h1 : p < w) : Pg w (vis t p) := fun x hx => by
  rcases vis_mem hx with h2 | rfl
  · exact h x h2
  · exact ⟨h0, h1⟩
theorem trl_snoc {row : List Int} {i : Nat} {p : Int} (h : row[i]? = some p) : trl (row.take (i + 1)) = vis (trl (row.take i)) p := by
  unfold trl
  rw [List.take_add_one, h, List.foldl_append]
  rfl
theorem fold_ok {w : Int} : ∀ {row t : List Int}, Pg w row → Pg w t → t.Nodup → Pg w (row.foldl vis t) ∧ (row.foldl vis t).Nodup
  | [], _, _, h2, h3 => ⟨h2, h3⟩
  | p :: row, t, h1, h2, h3 => fold_ok (row := row) (t := vis t p) (fun x hx => h1 x (List.mem_cons_of_mem _ hx)) (vis_pg h2 (h1 p List.mem_cons_self).1 (h1 p List.mem_cons_self).2) (vis_nodup h3)
theorem Pg.take {w : Int} {l : List Int} (h : Pg w l) (n : Nat) : Pg w (l.take n) := fun x hx => h x (List.mem_of_mem_take hx)
theorem Pg.mono {w v : Int} {l : List Int} (h : Pg w l) (e : w ≤ v) : Pg v l := fun x hx => ⟨(h x hx).1, by have := (h x hx).2; omega⟩
theorem Pg.at {w : Int} {l : List Int} (h : Pg w l) {i : Nat} {p : Int} (e : l[i]? = some p) : 0 ≤ p ∧ p < w := h p (List.mem_of_getElem? e)
theorem pg_nil (w : Int) : Pg w [] := fun _ m => (List.not_mem_nil m).elim
theorem trl_pg {w : Int} {row : List Int} (h : Pg w row) : Pg w (trl row) := (fold_ok h (pg_nil w) List.nodup_nil).1
theorem trl_nodup {w : Int} {row : List Int} (h : Pg w row) : (trl row).Nodup := (fold_ok h (pg_nil w) List.nodup_nil).2
/-- so many different pages at most -/
theorem nodup_len : ∀ (n : Nat) {l : List Int}, l.Nodup → Pg n l → l.length ≤ n
  | 0, [], _, _ => Nat.le_refl _
  | 0, x :: l, _, h => by have := h x List.mem_cons_self; omega
  | n + 1, l, h1, h2 => by
    by_cases m : ((n : Nat) : Int) ∈ l
    · have h3 := nodup_len n (l := l.erase (n : Int)) (h1.erase _) (fun x hx => by
        have a := h2 x (List.mem_of_mem_erase hx)
        have b : x ≠ (n : Int) := fun e => by
          rw [h1.mem_erase_iff] at hx
          exact hx.1 e
        omega)
      have := List.length_erase_of_mem m
      omega
    · have h3 := nodup_len n h1 (fun x hx => by
        have a := h2 x hx
        have b : x ≠ (n : Int) := fun e => m (e ▸ hx)
        omega)
      omega
theorem trl_len {n : Nat} {row : List Int} (h : Pg n row) : (trl row).length ≤ n := nodup_len n (trl_nodup h) (trl_pg h)
theorem lens_len (row : List Int) : (lens row).length = row.length := by unfold lens; rw [List.length_map, List.length_range]
theorem lens_at {row : List Int} {i : Nat} (h : i < row.length) : (lens row)[i]? = some ((trl (row.take (i + 1))).length : Int) := by
  unfold lens
  rw [List.getElem?_map, List.getElem?_range h]
  rfl
end TR

set_option Elab.async false
set_option linter.all false
set_option maxRecDepth 100000
set_option maxHeartbeats 4000000
/-! defs with one keyword-only parameter that has a default -/
namespace BC
open PySem PySem.Spec PyProof.Rows L2 Evl
theorem kwd1 {K : PySem.W.Frag} {x qual : Str} {st : Stmt} {f D : Addr} {ps : List Str} {nm : Str} {v : V} {u : Value} {n : Nat} {oc : Value} {od : Option Addr} {doc pm : Value} {an : Option Addr} {cdv ct : Value} {osl : Array (Option Value)}
    (lk : K.lookup f = some ⟨oc, od, .func (PySem.W.fnOf x qual (defArgs st) (defBody st) (defScope st) .none (.ref D) doc pm an cdv ct), osl⟩) (hcd : PySem.W.codeIn K cdv qual = true) (kp : PySem.W.keepIn K (.ref f) = true)
    (hq : PySem.W.nsIn K D nm = some (some u)) (hr : RelV v u) (hn : n + 1 = ps.length)
    (h : ∀ (D : Addr) (doc pm : Value) (an : Option Addr) (cdv ct : Value) (us ks : List Value), us.length = n → ks.length = 1 →
      KwChain D ([nm].zip ks) (bindArgs (PySem.W.fnOf x qual (defArgs st) (defBody st) (defScope st) .none (.ref D) doc pm an cdv ct) ⟨us, []⟩) (ps.zip (us ++ ks))) :
    ∃ ds, Vals [v] ds ∧ Binds K (PySem.W.fnOf x qual (defArgs st) (defBody st) (defScope st) .none (.ref D) doc pm an cdv ct) ps ds := by
  have F : FunD K x qual (defArgs st) (defBody st) (defScope st) [] [(nm, v)] f (PySem.W.fnOf x qual (defArgs st) (defBody st) (defScope st) .none (.ref D) doc pm an cdv ct) :=
    ⟨⟨oc, od, _, _, doc, pm, an, cdv, ct, osl, rfl, lk, hcd, .inl ⟨rfl, rfl⟩, .inr ⟨D, rfl, fun q hm => by
      obtain rfl : q = (nm, v) := by simpa using hm
      exact ⟨u, hq, hr⟩⟩⟩, kp⟩
  have z := F.binds0 n (by simp) (by simpa using hn) h
  exact z
/-! ### the bag of draws: a list of three numbers -/
def BagAt (H : Hp) (b : Addr) (c : Nat) : Prop := ∃ x0 x1 x2 : Int, H b = some (.lst [.int x0, .int x1, .int x2]) ∧ 0 ≤ x1 ∧ x1 < 10 ^ 65 ∧ 0 ≤ x2 ∧ x2 ≤ c
theorem BagAt.ex {H H' : Hp} {b : Addr} {c : Nat} (h : BagAt H b c) (e : Ex H H') : BagAt H' b c := by
  obtain ⟨x0, x1, x2, hb, r⟩ := h
  exact ⟨x0, x1, x2, e _ _ hb, r⟩
theorem BagAt.mono {H : Hp} {b : Addr} {c d : Nat} (h : BagAt H b c) (e : c ≤ d) : BagAt H b d := by
  obtain ⟨x0, x1, x2, hb, h1, h2, h3, h4⟩ := h
  exact ⟨x0, x1, x2, hb, h1, h2, h3, by omega⟩
theorem BagAt.some {H : Hp} {b : Addr} {c : Nat} (h : BagAt H b c) : ∃ o, H b = Option.some o := by
  obtain ⟨x0, x1, x2, hb, _⟩ := h
  exact ⟨_, hb⟩
theorem BagAt.apart {H : Hp} {b z : Addr} {c : Nat} (h : BagAt H b c) (nz : H z = none) : z ≠ b := fun e => by
  obtain ⟨o, ho⟩ := h.some
  subst e
  rw [ho] at nz
  cases nz
theorem BagAt.off {H : Hp} {b z : Addr} {c : Nat} {o : HO} (h : BagAt H b c) (nz : z ≠ b) : BagAt (upd H z o) b c := by
  obtain ⟨x0, x1, x2, hb, r⟩ := h
  exact ⟨x0, x1, x2, by rw [upd_ne (Ne.symm nz)]; exact hb, r⟩
theorem BagAt.ne {H : Hp} {b z : Addr} {c : Nat} (h : BagAt H b c) (nb : H z = none) : b ≠ z := fun e => h.apart nb e.symm
/-- the greatest number of ways that is drawn from -/
def BIG : Int := 2 ^ 2000
theorem big_of {m : Int} (h : m ≤ 100000) : m ≤ BIG := Int.le_trans h (by decide +kernel)
theorem big_lt {m : Int} (h : 0 < m) (h2 : m ≤ BIG) : m.natAbs < 2 ^ 2001 := by
  have a : m.natAbs ≤ BIG.natAbs := by omega
  exact Nat.lt_of_le_of_lt a (by decide +kernel)
def spDraw : Sp := fun vs H Q _ => ∃ (b : Addr) (m : Int) (c : Nat), vs = [.ref b, .int m] ∧ 0 < m ∧ m ≤ BIG ∧ BagAt H b c ∧ c ≤ 1000000 ∧ ∀ r H', 0 ≤ r → r < m → Fx b H H' → BagAt H' b (c + 1) → Q (.int r) H'
/-! ### lists of lists of numbers, shown -/
def dLL (ls : List (List Int)) : PyData := .list (ls.map fun l => .list (l.map PyData.int))
theorem tm_ints {l : List Int} (h : ∀ x ∈ l, x.natAbs < 10 ^ 12) : Tm (.list (l.map PyData.int)) := .list fun d m => by
  obtain ⟨x, hx, rfl⟩ := List.mem_map.mp m
  exact .int (h x hx)
theorem wt_ints {l : List Int} (h : ∀ x ∈ l, x.natAbs < 10 ^ 12) : (PyData.list (l.map PyData.int)).weight ≤ 41 * l.length := by
  simp only [PyData.weight]
  have := wt_all (ds := l.map PyData.int) (n := 40) fun d m => by
      obtain ⟨n, hn, rfl⟩ := List.mem_map.mp m
      exact wt_int (Nat.lt_of_lt_of_le (h n hn) (by decide +kernel))
  rw [List.length_map] at this
  exact this
theorem dp_ll {K : PySem.W.Frag} {H : Hp} {ps : List Addr} : ∀ {ls : List (List Int)}, ps.length = ls.length → (∀ (i : Nat) (p : Addr) (l : List Int), ps[i]? = some p → ls[i]? = some l → SqL K H p (l.map V.int)) → DpAll K H (ps.map V.ref) (ls.map fun l => PyData.list (l.map PyData.int)) := fun {ls} => by
  induction ps generalizing ls with
  | nil =>
    intro h _
    cases ls with
    | nil => exact .nil
    | cons l ls => simp at h
  | cons p ps ih =>
    intro h g
    cases ls with
    | nil => simp at h
    | cons l ls => exact .cons (.lst (g 0 p l rfl rfl) (dp_ints l)) (ih (by simpa using h) fun i q m a b => g (i + 1) q m (by rw [List.getElem?_cons_succ]; exact a) (by rw [List.getElem?_cons_succ]; exact b))
theorem reprLL {K : PySem.W.Frag} {H : Hp} {Q : VK} {a : Addr} {ls : List (List Int)} {n : Nat} (h : Dp K H (.ref a) (dLL ls)) (hv : ∀ l ∈ ls, ∀ x ∈ l, x.natAbs < 10 ^ 12) (hl : ∀ l ∈ ls, l.length ≤ n) (hz : (41 * n + 1) * ls.length ≤ 2 ^ 20) (q : Q (.str (dLL ls).shown) H) : rRepr K [.ref a] H Q := by
  refine reprX h (.list fun d m => ?_) ?_ ?_ q
  · obtain ⟨l, hm, rfl⟩ := List.mem_map.mp m
    exact tm_ints (hv l hm)
  · unfold dLL
    simp only [PyData.depth]
    have := dep_all (ds := ls.map fun l => PyData.list (l.map PyData.int)) (n := 1) fun d m => by
      obtain ⟨l, hm, rfl⟩ := List.mem_map.mp m
      simp only [PyData.depth]
      have := dep_all (ds := l.map PyData.int) (n := 0) fun d m => by
        obtain ⟨x, hx, rfl⟩ := List.mem_map.mp m
        simp [PyData.depth]
      omega
    omega
  · unfold dLL
    simp only [PyData.weight]
    have := wt_all (ds := ls.map fun l => PyData.list (l.map PyData.int)) (n := 41 * n) fun d m => by
      obtain ⟨l, hm, rfl⟩ := List.mem_map.mp m
      exact Nat.le_trans (wt_ints (hv l hm)) (Nat.mul_le_mul_left _ (hl l hm))
    rw [List.length_map] at this
    omega
theorem k_lenSet {X : Cx} {K : PySem.W.Frag} {a : Expr} {ta : TE} {p p2 q pos : Pos} (hK : X.K = K) (hg : Gl X "len") (hm : X.mg "len" = none) (hg2 : Gl X "set") (hm2 : X.mg "set" = none) (ha : PE X a ta) (hc : X.calm = true := by rfl)
    (na : starEach [a] X.env = (false, eval a X.env) :: starEach [] X.env := by rfl) : PE X (.Call (.Name "len" p) [.Call (.Name "set" p2) [a] [] q] [] pos) (RZ.tLenSetI K ta) := by subst hK; exact RZ.pe_lenSetI hg hm hg2 hm2 ha hc na
theorem x_lenSet {K : PySem.W.Frag} {ta : TE} {σ : L2.St} {H : Hp} {Q : VK} : RZ.tLenSetI K ta σ H Q = ta σ H fun x H1 => ∃ (l : Addr) (ns : List Int), x = .ref l ∧ SqL K H1 l (ns.map V.int) ∧ ns.Nodup ∧ ns.length ≤ 4000 ∧ Q (.int (ns.length : Nat)) H1 := rfl
end BC

set_option Elab.async false
set_option linter.all false
set_option maxRecDepth 100000
set_option maxHeartbeats 4000000
/-! sorted(set(xs)) of a list of numbers -/
namespace BC
open PySem PySem.Spec PyProof.Rows L2 Evl RZ
/-- the set that set() starts with -/
abbrev set0 (w : World) : Obj := { cls := .type "set", dict := none, data := .set #[] 0 (.fresh 0 0 (!w.params.followText "set-order")) }
abbrev with0 (w : World) (s : Shared) : Shared := { s with heap := s.heap.push (set0 w) }
section
variable {P : Program} {w : World} {A : Around} {E : Value → Shared → Prop} {s : Shared}
set_option maxHeartbeats 3200000 in
theorem set_of_list {l : Addr} {its : Array Value} (ns : List Int) {Q : Value → Shared → Prop} (hh : A.handled = none) (hl : s.heap.IsList l its) (hit : IntsAre its.toList ns) (hb : ns.length + 1 < scanBound)
    (fin : ∀ (h' : Heap) (tk c : Nat), SetR w h' s.heap.objs.size (fun j => decide (j ∈ ns)) c → c ≤ ns.length → (∀ b o, s.heap.get? b = some o → h'.get? b = some o) → Q (.ref s.heap.objs.size) { s with heap := h', toks := tk }) :
    wpAny (model P w) A (call (.type "set") [.ref l]) Q E s := by
  have many : its.size = ns.length := by rw [← IntsAre.length hit, Array.length_toList]
  obtain ⟨c, tl, hmro⟩ := F.called_set.mro
  have m1 := F.called_set.made
  have m2 := F.called_set.sub
  refine wpAny_call (codeAny_of_tree (wpAny_pure ⟨Code.quiet_builtin _ (by decide +kernel), codeAny_builtin F.entry_type_call ?_⟩))
  rw [Around.under_plain (weight_type_call_type "set" [.ref l] []) rfl]
  have m3 := F.called_set.notType
  have m4 := F.called_set.canCreate
  have m5 := F.typeCall_set_1 (.ref l)
  repeat (any_goals (first | assumption | wp_step))
  refine codeAny_mono (code_set_led1 (.ref l) (E := E) (Q₁ := fun obj s₁ => obj = .ref s.heap.objs.size ∧ s₁ = with0 w s) ⟨rfl, rfl⟩) fun r s₁ hr => ?_
  match r, hr with
  | .error e, hr => exact hr
  | .ok .next, hr => exact hr.elim
  | .ok .brk, hr => exact hr.elim
  | .ok .cont, hr => exact hr.elim
  | .ok (.ret obj), hr =>
    obtain ⟨rfl, rfl⟩ := hr
    have at0 : (s.heap.push (set0 w)).get? s.heap.objs.size = some (set0 w) := Heap.get?_push_size _ rfl
    have ty0 : Shared.TypeIs (with0 w s) (.ref s.heap.objs.size) "set" := ⟨_, at0, rfl⟩
    have i1 := F.called_set.init.lookup
    have i2 := F.called_set.init.bind (.ref s.heap.objs.size)
    repeat (any_goals (first | assumption | wp_step))
    refine codeAny_mono (codeAny_call_builtin (R := wants (fun r s₂ => r = .none ∧ ∃ h' tk c, s₂ = { s with heap := h', toks := tk } ∧ SetR w h' s.heap.objs.size (fun j => decide (j ∈ ns)) c ∧ c ≤ ns.length ∧ (∀ b o, s.heap.get? b = some o → h'.get? b = some o)) E)
      F.called_set.init.plain F.entry_set_init (check_set_init_1 ty0 ?_)) fun r₂ s₂ hr₂ => ?_
    · obtain ⟨⟨oc, od, dt, osl⟩, old, e1, nl, e2⟩ := hl
      obtain rfl : oc = .type "list" := e1
      obtain rfl : dt = .seq its nl := e2
      have pushed := Heap.get?_push_of_some (set0 w) old
      have isl : (s.heap.push (set0 w)).IsList l its := ⟨_, pushed, rfl, nl, rfl⟩
      have k1 := F.sub_list_set
      have k2 := F.sub_list_frozenset
      have k3 : (Value.type "list" == Value.type "dict") = false := by decide
      have hltl : l < s.heap.objs.size := Heap.lt_size old
      unfold Builtin.«set.__init__» noKeywords Builtin.Frozenset.updateFrom
      generalize hPI : pyIter = PI
      wp_walk
      subst hPI
      refine wpAny_pyIter_list isl (wpAny_bind (wpAny_runValue ?_))
      have calm3 : A.in1.in1.in1.handled = none := by simp [hh]
      have psz : (s.heap.push (set0 w)).objs.size = s.heap.objs.size + 1 := Heap.size_push ..
      have apart : l ≠ (s.heap.push (set0 w)).objs.size := fun z => Nat.lt_irrefl l (by rw [psz] at z; exact Nat.lt_of_lt_of_le hltl (by rw [z]; exact Nat.le_succ _))
      have away : s.heap.objs.size ∉ [(s.heap.push (set0 w)).objs.size, l] := by
        rw [psz]
        intro z
        simp only [List.mem_cons, List.mem_nil_iff, or_false] at z
        rcases z with z | z
        · exact absurd z (Nat.ne_of_lt (Nat.lt_succ_self _))
        · exact absurd z (Nat.ne_of_gt hltl)
      have items : ∀ (i : Nat) (v : Value), its[i]? = some v → ∃ k t, ns[i]? = some k ∧ v = .int k t := fun i v hv => by
        have hi : i < ns.length := by rw [← many]; exact (Array.getElem?_eq_some_iff.mp hv).1
        obtain ⟨t, e⟩ := IntsAre.int_at hit i v (by rw [Array.getElem?_toList]; exact hv)
        refine ⟨ns[i], t, List.getElem?_eq_getElem hi, ?_⟩
        rw [e, List.getD_eq_getElem?_getD, List.getElem?_eq_getElem hi]
        rfl
      refine set_update_ints ((Walks.list calm3 _ l apart its).toS) s.heap.objs.size away ns many hb items its.size 0 _ (by omega) (Nat.zero_le _) ⟨⟨_, Heap.get?_push_size _ rfl, rfl, rfl⟩, (isl.push _)⟩ ⟨0, Nat.le_refl 0, ?_⟩ fun s' c' mv hc' hS' => ?_
      · exact setR_new_at (Heap.get?_push_of_some _ at0)
      · obtain ⟨h', g2, d', tk', os'⟩ := s'
        obtain rfl : g2 = s.gens := mv.gens
        obtain rfl : d' = s.drawn := mv.drawn
        obtain rfl : os' = s.os := mv.os
        refine wpAny_pure (wpAny_pure ⟨rfl, h', tk', c', rfl, hS', by rw [many] at hc'; exact hc', fun b o e => ?_⟩)
        have lt := Heap.lt_size e
        refine mv.heap b o ?_ (Heap.get?_push_of_some _ (Heap.get?_push_of_some _ e))
        intro z
        rw [psz] at z
        simp only [List.mem_cons, List.mem_nil_iff, or_false] at z
        rcases z with z | z
        · exact absurd z (Nat.ne_of_lt lt)
        · exact absurd z (Nat.ne_of_lt (Nat.lt_succ_of_lt lt))
    · match r₂, hr₂ with
      | .error e, hr₂ => exact hr₂
      | .ok .next, hr₂ => exact hr₂.elim
      | .ok .brk, hr₂ => exact hr₂.elim
      | .ok .cont, hr₂ => exact hr₂.elim
      | .ok (.ret r), hr₂ =>
        obtain ⟨rfl, h', tk, c', rfl, q1, q2, q3⟩ := hr₂
        repeat (any_goals (first | assumption | wp_step))
        exact fin _ _ _ q1 q2 q3
end
section
variable {X : Cx} {K : PySem.W.Frag} {a : Expr} {ta : TE} {p p2 q pos : Pos}
/-- sorted(set(xs)): the different numbers in order -/
def tSortSet (K : PySem.W.Frag) (ta : TE) : TE := fun σ H Q => ta σ H fun x H1 => ∃ (l : Addr) (ns : List Int), x = .ref l ∧ SqL K H1 l (ns.map V.int) ∧ ns.length < 64 ∧
  ∀ (ms : List Int) r, ms.Pairwise (· < ·) → (∀ k : Int, k ∈ ms ↔ k ∈ ns) → H1 r = none → Q (.ref r) (upd H1 r (.lst (ms.map V.int)))
theorem k_sortSet (hK : X.K = K) (hg : Gl X "sorted") (hm : X.mg "sorted" = none) (hg2 : Gl X "set") (hm2 : X.mg "set" = none) (ha : PE X a ta) (hc : X.calm = true := by rfl)
    (na : starEach [a] X.env = (false, eval a X.env) :: starEach [] X.env := by rfl) : PE X (.Call (.Name "sorted" p) [.Call (.Name "set" p2) [a] [] q] [] pos) (tSortSet K ta) := by
  subst hK
  refine ⟨fun pins s σ H Q I h => ?_⟩
  refine Call_ (ld_blt I hg hm (show bootBuiltins ("sorted" : Str) = some (.builtin "sorted") by decide +kernel) ?_)
  refine callWith_builtin1 (args_cons ?_ rfl) rfl rfl
  refine Call_ (ld_blt I hg2 hm2 boot_set ?_)
  refine callWith_type1 (args_cons (thn (ha.run pins s σ H _ I h) fun v s1 ⟨x, H1, I1, r1, q1⟩ => args_nil ?_) na) na rfl
  obtain ⟨l, ns, rfl, hq, hl, q1⟩ := q1
  cases r1
  obtain ⟨its, r, pl, hz⟩ := I1.list hq
  refine set_of_list ns (I1.ok.hd hc) pl.isList (by simpa using intsAre_vals r) (by unfold scanBound; omega) fun h' tk c hS hcl hk => ?_
  refine args_nil ?_
  have I2 : Inv X pins σ H1 { s1 with heap := h', toks := tk } := I1.kept hk
  refine sorted_set hS (I2.ok.hd hc) (by omega) fun s' p out c2 ms k g o hp hg hi hs hm hlen => ?_
  have few : (ms.map V.int).length ≤ sizeLine := by rw [List.length_map, hlen, sizeLine_eq]; omega
  have hn : H1 p = none := I2.hok.fresh hp
  have J : Inv X pins σ (upd H1 p (.lst (ms.map V.int))) { ({ s1 with heap := h', toks := tk } : Shared) with heap := s'.heap, gens := s'.gens, drawn := s'.drawn, toks := s'.toks } :=
    I2.call (ch := []) (Un.laid k hp hn) (I2.hok.laid k hp ⟨few, out.toList, c2, vals_of_ints hi, hg⟩) (by rw [g]; exact I2.bare) (fun _ z => nomatch z)
  have e : s' = { ({ s1 with heap := h', toks := tk } : Shared) with heap := s'.heap, gens := s'.gens, drawn := s'.drawn, toks := s'.toks } := by
    cases s'
    cases o
    rfl
  rw [e]
  exact ⟨.ref p, _, J, rfl, q1 ms p hs (fun k => by rw [hm k, decide_eq_true_eq]) hn⟩
theorem x_sortSet {σ : L2.St} {H : Hp} {Q : VK} : tSortSet K ta σ H Q = ta σ H fun x H1 => ∃ (l : Addr) (ns : List Int), x = .ref l ∧ SqL K H1 l (ns.map V.int) ∧ ns.length < 64 ∧
  ∀ (ms : List Int) r, ms.Pairwise (· < ·) → (∀ k : Int, k ∈ ms ↔ k ∈ ns) → H1 r = none → Q (.ref r) (upd H1 r (.lst (ms.map V.int))) := rfl
end
/-- two ascending lists of the same numbers are the same -/
theorem asc_same : ∀ {a b : List Int}, a.Pairwise (· < ·) → b.Pairwise (· < ·) → (∀ k : Int, k ∈ a ↔ k ∈ b) → a = b
  | [], [], _, _, _ => rfl
  | [], y :: b, _, _, h => absurd ((h y).mpr List.mem_cons_self) List.not_mem_nil
  | x :: a, [], _, _, h => absurd ((h x).mp List.mem_cons_self) List.not_mem_nil
  | x :: a, y :: b, ha, hb, h => by
    rw [List.pairwise_cons] at ha hb
    have xy : x = y := by
      have h1 := (h x).mp List.mem_cons_self
      have h2 := (h y).mpr List.mem_cons_self
      rcases List.mem_cons.mp h1 with e | e
      · exact e
      · rcases List.mem_cons.mp h2 with e2 | e2
        · exact e2.symm
        · have := ha.1 y e2
          have := hb.1 x e
          omega
    subst xy
    rw [asc_same ha.2 hb.2 fun k => ⟨fun m => by
      rcases List.mem_cons.mp ((h k).mp (List.mem_cons_of_mem _ m)) with e | e
      · subst e; have := ha.1 k m; omega
      · exact e, fun m => by
      rcases List.mem_cons.mp ((h k).mpr (List.mem_cons_of_mem _ m)) with e | e
      · subst e; have := hb.1 k m; omega
      · exact e⟩]
end BC

set_option Elab.async false
set_option linter.all false
set_option maxRecDepth 100000
set_option maxHeartbeats 4000000
/-! sites: lists of lists of natural numbers, and how they lie in the heap -/
namespace BC
open PySem PySem.Spec PyProof.Rows L2 Evl
/-! ### xs + ys of lists of any origin -/
section
variable {prog : Program} {w : World} {A : Around} {E : Value → Shared → Prop} {s : Shared}
theorem add_plain {l b : Addr} {its its2 : Array Value} {Q : Value → Shared → Prop} (x : PlainL s.heap l its) (y : PlainL s.heap b its2) (fits : its.size + its2.size ≤ sizeLine)
    (q : Q (.ref s.heap.objs.size) { s with heap := s.heap.push { cls := .type "list", data := .seq (its ++ its2) } }) : wpAny (model prog w) A (binaryOp .Add (.ref l) (.ref b)) Q E s := by
  obtain ⟨⟨c1, d1, k1, z1⟩, n1, g1, e1, e2, e3⟩ := x
  obtain ⟨⟨c2, d2, k2, z2⟩, n2, g2, e4, e5, e6⟩ := y
  obtain rfl : c1 = .type "list" := e1
  obtain rfl : c2 = .type "list" := e4
  obtain rfl : k1 = .seq its n1 := e3
  obtain rfl : k2 = .seq its2 n2 := e6
  exact concat_meets ⟨_, g1, rfl⟩ ⟨_, g2, rfl⟩ noFill_list_add seq_list_add F.slot_list_add F.entry_list_add (F.args_list_add_2 _ _) (list_addW l b its its2 n1 n2 d1 d2 z1 z2 fits) ⟨g1, g2, q⟩
end
def rCatS (K : PySem.W.Frag) : R2 := fun x y H Q => ∃ l b xs zs, x = .ref l ∧ y = .ref b ∧ SqL K H l xs ∧ SqL K H b zs ∧ xs.length + zs.length ≤ sizeLine ∧ ∀ p, H p = none → Q (.ref p) (upd H p (.lst (xs ++ zs)))
theorem k_catS {X : Cx} {K : PySem.W.Frag} (hK : X.K = K) : OpR X (binaryOp .Add) (rCatS K) := by
  subst hK
  intro pins s σ H x y v u Q I rx ry h
  obtain ⟨l, b, xs, zs, rfl, rfl, hH, hB, hz, q⟩ := h
  cases rx
  cases ry
  obtain ⟨its, r, p1, _⟩ := I.list hH
  obtain ⟨its2, r2, p2, _⟩ := I.list hB
  have l1 := r.length
  have l2 := r2.length
  refine add_plain p1 p2 (by rw [List.size_toArray, List.size_toArray]; omega) ?_
  have ea : its.toArray ++ its2.toArray = (its ++ its2).toArray := by simp
  rw [ea]
  exact ⟨.ref _, _, I.lnew (t' := s.toks) (r.append r2) (by rw [List.length_append]; omega), rfl, q _ I.fresh⟩
theorem catS {K : PySem.W.Frag} {H : Hp} {Q : VK} {p b : Addr} {xs ys : List V} (h : SqL K H p xs) (hb : SqL K H b ys) (hz : xs.length + ys.length ≤ sizeLine) (q : ∀ l, H l = none → Q (.ref l) (upd H l (.lst (xs ++ ys)))) : rCatS K (.ref p) (.ref b) H Q := ⟨p, b, xs, ys, rfl, rfl, h, hb, hz, q⟩
/-- natural numbers as the program's -/
def nz (L : List Nat) : List Int := L.map fun x : Nat => (x : Int)
theorem nz_len (L : List Nat) : (nz L).length = L.length := List.length_map _
theorem nz_at {L : List Nat} {i x : Nat} (h : L[i]? = some x) : ((nz L).map V.int)[i]? = some (.int (x : Int)) := by
  unfold nz
  rw [List.getElem?_map, List.getElem?_map, h]
  rfl
theorem at_nz {L : List Nat} {i : Nat} {v : V} (h : ((nz L).map V.int)[i]? = some v) : ∃ x, L[i]? = some x ∧ v = .int (x : Int) := by
  unfold nz at h
  rw [List.getElem?_map, List.getElem?_map] at h
  cases e : L[i]? with
  | none => rw [e] at h; cases h
  | some x => rw [e] at h; cases h; exact ⟨x, rfl, rfl⟩
theorem nz_mem {L : List Nat} {x : Nat} : ((x : Nat) : Int) ∈ nz L ↔ x ∈ L := by
  unfold nz
  rw [List.mem_map]
  exact ⟨fun ⟨y, h, e⟩ => by rw [← Int.ofNat.inj e]; exact h, fun h => ⟨x, h, rfl⟩⟩
theorem nz_inj : ∀ {a b : List Nat}, nz a = nz b → a = b
  | [], [], _ => rfl
  | [], y :: b, h => by cases h
  | x :: a, [], h => by cases h
  | x :: a, y :: b, h => by
    have h1 := (List.cons.inj h).1
    have h2 := (List.cons.inj h).2
    rw [nz_inj (show nz a = nz b from h2), Int.ofNat.inj h1]
theorem nz_app (a b : List Nat) : nz (a ++ b) = nz a ++ nz b := List.map_append
theorem nz_v (a : List Nat) (x : Nat) : (nz a).map V.int ++ [V.int (x : Int)] = (nz (a ++ [x])).map V.int := by rw [nz_app, List.map_append]; rfl
theorem lts {l : List Nat} (h : l.Pairwise (· < ·)) : (nz l).Pairwise (· < ·) := by
  unfold nz
  rw [List.pairwise_map]
  exact h.imp fun h => by omega
theorem nz_nodup {l : List Nat} (h : l.Nodup) : (nz l).Nodup := by
  unfold nz List.Nodup
  rw [List.pairwise_map]
  exact h.imp fun h e => h (Int.ofNat.inj e)
theorem nodup_lt : ∀ (n : Nat) {l : List Nat}, l.Nodup → (∀ x ∈ l, x < n) → l.length ≤ n
  | 0, [], _, _ => Nat.le_refl _
  | 0, x :: l, _, h => by have := h x List.mem_cons_self; omega
  | n + 1, l, h1, h2 => by
    by_cases m : n ∈ l
    · have h3 := nodup_lt n (l := l.erase n) (h1.erase _) (fun x hx => by
        have a := h2 x (List.mem_of_mem_erase hx)
        have b : x ≠ n := fun e => by
          rw [h1.mem_erase_iff] at hx
          exact hx.1 e
        omega)
      have := List.length_erase_of_mem m
      omega
    · have h3 := nodup_lt n h1 (fun x hx => by
        have a := h2 x hx
        have b : x ≠ n := fun e => m (e ▸ hx)
        omega)
      omega
theorem asc_nodup {l : List Nat} (h : l.Pairwise (· < ·)) : l.Nodup := h.imp fun h => by omega
/-! ### sites -/
abbrev Grid := List (List Nat)
structure SiteOk (G : Grid) : Prop where
  n1 : 1 ≤ G.length
  n2 : G.length ≤ 12
  asc : ∀ (i : Nat) (r : List Nat), G[i]? = some r → r.Pairwise (· < ·)
  lt : ∀ (i : Nat) (r : List Nat), G[i]? = some r → ∀ x ∈ r, x < G.length
  no : ∀ (i : Nat) (r : List Nat), G[i]? = some r → i ∉ r
theorem SiteOk.len {G : Grid} (h : SiteOk G) {i : Nat} {r : List Nat} (e : G[i]? = some r) : r.length ≤ 12 := Nat.le_trans (nodup_lt _ (asc_nodup (h.asc i r e)) (h.lt i r e)) h.n2
/-- the row of a page -/
def row (G : Grid) (i : Nat) : List Nat := G.getD i []
theorem row_at {G : Grid} {i : Nat} {r : List Nat} (h : G[i]? = some r) : row G i = r := by
  unfold row
  rw [List.getD_eq_getElem?_getD, h]
  rfl
theorem at_row {G : Grid} {i : Nat} (h : i < G.length) : G[i]? = some (row G i) := by
  unfold row
  rw [List.getD_eq_getElem?_getD, List.getElem?_eq_getElem h]
  rfl
theorem SiteOk.rlt {G : Grid} (h : SiteOk G) {i x : Nat} (m : x ∈ row G i) : x < G.length := by
  by_cases q : i < G.length
  · exact h.lt i _ (at_row q) x m
  · unfold row at m
    rw [List.getD_eq_getElem?_getD, List.getElem?_eq_none (by omega)] at m
    exact (List.not_mem_nil m).elim
theorem SiteOk.rlen {G : Grid} (h : SiteOk G) (i : Nat) : (row G i).length ≤ 12 := by
  by_cases q : i < G.length
  · exact h.len (at_row q)
  · unfold row
    rw [List.getD_eq_getElem?_getD, List.getElem?_eq_none (by omega)]
    exact Nat.zero_le _
/-- a list at s of lists of numbers -/
def GridAt (H : Hp) (s : Addr) (G : Grid) : Prop := ∃ ps : List Addr, H s = some (.lst (ps.map V.ref)) ∧ ps.length = G.length ∧ ∀ i p, ps[i]? = some p → H p = some (.lst ((nz (row G i)).map V.int))
theorem GridAt.ex {H H' : Hp} {s : Addr} {G : Grid} (h : GridAt H s G) (e : Ex H H') : GridAt H' s G := by
  obtain ⟨ps, h1, h2, h3⟩ := h
  exact ⟨ps, e _ _ h1, h2, fun i p q => e _ _ (h3 i p q)⟩
theorem GridAt.get {H : Hp} {s : Addr} {G : Grid} (h : GridAt H s G) {i : Nat} (hi : i < G.length) : ∃ p xs, H s = some (.lst xs) ∧ xs.length = G.length ∧ xs[i]? = some (.ref p) ∧ H p = some (.lst ((nz (row G i)).map V.int)) := by
  obtain ⟨ps, h1, h2, h3⟩ := h
  have hx : ps[i]? = some ps[i] := List.getElem?_eq_getElem (by omega)
  exact ⟨ps[i], _, h1, by rw [List.length_map]; exact h2, by rw [List.getElem?_map, hx]; rfl, h3 i _ hx⟩
theorem GridAt.lst {H : Hp} {s : Addr} {G : Grid} (h : GridAt H s G) : ∃ xs, H s = some (.lst xs) ∧ xs.length = G.length ∧ ∀ (i : Nat) (v : V), xs[i]? = some v → i < G.length ∧ ∃ p, v = .ref p ∧ H p = some (.lst ((nz (row G i)).map V.int)) := by
  obtain ⟨ps, h1, h2, h3⟩ := h
  refine ⟨_, h1, by rw [List.length_map]; exact h2, fun i v e => ?_⟩
  rw [List.getElem?_map] at e
  cases q : ps[i]? with
  | none => rw [q] at e; cases e
  | some p =>
    rw [q] at e
    cases e
    exact ⟨by have := (List.getElem?_eq_some_iff.mp q).1; omega, p, rfl, h3 i p q⟩
/-- such a list, all of it new -/
def GridN (H H' : Hp) (s : Addr) (G : Grid) : Prop := H s = none ∧ ∃ ps : List Addr, H' s = some (.lst (ps.map V.ref)) ∧ ps.length = G.length ∧ ps.Nodup ∧ s ∉ ps ∧ ∀ i p, ps[i]? = some p → H p = none ∧ H' p = some (.lst ((nz (row G i)).map V.int))
theorem GridN.at {H H' : Hp} {s : Addr} {G : Grid} (h : GridN H H' s G) : GridAt H' s G := by
  obtain ⟨_, ps, h1, h2, _, _, h3⟩ := h
  exact ⟨ps, h1, h2, fun i p q => (h3 i p q).2⟩
theorem GridN.ex {H H' H2 : Hp} {s : Addr} {G : Grid} (h : GridN H H' s G) (e : Ex H' H2) : GridN H H2 s G := by
  obtain ⟨h0, ps, h1, h2, h4, h5, h3⟩ := h
  exact ⟨h0, ps, e _ _ h1, h2, h4, h5, fun i p q => ⟨(h3 i p q).1, e _ _ (h3 i p q).2⟩⟩
theorem GridN.back {H0 H H' : Hp} {s : Addr} {G : Grid} (h : GridN H H' s G) (e : Ex H0 H) : GridN H0 H' s G := by
  obtain ⟨h0, ps, h1, h2, h4, h5, h3⟩ := h
  exact ⟨fresh_back e h0, ps, h1, h2, h4, h5, fun i p q => ⟨fresh_back e (h3 i p q).1, (h3 i p q).2⟩⟩
/-- what was new after Hc stands -/
def Nw (Hc H H' : Hp) : Prop := ∀ x o, Hc x = none → H x = some o → H' x = some o
theorem Nw.of {Hc H H' : Hp} (e : Ex H H') : Nw Hc H H' := fun x o _ h => e x o h
theorem Nw.trans {Hc H H' H'' : Hp} (e : Nw Hc H H') (f : Nw Hc H' H'') : Nw Hc H H'' := fun x o n h => f x o n (e x o n h)
theorem Nw.fx {Hc H H' : Hp} {b : Addr} {o : HO} (h : Hc b = some o) (f : Fx b H H') : Nw Hc H H' := fun x v n g => f x v (fun e => by subst e; rw [h] at n; cases n) g
theorem Nw.put {Hc H : Hp} {a : Addr} {o u : HO} (h : Hc a = some u) : Nw Hc H (upd H a o) := fun x v n g => by
  rw [upd_ne (fun e => by subst e; rw [h] at n; cases n)]
  exact g
theorem GridN.nw {H H1 H2 : Hp} {s : Addr} {G : Grid} (h : GridN H H1 s G) (e : Nw H H1 H2) : GridN H H2 s G := by
  obtain ⟨h0, ps, h1, h2, h4, h5, h3⟩ := h
  exact ⟨h0, ps, e _ _ h0 h1, h2, h4, h5, fun i p q => ⟨(h3 i p q).1, e _ _ (h3 i p q).1 (h3 i p q).2⟩⟩
/-- one row more, made while the grid stood -/
theorem GridN.push {H H1 H' : Hp} {s p : Addr} {G : Grid} {r : List Nat} (h : GridN H H1 s G) (nH : H p = none) (np : H1 p = none) (e : Nw H H1 H') (hp : H' p = some (.lst ((nz r).map V.int))) :
    ∃ xs, H' s = some (.lst xs) ∧ xs.length = G.length ∧ GridN H (upd H' s (.lst (xs ++ [.ref p]))) s (G ++ [r]) := by
  have q1 := h
  obtain ⟨h0, ps, h1, h2, h4, h5, h3⟩ := h
  have hs : p ≠ s := Ne.symm (ne_of_none h1 np)
  refine ⟨_, e _ _ h0 h1, by rw [List.length_map]; exact h2, h0, ps ++ [p], by rw [upd_same, List.map_append]; rfl, by rw [List.length_append, List.length_append, h2]; rfl, ?_, ?_, fun i q eq => ?_⟩
  · rw [List.nodup_append]
    refine ⟨h4, by simp, fun a ha b hb e => ?_⟩
    rw [List.mem_singleton.mp hb] at e
    subst e
    obtain ⟨j, hj, ej⟩ := List.getElem_of_mem ha
    have := (h3 j a (List.getElem?_eq_some_iff.mpr ⟨hj, ej⟩)).2
    rw [np] at this
    cases this
  · intro m
    rcases List.mem_append.mp m with m | m
    · exact h5 m
    · exact hs (List.mem_singleton.mp m).symm
  · by_cases hi : i < ps.length
    · rw [List.getElem?_append_left hi] at eq
      have := h3 i q eq
      have ns : q ≠ s := fun z => h5 (z ▸ List.mem_of_getElem? eq)
      refine ⟨this.1, ?_⟩
      rw [upd_ne ns, e _ _ this.1 this.2]
      unfold row
      rw [List.getD_eq_getElem?_getD, List.getD_eq_getElem?_getD, List.getElem?_append_left (by omega)]
    · rw [List.getElem?_append_right (by omega)] at eq
      have hi2 : i - ps.length = 0 := by
        have := (List.getElem?_eq_some_iff.mp eq).1
        rw [List.length_singleton] at this
        omega
      rw [hi2] at eq
      obtain rfl : p = q := by simpa using eq
      refine ⟨nH, ?_⟩
      rw [upd_ne hs, hp]
      unfold row
      have : i = G.length := by omega
      rw [this, List.getD_eq_getElem?_getD, List.getElem?_append_right (Nat.le_refl _), Nat.sub_self]
      rfl
theorem GridN.nil {H : Hp} {s : Addr} (h : H s = none) : GridN H (upd H s (.lst [])) s [] := ⟨h, [], upd_same, rfl, List.nodup_nil, List.not_mem_nil, fun i p e => by simp at e⟩
/-- as data -/
def dG (G : Grid) : PyData := .list (G.map fun r => .list ((nz r).map PyData.int))
theorem dG_LL (G : Grid) : dG G = dLL (G.map nz) := by unfold dG dLL; rw [List.map_map]; rfl
theorem GridAt.dp {K : PySem.W.Frag} {H : Hp} {s : Addr} {G : Grid} (h : GridAt H s G) : Dp K H (.ref s) (dG G) := by
  obtain ⟨ps, h1, h2, h3⟩ := h
  rw [dG_LL]
  refine .lst (.inl (.inl h1)) (dp_ll (by rw [List.length_map]; exact h2) fun i p l a b => ?_)
  rw [List.getElem?_map] at b
  cases q : G[i]? with
  | none => rw [q] at b; cases b
  | some r =>
    rw [q] at b
    cases b
    have := h3 i p a
    rw [row_at q] at this
    exact .inl (.inl this)
theorem shp_LL (ls : List (List Int)) : SeqAt.shaped (dLL ls) = true := by
  have h0 : ∀ ns : List Int, PyData.canLayAll0 (ns.map PyData.int) = true := fun ns => by
    induction ns with
    | nil => simp [PyData.canLayAll0]
    | cons n ns ih => simp [PyData.canLayAll0, PyData.canLay0, ih]
  have h1 : ∀ ls : List (List Int), PyData.canLayAll0 (ls.map fun l => PyData.list (l.map PyData.int)) = true := fun ls => by
    induction ls with
    | nil => simp [PyData.canLayAll0]
    | cons l ls ih => simp [PyData.canLayAll0, PyData.canLay0, ih, h0]
  have h2 := dep_all (ds := ls.map fun l => PyData.list (l.map PyData.int)) (n := 1) fun d m => by
      obtain ⟨l, hm, rfl⟩ := List.mem_map.mp m
      simp only [PyData.depth]
      have := dep_all (ds := l.map PyData.int) (n := 0) fun d m => by
        obtain ⟨x, hx, rfl⟩ := List.mem_map.mp m
        simp [PyData.depth]
      omega
  show (PyData.canLay0 _ && decide (PyData.depth _ ≤ 64)) = true
  rw [Bool.and_eq_true]
  refine ⟨?_, decide_eq_true ?_⟩
  · unfold dLL; simp only [PyData.canLay0]; exact h1 ls
  · unfold dLL; simp only [PyData.depth]; omega
theorem eqv_LL : ∀ as bs : List (List Int), PyData.eqv (dLL as) (dLL bs) = decide (as = bs) := fun as bs => by
  unfold dLL
  simp only [PyData.eqv]
  induction as generalizing bs with
  | nil => cases bs <;> simp [PyData.eqvAll]
  | cons a as ih =>
    cases bs with
    | nil => simp [PyData.eqvAll]
    | cons b bs =>
      simp only [List.map_cons, PyData.eqvAll, eqv_ints, ih]
      by_cases h : a = b
      · subst h; simp
      · simp [h]
theorem nzs_inj : ∀ {a b : Grid}, a.map nz = b.map nz → a = b
  | [], [], _ => rfl
  | [], y :: b, h => by cases h
  | x :: a, [], h => by cases h
  | x :: a, y :: b, h => by
    rw [List.map_cons, List.map_cons] at h
    rw [nz_inj (List.cons.inj h).1, nzs_inj (List.cons.inj h).2]
theorem eqGrid {K : PySem.W.Frag} {H : Hp} {Q : VK} {a b : Addr} {F G : Grid} (h : GridAt H a F) (g : GridAt H b G) (q : Q (.bl (decide (F = G))) H) : rEqD K (.ref a) (.ref b) H Q := by
  have e : decide (F.map nz = G.map nz) = decide (F = G) := by
    by_cases z : F = G
    · rw [z, decide_eq_true rfl, decide_eq_true rfl]
    · rw [decide_eq_false z, decide_eq_false fun y => z (nzs_inj y)]
  refine ⟨_, _, h.dp, g.dp, by rw [dG_LL]; exact shp_LL _, by rw [dG_LL]; exact shp_LL _, ?_⟩
  rw [dG_LL, dG_LL, eqv_LL, e]
  exact q
theorem neGrid {K : PySem.W.Frag} {H : Hp} {Q : VK} {a b : Addr} {F G : Grid} (h : GridAt H a F) (g : GridAt H b G) (q : Q (.bl (!decide (F = G))) H) : rNeD K (.ref a) (.ref b) H Q := by
  have e : decide (F.map nz = G.map nz) = decide (F = G) := by
    by_cases z : F = G
    · rw [z, decide_eq_true rfl, decide_eq_true rfl]
    · rw [decide_eq_false z, decide_eq_false fun y => z (nzs_inj y)]
  refine ⟨_, _, h.dp, g.dp, by rw [dG_LL]; exact shp_LL _, by rw [dG_LL]; exact shp_LL _, ?_⟩
  rw [dG_LL, dG_LL, eqv_LL, e]
  exact q
theorem at_ints {ns : List Int} {i : Nat} {n : Int} (h : ns[i]? = some n) : (ns.map V.int)[i]? = some (.int n) := by rw [List.getElem?_map, h]; rfl
theorem atI_last {xs : List V} {v : V} (h : xs[xs.length - 1]? = some v) : atI xs (-1) = some v := by
  have hl : xs.length - 1 < xs.length := (List.getElem?_eq_some_iff.mp h).1
  have e : ixN xs.length (-1) = some (xs.length - 1) := by
    unfold ixN
    rw [if_neg (by omega), if_pos (by omega)]
    congr 1
    omega
  unfold atI
  rw [e]
  exact h
theorem cutV_from1 (xs : List V) : cutV xs (some 1) none = xs.drop 1 := by
  unfold cutV
  have e2 : HT.sIx xs.length xs.length none = xs.length := rfl
  have e1 : HT.sIx xs.length 0 (some 1) = min 1 xs.length := HT.sIx_nat ..
  rw [e1, e2]
  by_cases h : 1 ≤ xs.length
  · rw [Nat.min_eq_left h, List.take_of_length_le (by rw [List.length_drop]; omega)]
  · have : xs = [] := List.length_eq_zero_iff.mp (by omega)
    rw [this]
    rfl
theorem cut_take (xs : List V) (j : Nat) : cutV xs none (some (j : Int)) = xs.take j := by
  by_cases h : j ≤ xs.length
  · exact BC.cut_to xs rfl h
  · unfold cutV
    have e1 : HT.sIx xs.length 0 none = 0 := rfl
    rw [HT.sIx_nat, e1, List.drop_zero, Nat.sub_zero, Nat.min_eq_right (by omega), List.take_length, List.take_of_length_le (by omega)]
theorem GridN.get {H H' : Hp} {s : Addr} {G : Grid} (h : GridN H H' s G) {i : Nat} (hi : i < G.length) : ∃ p xs, H' s = some (.lst xs) ∧ xs.length = G.length ∧ xs[i]? = some (.ref p) ∧ H' p = some (.lst ((nz (row G i)).map V.int)) ∧ H p = none := by
  obtain ⟨_, ps, h1, h2, _, _, h3⟩ := h
  have hx : ps[i]? = some ps[i] := List.getElem?_eq_getElem (by omega)
  exact ⟨ps[i], _, h1, by rw [List.length_map]; exact h2, by rw [List.getElem?_map, hx]; rfl, (h3 i _ hx).2, (h3 i _ hx).1⟩
theorem GridN.lower {Hl H H' : Hp} {b s : Addr} {G : Grid} (h : GridN H H' s G) (f : Fx b Hl H) (hb : ∃ o, H b = some o) : GridN Hl H' s G := by
  obtain ⟨o, ho⟩ := hb
  obtain ⟨h0, ps, h1, h2, h4, h5, h3⟩ := h
  have nb : ∀ {x : Addr}, H x = none → x ≠ b := fun n e => by subst e; rw [ho] at n; cases n
  exact ⟨fx_none f h0 (nb h0), ps, h1, h2, h4, h5, fun i p q => ⟨fx_none f (h3 i p q).1 (nb (h3 i p q).1), (h3 i p q).2⟩⟩
theorem nd_at {l : List Addr} (h : l.Nodup) {i j : Nat} {x : Addr} (a : l[i]? = some x) (b : l[j]? = some x) : i = j := by
  obtain ⟨h1, h2⟩ := List.getElem?_eq_some_iff.mp a
  obtain ⟨h3, h4⟩ := List.getElem?_eq_some_iff.mp b
  have e1 := h.idxOf_getElem i h1
  have e2 := h.idxOf_getElem j h3
  rw [h2] at e1
  rw [h4] at e2
  exact e1.symm.trans e2
/-- kept of a list -/
theorem kept_nz (s : List Nat) (k : Nat → Bool) : kept s.length (fun i => k (s.getD i 0)) (fun i => V.int ((s.getD i 0 : Nat) : Int)) = (nz (s.filter k)).map V.int := by
  unfold kept nz
  have e : (List.range s.length).map (fun i => s.getD i 0) = s := by
    apply List.ext_getElem?
    intro j
    by_cases h : j < s.length
    · rw [List.getElem?_map, List.getElem?_range h, List.getElem?_eq_getElem h]
      show some (s.getD j 0) = _
      rw [List.getD_eq_getElem?_getD, List.getElem?_eq_getElem h]
      rfl
    · rw [List.getElem?_eq_none (by rw [List.length_map, List.length_range]; omega), List.getElem?_eq_none (by omega)]
  conv => rhs; rw [← e]
  rw [List.filter_map, List.map_map, List.map_map]
  rfl
theorem kept_rng (n : Nat) (k : Nat → Bool) : kept n k (fun i => V.int ((i : Nat) : Int)) = (nz ((List.range n).filter k)).map V.int := by
  unfold kept nz
  rw [List.map_map]
  rfl
/-- zip of lists of different lengths -/
theorem lc_zipM {K : PySem.W.Frag} {σ : L2.St} {H1 : Hp} {tt : TT} {te : TE} {vs : List Nat} {Dl : Addr} {Q : VK} {a b : Addr} {xs ys : List V} {j k : Nat} (n : Nat) (keep : Nat → Bool) (f : Nat → V) (hx : SqL K H1 a xs) (hy : SqL K H1 b ys) (h1 : n ≤ xs.length) (h2 : n ≤ ys.length) (h3 : n = xs.length ∨ n = ys.length) (hD : H1 Dl = none) (hn : n ≤ 100000)
    (hw : ∀ u v : V, wipe (((wipe σ vs).set j (some u)).set k (some v)) vs = wipe σ vs)
    (ht : ∀ i x y, xs[i]? = some x → ys[i]? = some y → Evl.EvT tt (((wipe σ vs).set j (some x)).set k (some y)) H1 (keep i))
    (he : ∀ i x y, xs[i]? = some x → ys[i]? = some y → keep i = true → Evl.Ev te (((wipe σ vs).set j (some x)).set k (some y)) H1 (f i))
    (hd : ∀ H', Evl.Ex H1 H' → H' Dl = some (.lst (kept n keep f)) → Q (.ref Dl) H') : LcG (Itz K a b) (gTup K 2 (gCons (gName j) (gCons (gName k) gNil))) tt te vs σ Dl H1 Q := by
  have gx : ∀ i, i < n → xs[i]? = some (xs.getD i .non) := fun i hi => by rw [List.getD_eq_getElem?_getD, List.getElem?_eq_getElem (by omega)]; rfl
  have gy : ∀ i, i < n → ys[i]? = some (ys.getD i .non) := fun i hi => by rw [List.getD_eq_getElem?_getD, List.getElem?_eq_getElem (by omega)]; rfl
  refine lc_pure n (fun i => ((wipe σ vs).set j (some (xs.getD i .non))).set k (some (ys.getD i .non))) keep f hD hn (fun H' e => ⟨xs, ys, Evl.ex_l e hx, Evl.ex_l e hy, by omega⟩)
    (fun i H' hi e => ⟨xs, ys, _, _, Evl.ex_l e hx, Evl.ex_l e hy, gx i hi, gy i hi⟩)
    (fun i H' x H'' QG hi e y q => ?_) (fun i hi => hw _ _) (fun i hi => ht i _ _ (gx i hi) (gy i hi)) (fun i hi => he i _ _ (gx i hi) (gy i hi)) hd
  obtain ⟨T, u, v, rfl, hT, rfl, hf, hf2⟩ := y
  have hu := hf xs (Evl.ex_l e hx)
  have hv := hf2 ys (Evl.ex_l e hy)
  have e1 : xs.getD i .non = u := by rw [List.getD_eq_getElem?_getD, hu]; rfl
  have e2 : ys.getD i .non = v := by rw [List.getD_eq_getElem?_getD, hv]; rfl
  refine g_two upd_same ?_
  have q2 := q (Evl.Ex.new hT)
  rw [e1, e2] at q2
  exact q2
end BC

set_option Elab.async false
set_option linter.all false
set_option maxRecDepth 100000
set_option maxHeartbeats 4000000
/-! walks on a site, by number and one by one -/
namespace BC
section
open PySem PySem.Spec PyProof.Rows L2 Evl
/-- xs[i] of xs[i] += e -/
def rGetL (K : PySem.W.Frag) : V → V → Hp → VK → Prop := fun x y H Q => ∃ p xs, ∃ i : Nat, ∃ v, x = .ref p ∧ y = .int i ∧ SqL K H p xs ∧ xs[i]? = some v ∧ Q v H
theorem k_get {X : Cx} {K : PySem.W.Frag} (hK : X.K = K) : PGet X (rGetL K) := by
  subst hK
  intro pins s σ H o i ov iv Q I ro ri h
  obtain ⟨p, xs, j, v, rfl, rfl, hq, hv, q⟩ := h
  cases ro
  obtain ⟨t, rfl⟩ := ri
  obtain ⟨its, r, pl, hz⟩ := I.list hq
  obtain ⟨u, eu, ru⟩ := r.get hv
  have hl := r.length
  have hn := line63
  have hj := (List.getElem?_eq_some_iff.mp hv).1
  refine wpAny_getItem_list (x := u) pl.isList (by omega) (by omega) (by simpa using eu) ⟨v, H, I, ru, q⟩
theorem getL {K : PySem.W.Frag} {H : Hp} {Q : VK} {p : Addr} {xs : List V} {k : Int} {i : Nat} {v : V} (h : SqL K H p xs) (e : k = (i : Int)) (hv : xs[i]? = some v) (q : Q v H) : rGetL K (.ref p) (.int k) H Q := by subst e; exact ⟨p, xs, i, v, rfl, rfl, h, hv, q⟩
theorem x_augS {to ti te : TE} {tget : V → V → Hp → VK → Prop} {tip : TIp} {tset : TSet} {D : Ends} {σ : L2.St} {H : Hp} : tAugS to ti te tget tip tset D σ H = to σ H fun o H1 => ti σ H1 fun i H2 => tget o i H2 fun x H3 => te σ H3 fun y H4 => tip x y H4 fun z H5 => tset o i z H5 fun H6 => D.nx σ H6 := rfl
end
/-- the walks of t steps from v -/
def wf (G : Grid) : Nat → Nat → List (List Nat)
  | 0, v => [[v]]
  | t + 1, v => ((row G v).map fun u => (wf G t u).map (v :: ·)).flatten
def lst (r : List Nat) : Nat := r.getLast?.getD 0
def grow (G : Grid) (r : List Nat) : List (List Nat) := (row G (lst r)).map fun u => r ++ [u]
theorem wf_ne {G : Grid} : ∀ (t v : Nat), ∀ r ∈ wf G t v, r ≠ []
  | 0, v, r, h => by
    obtain rfl : r = [v] := by simpa [wf] using h
    simp
  | t + 1, v, r, h => by
    unfold wf at h
    obtain ⟨a, ha, hr⟩ := List.mem_flatten.mp h
    obtain ⟨u, _, rfl⟩ := List.mem_map.mp ha
    obtain ⟨q, _, rfl⟩ := List.mem_map.mp hr
    simp
theorem grow_cons (G : Grid) (v : Nat) {r : List Nat} (h : r ≠ []) : grow G (v :: r) = (grow G r).map (v :: ·) := by
  unfold grow lst
  rw [List.map_map, List.getLast?_cons_of_ne_nil h]
  rfl
theorem sum_zeros {α : Type} : ∀ l : List α, (l.map fun _ => 0).sum = 0
  | [] => rfl
  | x :: l => by rw [List.map_cons, List.sum_cons, sum_zeros l]
theorem map_flatten' {α β : Type} (f : α → β) : ∀ l : List (List α), l.flatten.map f = (l.map (·.map f)).flatten
  | [] => rfl
  | a :: l => by rw [List.flatten_cons, List.map_append, map_flatten' f l]; rfl
theorem flatten_flatten' {α : Type} : ∀ l : List (List (List α)), l.flatten.flatten = (l.map (·.flatten)).flatten
  | [] => rfl
  | a :: l => by rw [List.flatten_cons, List.flatten_append, flatten_flatten' l]; rfl
theorem wf_snoc (G : Grid) : ∀ (t v : Nat), wf G (t + 1) v = ((wf G t v).map (grow G)).flatten
  | 0, v => by
    show ((row G v).map fun u => [[v, u]]).flatten = (grow G [v]) ++ []
    rw [List.append_nil]
    show ((row G v).map fun u => [[v, u]]).flatten = (row G v).map fun u => [v, u]
    generalize row G v = l
    induction l with
    | nil => rfl
    | cons x l ih =>
      rw [List.map_cons, List.flatten_cons, ih]
      rfl
  | t + 1, v => by
    have ih := fun u => wf_snoc G t u
    show ((row G v).map fun u => (wf G (t + 1) u).map (v :: ·)).flatten = ((((row G v).map fun u => (wf G t u).map (v :: ·)).flatten).map (grow G)).flatten
    rw [map_flatten', flatten_flatten', List.map_map, List.map_map]
    congr 1
    apply List.map_congr_left
    intro u _
    show (wf G (t + 1) u).map (v :: ·) = ((wf G t u |>.map (v :: ·)).map (grow G)).flatten
    rw [ih u, map_flatten', List.map_map, List.map_map]
    congr 1
    apply List.map_congr_left
    intro r hr
    show (grow G r).map (v :: ·) = grow G (v :: r)
    rw [grow_cons G v (wf_ne t u r hr)]
/-- the number of walks of t steps from v to the page that keep out -/
def fw (G : Grid) (out : List Nat) (p : Nat) : Nat → Nat → Nat
  | 0, v => if v = p ∧ v ∉ out then 1 else 0
  | t + 1, v => if v ∉ out then ((row G v).map fun u => fw G out p t u).sum else 0
/-- a walk to the page that keeps out -/
def good (out : List Nat) (p : Nat) (r : List Nat) : Bool := decide (lst r = p) && decide (r.filter (fun x => decide (x ∈ out)) = [])
theorem good_cons {out : List Nat} {p v : Nat} {r : List Nat} (h : r ≠ []) : good out p (v :: r) = (decide (v ∉ out) && good out p r) := by
  unfold good lst
  rw [List.getLast?_cons_of_ne_nil h]
  by_cases c : v ∈ out
  · simp [c]
  · simp [c]
theorem len_flat {α : Type} (P : α → Bool) : ∀ l : List (List α), (l.flatten.filter P).length = (l.map fun a => (a.filter P).length).sum
  | [] => rfl
  | a :: l => by rw [List.flatten_cons, List.filter_append, List.length_append, len_flat P l]; rfl
theorem fw_count (G : Grid) (out : List Nat) (p : Nat) : ∀ (t v : Nat), ((wf G t v).filter (good out p)).length = fw G out p t v
  | 0, v => by
    show ([[v]].filter (good out p)).length = if v = p ∧ v ∉ out then 1 else 0
    have e : good out p [v] = (decide (v = p) && decide (v ∉ out)) := by
      show (decide (v = p) && decide ([v].filter (fun x => decide (x ∈ out)) = [])) = _
      congr 1
      by_cases c : v ∈ out <;> simp [c]
    by_cases a : v = p <;> by_cases c : v ∈ out <;> simp [e, a, c]
    all_goals (subst a; simp_all)
  | t + 1, v => by
    show ((((row G v).map fun u => (wf G t u).map (v :: ·)).flatten).filter (good out p)).length = if v ∉ out then ((row G v).map fun u => fw G out p t u).sum else 0
    rw [len_flat, List.map_map]
    have key : ∀ u, (((wf G t u).map (v :: ·)).filter (good out p)).length = if v ∉ out then fw G out p t u else 0 := fun u => by
      rw [List.filter_map, List.length_map]
      have e : (wf G t u).filter (good out p ∘ fun x => v :: x) = (wf G t u).filter fun r => decide (v ∉ out) && good out p r := by
        apply List.filter_congr
        intro r hr
        show good out p (v :: r) = _
        rw [good_cons (wf_ne t u r hr)]
      rw [e]
      by_cases c : v ∈ out
      · simp [c]
      · rw [if_pos c]
        simp only [c, not_false_eq_true, decide_true, Bool.true_and]
        exact fw_count G out p t u
    by_cases c : v ∈ out
    · rw [if_neg (by simpa using c)]
      have : (row G v).map ((fun a => (List.filter (good out p) a).length) ∘ fun u => (wf G t u).map (v :: ·)) = (row G v).map fun _ => 0 := List.map_congr_left fun u _ => by
        show (((wf G t u).map (v :: ·)).filter (good out p)).length = 0
        rw [key u, if_neg (by simpa using c)]
      rw [this, sum_zeros]
    · rw [if_pos c]
      congr 1
      apply List.map_congr_left
      intro u _
      show (((wf G t u).map (v :: ·)).filter (good out p)).length = _
      rw [key u, if_pos c]
theorem wf_lt {G : Grid} (h : SiteOk G) : ∀ (t v : Nat), v < G.length → ∀ r ∈ wf G t v, (∀ x ∈ r, x < G.length) ∧ r.length = t + 1
  | 0, v, hv, r, hr => by
    obtain rfl : r = [v] := by simpa [wf] using hr
    exact ⟨fun x hx => by rw [List.mem_singleton.mp hx]; exact hv, rfl⟩
  | t + 1, v, hv, r, hr => by
    unfold wf at hr
    obtain ⟨a, ha, hr⟩ := List.mem_flatten.mp hr
    obtain ⟨u, hu, rfl⟩ := List.mem_map.mp ha
    obtain ⟨q, hq, rfl⟩ := List.mem_map.mp hr
    obtain ⟨h1, h2⟩ := wf_lt h t u (h.rlt hu) q hq
    refine ⟨fun x hx => ?_, by rw [List.length_cons, h2]⟩
    rcases List.mem_cons.mp hx with rfl | hx
    · exact hv
    · exact h1 x hx
theorem sum_le {f : Nat → Nat} {b : Nat} : ∀ {l : List Nat}, (∀ x ∈ l, f x ≤ b) → (l.map f).sum ≤ l.length * b
  | [], _ => by simp
  | x :: l, h => by
    have a := h x List.mem_cons_self
    have b := sum_le (l := l) fun y hy => h y (List.mem_cons_of_mem _ hy)
    rw [List.map_cons, List.sum_cons, List.length_cons, Nat.succ_mul]
    omega
theorem fw_le {G : Grid} (h : SiteOk G) (out : List Nat) (p : Nat) : ∀ t v, fw G out p t v ≤ 12 ^ t
  | 0, v => by
    unfold fw
    split <;> simp
  | t + 1, v => by
    unfold fw
    split
    · have a := sum_le (f := fun u => fw G out p t u) (b := 12 ^ t) (l := row G v) fun u _ => fw_le h out p t u
      have b := Nat.mul_le_mul_right (12 ^ t) (h.rlen v)
      rw [Nat.pow_succ, Nat.mul_comm]
      omega
    · exact Nat.zero_le _
theorem wf_len {G : Grid} (h : SiteOk G) : ∀ (t v : Nat), (wf G t v).length ≤ G.length ^ t
  | 0, v => by simp [wf]
  | t + 1, v => by
    show (((row G v).map fun u => (wf G t u).map (v :: ·)).flatten).length ≤ _
    have e : (((row G v).map fun u => (wf G t u).map (v :: ·)).flatten).length = ((row G v).map fun u => (wf G t u).length).sum := by
      rw [List.length_flatten, List.map_map]
      congr 1
      apply List.map_congr_left
      intro u _
      show ((wf G t u).map _).length = _
      rw [List.length_map]
    rw [e]
    have a := sum_le (f := fun u => (wf G t u).length) (b := G.length ^ t) (l := row G v) fun u _ => wf_len h t u
    have rl : (row G v).length ≤ G.length := by
      by_cases q : v < G.length
      · exact nodup_lt _ (asc_nodup (h.asc v _ (at_row q))) (h.lt v _ (at_row q))
      · unfold row
        rw [List.getD_eq_getElem?_getD, List.getElem?_eq_none (by omega)]
        exact Nat.zero_le _
    have b := Nat.mul_le_mul_right (G.length ^ t) rl
    rw [Nat.pow_succ, Nat.mul_comm]
    omega
theorem flat_le {α β : Type} {f : α → List β} {b : Nat} : ∀ {l : List α}, (∀ x ∈ l, (f x).length ≤ b) → (l.map f).flatten.length ≤ l.length * b
  | [], _ => by simp
  | x :: l, h => by
    have a := h x List.mem_cons_self
    have c := flat_le (l := l) fun y hy => h y (List.mem_cons_of_mem _ hy)
    rw [List.map_cons, List.flatten_cons, List.length_append, List.length_cons, Nat.succ_mul]
    omega
/-! ### products of lists of numbers -/
def cnv (a b : List Nat) (k : Nat) : Nat := ((List.range (k + 1)).map fun i => a.getD i 0 * b.getD (k - i) 0).sum
def conv (a b : List Nat) (n : Nat) : List Nat := (List.range (n + 1)).map fun k => cnv a b k
theorem conv_len (a b : List Nat) (n : Nat) : (conv a b n).length = n + 1 := by unfold conv; rw [List.length_map, List.length_range]
theorem conv_at {a b : List Nat} {n k : Nat} (h : k ≤ n) : (conv a b n)[k]? = some (cnv a b k) := by
  unfold conv
  rw [List.getElem?_map, List.getElem?_range (by omega)]
  rfl
/-- what is added up while the first i of a are done, and j of b at the next one -/
def part (a b : List Nat) (i j k : Nat) : Nat := ((List.range (k + 1)).map fun u => if u < i ∨ (u = i ∧ k - u < j) then a.getD u 0 * b.getD (k - u) 0 else 0).sum
theorem part_zero (a b : List Nat) (k : Nat) : part a b 0 0 k = 0 := by
  unfold part
  have : (List.range (k + 1)).map (fun u => if u < 0 ∨ (u = 0 ∧ k - u < 0) then a.getD u 0 * b.getD (k - u) 0 else 0) = (List.range (k + 1)).map fun _ => 0 := List.map_congr_left fun u _ => by rw [if_neg (by omega)]
  rw [this, sum_zeros]
theorem sum_one (n i : Nat) (f g : Nat → Nat) (c : Nat) (hi : i < n) (h1 : ∀ u, u < n → u ≠ i → g u = f u) (h2 : g i = f i + c) : ((List.range n).map g).sum = ((List.range n).map f).sum + c := by
  induction n with
  | zero => omega
  | succ n ih =>
    rw [List.range_succ, List.map_append, List.map_append, List.sum_append, List.sum_append]
    simp only [List.map_cons, List.map_nil, List.sum_cons, List.sum_nil]
    by_cases e : i = n
    · subst e
      have : (List.range i).map g = (List.range i).map f := List.map_congr_left fun u hu => h1 u (by rw [List.mem_range] at hu; omega) (by rw [List.mem_range] at hu; omega)
      rw [this, h2]
      omega
    · rw [ih (by omega) (fun u hu ne => h1 u (by omega) ne), h1 n (by omega) (Ne.symm e)]
      omega
theorem part_step {a b : List Nat} {i j k : Nat} : part a b i (j + 1) k = part a b i j k + if k = i + j then a.getD i 0 * b.getD j 0 else 0 := by
  unfold part
  by_cases c : k = i + j
  · rw [if_pos c]
    refine sum_one (k + 1) i _ _ _ (by omega) (fun u hu ne => ?_) ?_
    · have : (u < i ∨ (u = i ∧ k - u < j + 1)) ↔ (u < i ∨ (u = i ∧ k - u < j)) := by omega
      simp only [this]
    · have e : k - i = j := by omega
      rw [if_pos (by omega), if_neg (by omega), e, Nat.zero_add]
  · rw [if_neg c, Nat.add_zero]
    congr 1
    apply List.map_congr_left
    intro u hu
    rw [List.mem_range] at hu
    have : (u < i ∨ (u = i ∧ k - u < j + 1)) ↔ (u < i ∨ (u = i ∧ k - u < j)) := by omega
    simp only [this]
theorem part_next {a b : List Nat} {i j k : Nat} (h : k < i + j ∨ b.length ≤ j ∨ a.getD i 0 = 0) : part a b i j k = part a b (i + 1) 0 k := by
  unfold part
  congr 1
  apply List.map_congr_left
  intro u hu
  rw [List.mem_range] at hu
  by_cases c1 : u < i
  · rw [if_pos (.inl c1), if_pos (by omega)]
  · by_cases c2 : u = i
    · subst c2
      rw [if_pos (show u < u + 1 ∨ _ by omega)]
      by_cases c3 : k - u < j
      · rw [if_pos (by omega)]
      · rw [if_neg (by omega)]
        rcases h with h | h | h
        · omega
        · rw [show b.getD (k - u) 0 = 0 by rw [List.getD_eq_getElem?_getD, List.getElem?_eq_none (by omega)]; rfl, Nat.mul_zero]
        · rw [h, Nat.zero_mul]
    · rw [if_neg (by omega), if_neg (by omega)]
theorem part_full {a b : List Nat} {i k : Nat} (h : k < i ∨ a.length ≤ i) : part a b i 0 k = cnv a b k := by
  unfold part cnv
  congr 1
  apply List.map_congr_left
  intro u hu
  rw [List.mem_range] at hu
  by_cases c : u < i
  · rw [if_pos (.inl c)]
  · rw [if_neg (by omega)]
    rw [show a.getD u 0 = 0 by rw [List.getD_eq_getElem?_getD, List.getElem?_eq_none (by omega)]; rfl, Nat.zero_mul]
theorem part_le {a b : List Nat} {i j k B C : Nat} (ha : ∀ x ∈ a, x ≤ B) (hb : ∀ x ∈ b, x ≤ C) : part a b i j k ≤ (k + 1) * (B * C) := by
  unfold part
  have ga : ∀ u, a.getD u 0 ≤ B := fun u => by
    by_cases q : u < a.length
    · rw [List.getD_eq_getElem?_getD, List.getElem?_eq_getElem q]
      exact ha _ (List.getElem_mem q)
    · rw [List.getD_eq_getElem?_getD, List.getElem?_eq_none (by omega)]
      exact Nat.zero_le _
  have gb : ∀ u, b.getD u 0 ≤ C := fun u => by
    by_cases q : u < b.length
    · rw [List.getD_eq_getElem?_getD, List.getElem?_eq_getElem q]
      exact hb _ (List.getElem_mem q)
    · rw [List.getD_eq_getElem?_getD, List.getElem?_eq_none (by omega)]
      exact Nat.zero_le _
  have := sum_le (f := fun u => if u < i ∨ (u = i ∧ k - u < j) then a.getD u 0 * b.getD (k - u) 0 else 0) (b := B * C) (l := List.range (k + 1)) fun u _ => by
    split
    · exact Nat.mul_le_mul (ga u) (gb _)
    · exact Nat.zero_le _
  rw [List.length_range] at this
  exact this
/-- the list of the sums -/
def parts (a b : List Nat) (n i j : Nat) : List Nat := (List.range (n + 1)).map fun k => part a b i j k
theorem parts_len (a b : List Nat) (n i j : Nat) : (parts a b n i j).length = n + 1 := by unfold parts; rw [List.length_map, List.length_range]
theorem parts_at {a b : List Nat} {n i j k : Nat} (h : k ≤ n) : (parts a b n i j)[k]? = some (part a b i j k) := by
  unfold parts
  rw [List.getElem?_map, List.getElem?_range (by omega)]
  rfl
theorem parts_zero (a b : List Nat) (n : Nat) : parts a b n 0 0 = List.replicate (n + 1) 0 := by
  apply List.ext_getElem?
  intro k
  by_cases h : k < n + 1
  · rw [parts_at (by omega), part_zero, List.getElem?_replicate, if_pos h]
  · rw [List.getElem?_eq_none (by rw [parts_len]; omega), List.getElem?_eq_none (by rw [List.length_replicate]; omega)]
theorem parts_step {a b : List Nat} {n i j : Nat} (h : i + j ≤ n) : (parts a b n i j).set (i + j) (part a b i j (i + j) + a.getD i 0 * b.getD j 0) = parts a b n i (j + 1) := by
  apply List.ext_getElem?
  intro k
  by_cases hk : k < n + 1
  · rw [parts_at (by omega), part_step, List.getElem?_set]
    by_cases e : i + j = k
    · subst e
      rw [if_pos rfl, if_pos (by rw [parts_len]; omega), if_pos rfl]
    · rw [if_neg e, parts_at (by omega), if_neg (Ne.symm e), Nat.add_zero]
  · rw [List.getElem?_eq_none (by rw [List.length_set, parts_len]; omega), List.getElem?_eq_none (by rw [parts_len]; omega)]
theorem parts_over {a b : List Nat} {n i j : Nat} (h : n < i + j) : parts a b n i (j + 1) = parts a b n i j := by
  unfold parts
  apply List.map_congr_left
  intro k hk
  rw [List.mem_range] at hk
  rw [part_step, if_neg (by omega), Nat.add_zero]
theorem parts_next {a b : List Nat} {n i j : Nat} (h : n < i + j ∨ b.length ≤ j ∨ a.getD i 0 = 0) : parts a b n i j = parts a b n (i + 1) 0 := by
  unfold parts
  apply List.map_congr_left
  intro k hk
  rw [List.mem_range] at hk
  exact part_next (by omega)
theorem parts_full {a b : List Nat} {n i : Nat} (h : n < i ∨ a.length ≤ i) : parts a b n i 0 = conv a b n := by
  unfold parts conv
  apply List.map_congr_left
  intro k hk
  rw [List.mem_range] at hk
  exact part_full (by omega)
section
open PySem PySem.Spec PyProof.Rows L2 Evl
theorem lc_enumE {K : PySem.W.Frag} {σ : L2.St} {H1 : Hp} {g : TG} {te : TE} {vs : List Nat} {Dl : Addr} {Q : VK} {a : Addr} {xs : List V} (Pv : Nat → Hp → Prop) (h0 : Pv 0 (upd H1 Dl (.lst []))) (hl : ∀ i H, i ≤ xs.length → Pv i H → SqL K H a xs)
    (hs : ∀ i x H T, xs[i]? = some x → Pv i H → H T = none → g (.ref T) (wipe σ vs) (upd H T (.tup [.int (i : Nat), x])) fun σ2 H2 => wipe σ2 vs = wipe σ vs ∧ te σ2 H2 fun y H4 => ∃ acc, H4 Dl = some (.lst acc) ∧ acc.length < sizeLine ∧ Pv (i + 1) (upd H4 Dl (.lst (acc ++ [y]))))
    (hd : ∀ H, Pv xs.length H → Q (.ref Dl) H) : LcG (Ite K a) g tYes te vs σ Dl H1 Q := by
  refine lc_g xs.length Pv h0 (fun H h => ⟨xs, hl _ H (Nat.le_refl _) h, Nat.le_refl _⟩) (fun i H hi h => ⟨xs, xs[i], hl i H (by omega) h, List.getElem?_eq_getElem hi⟩) (fun i H x H' hi h y => ?_) hd
  obtain ⟨T, v, rfl, hT, rfl, hf⟩ := y
  exact hs i v H T (hf xs (hl i _ (by omega) h)) h hT
/-- a row of a new grid changed -/
theorem GridN.chg {H H1 : Hp} {s : Addr} {G : Grid} (h : GridN H H1 s G) {j : Nat} (hj : j < G.length) : ∃ p xs, H1 s = some (.lst xs) ∧ xs.length = G.length ∧ xs[j]? = some (.ref p) ∧ H1 p = some (.lst ((nz (row G j)).map V.int)) ∧ H p = none ∧
    ∀ r : List Nat, GridN H (upd H1 p (.lst ((nz r).map V.int))) s (G.set j r) := by
  obtain ⟨h0, ps, h1, h2, h4, h5, h3⟩ := h
  have hx : ps[j]? = some ps[j] := List.getElem?_eq_getElem (by omega)
  have hp := h3 j _ hx
  refine ⟨ps[j], _, h1, by rw [List.length_map]; exact h2, by rw [List.getElem?_map, hx]; rfl, hp.2, hp.1, fun r => ?_⟩
  have ns : s ≠ ps[j] := fun e => h5 (by rw [e]; exact List.getElem_mem _)
  refine ⟨h0, ps, by rw [upd_ne ns]; exact h1, by rw [List.length_set]; exact h2, h4, h5, fun i q e => ⟨(h3 i q e).1, ?_⟩⟩
  by_cases c : i = j
  · subst c
    rw [hx] at e
    obtain rfl := Option.some.inj e
    rw [upd_same]
    unfold row
    rw [List.getD_eq_getElem?_getD, List.getElem?_set, if_pos rfl, if_pos hj]
    rfl
  · have nq : q ≠ ps[j] := fun z => by
      subst z
      exact c (nd_at h4 e hx)
    rw [upd_ne nq, (h3 i q e).2]
    unfold row
    rw [List.getD_eq_getElem?_getD, List.getD_eq_getElem?_getD, List.getElem?_set, if_neg (Ne.symm c)]
/-! ### what the functions of loops.py give -/
def cl (G : Grid) (out : List Nat) (p n : Nat) : List Nat := (List.range (n + 1)).map fun t => fw G out p t p
def stg (G : Grid) (out : List Nat) (p k j : Nat) : Grid := (List.range G.length).map fun v => (List.range (if v < j then k + 2 else k + 1)).map fun t => fw G out p t v
theorem stg_len (G : Grid) (out : List Nat) (p k j : Nat) : (stg G out p k j).length = G.length := by unfold stg; rw [List.length_map, List.length_range]
theorem stg_row {G : Grid} {out : List Nat} {p k j v : Nat} (h : v < G.length) : row (stg G out p k j) v = (List.range (if v < j then k + 2 else k + 1)).map fun t => fw G out p t v := by
  unfold row stg
  rw [List.getD_eq_getElem?_getD, List.getElem?_map, List.getElem?_range h]
  rfl
theorem stg_set {G : Grid} {out : List Nat} {p k j : Nat} (h : j < G.length) : (stg G out p k j).set j (row (stg G out p k j) j ++ [fw G out p (k + 1) j]) = stg G out p k (j + 1) := by
  apply List.ext_getElem?
  intro v
  by_cases hv : v < G.length
  · rw [List.getElem?_set, stg_row h, if_neg (Nat.lt_irrefl j)]
    have rhs : (stg G out p k (j + 1))[v]? = some (row (stg G out p k (j + 1)) v) := at_row (by rw [stg_len]; exact hv)
    rw [rhs, stg_row hv]
    by_cases e : j = v
    · subst e
      rw [if_pos rfl, if_pos (by rw [stg_len]; exact hv), if_pos (Nat.lt_succ_self j), List.range_succ (n := k + 1), List.map_append]
      rfl
    · rw [if_neg e, at_row (by rw [stg_len]; exact hv), stg_row hv]
      by_cases c : v < j
      · rw [if_pos c, if_pos (by omega)]
      · rw [if_neg c, if_neg (by omega)]
  · rw [List.getElem?_eq_none (by rw [List.length_set, stg_len]; omega), List.getElem?_eq_none (by rw [stg_len]; omega)]
theorem stg_next (G : Grid) (out : List Nat) (p k : Nat) : stg G out p k G.length = stg G out p (k + 1) 0 := by
  unfold stg
  apply List.map_congr_left
  intro v hv
  rw [List.mem_range] at hv
  rw [if_pos hv, if_neg (by omega)]
theorem stg_cl {G : Grid} {out : List Nat} {p n : Nat} (h : p < G.length) : row (stg G out p n 0) p = cl G out p n := by
  rw [stg_row h, if_neg (by omega)]
  rfl
def prs (G : Grid) (L : List Nat) (n : Nat) : Grid := (List.range L.length).map fun i => cl G (L.take i) (L.getD i 0) n
theorem prs_len (G : Grid) (L : List Nat) (n : Nat) : (prs G L n).length = L.length := by unfold prs; rw [List.length_map, List.length_range]
theorem prs_row {G : Grid} {L : List Nat} {n i : Nat} (h : i < L.length) : row (prs G L n) i = cl G (L.take i) (L.getD i 0) n := by
  unfold row prs
  rw [List.getD_eq_getElem?_getD, List.getElem?_map, List.getElem?_range h]
  rfl
def fold (n : Nat) (P : Grid) : List Nat := P.foldl (fun f q => conv f q n) (1 :: List.replicate n 0)
theorem fold_len (n : Nat) (P : Grid) : (fold n P).length = n + 1 := by
  unfold fold
  have : ∀ (P : Grid) (f : List Nat), f.length = n + 1 → (P.foldl (fun f q => conv f q n) f).length = n + 1 := fun P => by
    induction P with
    | nil => exact fun f h => h
    | cons q P ih => exact fun f _ => ih _ (conv_len _ _ _)
  exact this P _ (by simp)
theorem fold_snoc {n : Nat} {P : Grid} {i : Nat} {q : List Nat} (h : P[i]? = some q) : fold n (P.take (i + 1)) = conv (fold n (P.take i)) q n := by
  unfold fold
  rw [List.take_add_one, h, List.foldl_append]
  rfl
theorem cl_le {G : Grid} (h : SiteOk G) (out : List Nat) (p n : Nat) : ∀ x ∈ cl G out p n, x ≤ 12 ^ n := fun x hx => by
  unfold cl at hx
  obtain ⟨t, ht, rfl⟩ := List.mem_map.mp hx
  rw [List.mem_range] at ht
  exact Nat.le_trans (fw_le h out p t p) (Nat.pow_le_pow_right (by omega) (by omega))
theorem cl_len (G : Grid) (out : List Nat) (p n : Nat) : (cl G out p n).length = n + 1 := by unfold cl; rw [List.length_map, List.length_range]
theorem cnv_le {a b : List Nat} {k B C : Nat} (ha : ∀ x ∈ a, x ≤ B) (hb : ∀ x ∈ b, x ≤ C) : cnv a b k ≤ (k + 1) * (B * C) := by
  rw [← part_full (a := a) (b := b) (i := k + 1) (k := k) (.inl (by omega))]
  exact part_le ha hb
theorem fold_le {n : Nat} {P : Grid} (hP : ∀ q ∈ P, ∀ x ∈ q, x ≤ 12 ^ n) : ∀ i, ∀ x ∈ fold n (P.take i), x ≤ ((n + 1) * 12 ^ n) ^ i := fun i => by
  induction i with
  | zero =>
    intro x hx
    rw [List.take_zero] at hx
    have : x ∈ 1 :: List.replicate n 0 := hx
    rcases List.mem_cons.mp this with rfl | h
    · simp
    · rw [List.eq_of_mem_replicate h]; exact Nat.zero_le _
  | succ i ih =>
    intro x hx
    by_cases c : i < P.length
    · have e : P[i]? = some P[i] := List.getElem?_eq_getElem c
      rw [fold_snoc e] at hx
      unfold conv at hx
      obtain ⟨k, hk, rfl⟩ := List.mem_map.mp hx
      rw [List.mem_range] at hk
      have a := cnv_le (k := k) ih (hP P[i] (List.getElem_mem c))
      have b : (k + 1) * (((n + 1) * 12 ^ n) ^ i * 12 ^ n) ≤ (n + 1) * (((n + 1) * 12 ^ n) ^ i * 12 ^ n) := Nat.mul_le_mul_right _ (by omega)
      have d : (n + 1) * (((n + 1) * 12 ^ n) ^ i * 12 ^ n) = ((n + 1) * 12 ^ n) ^ (i + 1) := by
        rw [Nat.pow_succ, Nat.mul_left_comm]
      omega
    · rw [List.take_of_length_le (by omega)] at hx
      rw [List.take_of_length_le (by omega)] at ih
      have a := ih x hx
      have b : ((n + 1) * 12 ^ n) ^ i ≤ ((n + 1) * 12 ^ n) ^ (i + 1) := Nat.pow_le_pow_right (Nat.mul_pos (by omega) (Nat.pow_pos (by omega))) (by omega)
      omega
theorem big_fold {n i : Nat} (hn : n ≤ 60) (hi : i ≤ 12) : ((n + 1) * 12 ^ n) ^ i < 2 ^ 4000 := by
  have a : (n + 1) * 12 ^ n ≤ 61 * 12 ^ 60 := Nat.mul_le_mul (by omega) (Nat.pow_le_pow_right (by omega) hn)
  have b : ((n + 1) * 12 ^ n) ^ i ≤ (61 * 12 ^ 60) ^ i := Nat.pow_le_pow_left a i
  have c : (61 * 12 ^ 60) ^ i ≤ (61 * 12 ^ 60) ^ 12 := Nat.pow_le_pow_right (by decide) hi
  have d : (61 * 12 ^ 60) ^ 12 < 2 ^ 4000 := by decide +kernel
  omega
theorem big_cl {n : Nat} (hn : n ≤ 60) : 12 ^ n < 2 ^ 4000 := by
  have a : 12 ^ n ≤ 12 ^ 60 := Nat.pow_le_pow_right (by omega) hn
  have d : 12 ^ 60 < 2 ^ 4000 := by decide +kernel
  omega
/-- a new grid behind a new grid -/
theorem GridN.ext {H H1 H2 : Hp} {s d : Addr} {G F : Grid} (h : GridN H H1 s G) (g : GridN H1 H2 d F) (e : Ex H1 H2) (low : ∀ x, H1 x = none → H x = none) : ∃ xs zs, H2 s = some (.lst xs) ∧ H2 d = some (.lst zs) ∧ xs.length = G.length ∧ zs.length = F.length ∧ GridN H (upd H2 s (.lst (xs ++ zs))) s (G ++ F) := by
  obtain ⟨h0, ps, h1, h2, h4, h5, h3⟩ := h
  obtain ⟨g0, qs, g1, g2, g4, g5, g3⟩ := g
  refine ⟨_, _, e _ _ h1, g1, by rw [List.length_map, h2], by rw [List.length_map, g2], h0, ps ++ qs, by rw [upd_same, List.map_append], by rw [List.length_append, List.length_append, h2, g2], ?_, ?_, fun i p q => ?_⟩
  · rw [List.nodup_append]
    refine ⟨h4, g4, fun a ha b hb z => ?_⟩
    subst z
    obtain ⟨i, hi, ei⟩ := List.getElem_of_mem ha
    obtain ⟨j, hj, ej⟩ := List.getElem_of_mem hb
    have a1 := (h3 i a (List.getElem?_eq_some_iff.mpr ⟨hi, ei⟩)).2
    have a2 := (g3 j a (List.getElem?_eq_some_iff.mpr ⟨hj, ej⟩)).1
    rw [a2] at a1
    cases a1
  · intro m
    rcases List.mem_append.mp m with m | m
    · exact h5 m
    · obtain ⟨j, hj, ej⟩ := List.getElem_of_mem m
      have a2 := (g3 j s (List.getElem?_eq_some_iff.mpr ⟨hj, ej⟩)).1
      rw [a2] at h1
      cases h1
  · by_cases hi : i < ps.length
    · rw [List.getElem?_append_left hi] at q
      have := h3 i p q
      have ns : p ≠ s := fun z => h5 (z ▸ List.mem_of_getElem? q)
      refine ⟨this.1, ?_⟩
      rw [upd_ne ns, e _ _ this.2]
      unfold row
      rw [List.getD_eq_getElem?_getD, List.getD_eq_getElem?_getD, List.getElem?_append_left (by omega)]
    · rw [List.getElem?_append_right (by omega)] at q
      have := g3 _ p q
      have ns : p ≠ s := fun z => by
        have a := this.1
        rw [z, h1] at a
        cases a
      refine ⟨low p this.1, ?_⟩
      rw [upd_ne ns, this.2]
      unfold row
      rw [List.getD_eq_getElem?_getD, List.getD_eq_getElem?_getD, List.getElem?_append_right (by omega), h2]
theorem kept_ones (s : List Nat) (k : Nat → Bool) : kept s.length (fun i => k (s.getD i 0)) (fun _ => V.int 1) = (nz ((s.filter k).map fun _ => 1)).map V.int := by
  unfold kept nz
  have e : (List.range s.length).map (fun i => s.getD i 0) = s := by
    apply List.ext_getElem?
    intro j
    by_cases h : j < s.length
    · rw [List.getElem?_map, List.getElem?_range h, List.getElem?_eq_getElem h]
      show some (s.getD j 0) = _
      rw [List.getD_eq_getElem?_getD, List.getElem?_eq_getElem h]
      rfl
    · rw [List.getElem?_eq_none (by rw [List.length_map, List.length_range]; omega), List.getElem?_eq_none (by omega)]
  conv => rhs; rw [← e]
  rw [List.filter_map, List.map_map, List.map_map, List.map_map]
  rfl
/-- the rows that are kept -/
theorem GridAt.keep {H' : Hp} {D : Addr} {ps : List Addr} {G : Grid} (P : List Nat → Bool) (k : Nat → Bool) (hl : ps.length = G.length) (hr : ∀ i p, ps[i]? = some p → H' p = some (.lst ((nz (row G i)).map V.int))) (hk : ∀ i, i < G.length → k i = P (row G i))
    (hD : H' D = some (.lst (kept G.length k fun i => .ref (ps.getD i 0)))) : GridAt H' D (G.filter P) := by
  have eG : G = (List.range G.length).map (row G) := by
    apply List.ext_getElem?
    intro j
    by_cases h : j < G.length
    · rw [List.getElem?_map, List.getElem?_range h, at_row h]
      rfl
    · rw [List.getElem?_eq_none (by omega), List.getElem?_eq_none (by rw [List.length_map, List.length_range]; omega)]
  have eF : G.filter P = ((List.range G.length).filter k).map (row G) := by
    conv => lhs; rw [eG]
    rw [List.filter_map]
    congr 1
    apply List.filter_congr
    intro i hi
    rw [List.mem_range] at hi
    exact (hk i hi).symm
  refine ⟨((List.range G.length).filter k).map fun i => ps.getD i 0, ?_, ?_, fun i p e => ?_⟩
  · rw [hD]
    unfold kept
    rw [List.map_map]
    rfl
  · rw [eF, List.length_map, List.length_map]
  · rw [List.getElem?_map] at e
    cases q : ((List.range G.length).filter k)[i]? with
    | none => rw [q] at e; cases e
    | some j =>
      rw [q] at e
      have hj : j < G.length := List.mem_range.mp (List.mem_filter.mp (List.mem_of_getElem? q)).1
      have hx : ps[j]? = some ps[j] := List.getElem?_eq_getElem (by omega)
      have ep : ps.getD j 0 = p := Option.some.inj e
      rw [List.getD_eq_getElem?_getD, hx] at ep
      obtain rfl : ps[j] = p := ep
      rw [hr j _ hx]
      have : row (G.filter P) i = row G j := by
        rw [eF]
        unfold row
        rw [List.getD_eq_getElem?_getD, List.getElem?_map, q]
        rfl
      rw [this]
end
end BC

set_option Elab.async false
set_option linter.all false
set_option maxRecDepth 100000
set_option maxHeartbeats 4000000
/-! dicts: readings, loops over keys, keys that are texts of lists of digits -/
namespace BC
open PySem PySem.Spec PyProof.Rows L2 Evl
section
variable {K : PySem.W.Frag} {σ : L2.St} {H : Hp} {Q : VK} {QT : Bool → Hp → Prop} {td ty tv tx : TE} {D : Ends} {g : TG} {tb : TS} {c : TE}
theorem x_dnewK : tDNewK σ H Q = ∀ p, H p = none → Q (.ref p) (upd H p (.dK [])) := rfl
theorem x_dnewT : tDNewT σ H Q = ∀ p, H p = none → Q (.ref p) (upd H p (.dT [])) := rfl
theorem x_dget : tDGet td ty σ H Q = td σ H (fun x H1 => ty σ H1 fun y H2 => ∃ a v, x = .ref a ∧ DGet H2 a y (some v) ∧ Q v H2) := rfl
theorem x_dget1 : tDGet1 td ty σ H Q = td σ H (fun x H1 => ∃ a, x = .ref a ∧ IsD H1 a ∧ ty σ H1 fun y H2 => ∃ o, DGet H2 a y o ∧ Q (o.getD .non) H2) := rfl
theorem x_dget2 : tDGet2 td ty tx σ H Q = td σ H (fun x H1 => ∃ a, x = .ref a ∧ IsD H1 a ∧ ty σ H1 fun y H2 => tx σ H2 fun z H3 => ∃ o, DGet H3 a y o ∧ Q (o.getD z) H3) := rfl
theorem x_din : tDIn ty td σ H Q = ty σ H (fun y H1 => td σ H1 fun x H2 => ∃ a o, x = .ref a ∧ DGet H2 a y o ∧ Q (.bl o.isSome) H2) := rfl
theorem x_dnotin : tDNotIn ty td σ H Q = ty σ H (fun y H1 => td σ H1 fun x H2 => ∃ a o, x = .ref a ∧ DGet H2 a y o ∧ Q (.bl (!o.isSome)) H2) := rfl
theorem x_dput : sDPut td ty tv D σ H = tv σ H (fun v H1 => td σ H1 fun x H2 => ty σ H2 fun y H3 => ∃ a H4, x = .ref a ∧ DPut H3 a y v H4 ∧ D.nx σ H4) := rfl
theorem x_ikeys {R : It → Hp → Prop} : iKeys td σ H R = td σ H (fun x H1 => ∃ d o, x = .ref d ∧ ((∃ kvs, H1 d = some (.frz o (.dK kvs)) ∧ R (Itk d o kvs) H1) ∨ ∃ kvs, H1 d = some (.frz o (.dT kvs)) ∧ R (Itkt d o kvs) H1)) := rfl
/-- the keys of a locked dict -/
theorem lg_keys {d : Addr} {o : Obj} {kvs : List (Key × V)} (Pv : Nat → L2.St → Hp → Prop) (h0 : Pv 0 σ H) (hl : ∀ i σ H, i ≤ kvs.length → Pv i σ H → H d = some (.frz o (.dK kvs)))
    (hs : ∀ i k v σ H, kvs[i]? = some (k, v) → Pv i σ H → g (kV k) σ H fun σ2 H2 => tb { D with nx := Pv (i + 1), ct := Pv (i + 1), bk := D.nx } σ2 H2) (hd : ∀ σ H, Pv kvs.length σ H → D.nx σ H) : LoopG (Itk d o kvs) g tb D σ H := by
  refine ⟨fun i m σ H => m = kvs.length - i ∧ i ≤ kvs.length ∧ Pv i σ H, ⟨kvs.length, by simp, Nat.zero_le _, h0⟩, ?_⟩
  rintro i m σ H ⟨rfl, hi, p⟩
  have q := hl i σ H hi p
  by_cases hlt : i < kvs.length
  · refine .inr ⟨⟨q, hlt⟩, Pv (i + 1), fun σ' H' p' => ⟨kvs.length - (i + 1), by omega, rfl, hlt, p'⟩, fun x H' y => ?_⟩
    obtain ⟨rfl, k, v, e, rfl⟩ := y
    exact hs i k v σ _ e p
  · have e : i = kvs.length := by omega
    subst e
    exact .inl ⟨⟨q, Nat.le_refl _⟩, hd σ H p⟩
end
theorem frz_ex {H H' : Hp} {d : Addr} {u x : HO} (h : H d = some u) (e : Ex (upd H d x) H') : Ex H (upd H' d u) := fun a o ho => by
  by_cases q : a = d
  · subst q
    rw [upd_same]
    rw [h] at ho
    exact ho
  · rw [upd_ne q]
    exact e a o (by rw [upd_ne q]; exact ho)
theorem ex_frz {H H' : Hp} {d a : Addr} {o : HO} {x : HO} (q : a ≠ d) (ho : H a = some o) (e : Ex (upd H d x) H') : H' a = some o := e a o (by rw [upd_ne q]; exact ho)
/-! ### lists of digits, shown -/
def Dg (t : List Int) : Prop := ∀ n ∈ t, 0 ≤ n ∧ n < 10
def digL (cs : List Nat) : List Int := (cs.filter fun c => decide (48 ≤ c) && decide (c < 58)).map fun c : Nat => (c : Int) - 48
theorem digL_append (a b : List Nat) : digL (a ++ b) = digL a ++ digL b := by
  unfold digL
  rw [List.filter_append, List.map_append]
theorem digL_one : ∀ k : Fin 10, digL (Str.ofString (toString ((k.val : Nat) : Int))).cps.toList = [((k.val : Nat) : Int)] := by decide +kernel
theorem digL_int {n : Int} (h0 : 0 ≤ n) (h1 : n < 10) : digL (Str.ofString (toString n)).cps.toList = [n] := by
  have h := digL_one ⟨n.toNat, by omega⟩
  rw [show ((n.toNat : Nat) : Int) = n by omega] at h
  exact h
theorem digL_join : ∀ ns : List Int, Dg ns → digL (Str.join ", " (ns.map fun n => ((toString n : String) : Str))).cps.toList = ns
  | [], _ => by decide +kernel
  | [n], h => by
    obtain ⟨h0, h1⟩ := h n List.mem_cons_self
    exact digL_int h0 h1
  | n :: m :: ns, h => by
    obtain ⟨h0, h1⟩ := h n List.mem_cons_self
    have ih := digL_join (m :: ns) fun x hx => h x (List.mem_cons_of_mem _ hx)
    show digL ((((toString n : String) : Str) ++ ", " ++ Str.join ", " ((m :: ns).map fun n => ((toString n : String) : Str))).cps.toList) = _
    rw [cps_toList_append, cps_toList_append, digL_append, digL_append, ih, digL_int h0 h1, signs_sep]
    rfl
theorem digL_shown {ns : List Int} (h : Dg ns) : digL (shInts ns).cps.toList = ns := by
  unfold shInts
  rw [PyData.shown_list, PyData.shownAll_ints, cps_toList_append, cps_toList_append, digL_append, digL_append, digL_join ns h, signs_lbrack, signs_rbrack]
  show [] ++ ns ++ [] = ns
  simp
theorem shInts_inj {a b : List Int} (ha : Dg a) (hb : Dg b) (e : shInts a = shInts b) : a = b := by
  rw [← digL_shown ha, ← digL_shown hb, e]
/-! ### dicts by such texts -/
section
variable {α : Type} {f : α → V}
def kx (t : List Int) : Key := Sum.inr (shInts t)
theorem kx_inj {a b : List Int} (ha : Dg a) (hb : Dg b) : kx a = kx b ↔ a = b := ⟨fun e => shInts_inj ha hb (Sum.inr.inj e), fun e => by rw [e]⟩
def ren (f : α → V) (L : List (List Int × α)) : List (Key × V) := L.map fun p => (kx p.1, f p.2)
def getA (L : List (List Int × α)) (t : List Int) : Option α := (L.find? fun p => decide (p.1 = t)).map (·.2)
def putA (L : List (List Int × α)) (t : List Int) (a : α) : List (List Int × α) := if (L.any fun p => decide (p.1 = t)) = true then L.map (fun p => if p.1 = t then (p.1, a) else p) else L ++ [(t, a)]
theorem ren_val (t : List Int) (ht : Dg t) : ∀ L : List (List Int × α), (∀ p ∈ L, Dg p.1) → valV (ren f L) (kx t) = (getA L t).map f
  | [], _ => rfl
  | p :: L, h => by
    have ih := ren_val t ht L fun q hq => h q (List.mem_cons_of_mem _ hq)
    have hp := h p List.mem_cons_self
    show valV ((kx p.1, f p.2) :: ren f L) (kx t) = _
    by_cases e : p.1 = t
    · rw [valV_pos (by show kx p.1 = kx t; rw [e])]
      simp [getA, e]
    · rw [valV_neg (by show ¬ kx p.1 = kx t; rw [kx_inj hp ht]; exact e), ih]
      simp [getA, e]
theorem ren_any (t : List Int) (ht : Dg t) : ∀ L : List (List Int × α), (∀ p ∈ L, Dg p.1) → ((ren f L).any fun kv => decide (kv.1 = kx t)) = L.any fun p => decide (p.1 = t)
  | [], _ => rfl
  | p :: L, h => by
    have ih := ren_any t ht L fun q hq => h q (List.mem_cons_of_mem _ hq)
    have hp := h p List.mem_cons_self
    show (decide (kx p.1 = kx t) || (ren f L).any fun kv => decide (kv.1 = kx t)) = _
    rw [ih, List.any_cons]
    congr 1
    exact decide_eq_decide.mpr (kx_inj hp ht)
theorem ren_put (t : List Int) (ht : Dg t) (a : α) (L : List (List Int × α)) (h : ∀ p ∈ L, Dg p.1) : putK (ren f L) (kx t) (f a) = ren f (putA L t a) := by
  unfold putK putA
  rw [ren_any t ht L h]
  by_cases c : (L.any fun p => decide (p.1 = t)) = true
  · rw [if_pos c, if_pos c]
    unfold ren
    rw [List.map_map, List.map_map]
    refine List.map_congr_left fun p hp => ?_
    show (if kx p.1 = kx t then (kx p.1, f a) else (kx p.1, f p.2)) = _
    by_cases e : p.1 = t
    · rw [if_pos (by rw [e])]
      show _ = (kx (if p.1 = t then (p.1, a) else p).1, f (if p.1 = t then (p.1, a) else p).2)
      rw [if_pos e]
    · rw [if_neg (by rw [kx_inj (h p hp) ht]; exact e)]
      show _ = (kx (if p.1 = t then (p.1, a) else p).1, f (if p.1 = t then (p.1, a) else p).2)
      rw [if_neg e]
  · rw [if_neg c, if_neg c]
    unfold ren
    rw [List.map_append]
    rfl
theorem putA_key {L : List (List Int × α)} {t : List Int} {a : α} {p : List Int × α} (h : p ∈ putA L t a) : p.1 = t ∨ ∃ q ∈ L, q.1 = p.1 := by
  unfold putA at h
  split at h
  · obtain ⟨q, hq, rfl⟩ := List.mem_map.mp h
    refine .inr ⟨q, hq, ?_⟩
    split <;> rfl
  · rcases List.mem_append.mp h with h | h
    · exact .inr ⟨p, h, rfl⟩
    · rw [List.mem_singleton.mp h]
      exact .inl rfl
theorem putA_len (L : List (List Int × α)) (t : List Int) (a : α) : (putA L t a).length ≤ L.length + 1 := by
  unfold putA
  split
  · rw [List.length_map]; omega
  · rw [List.length_append, List.length_singleton]; omega
theorem ren_len (L : List (List Int × α)) : (ren f L).length = L.length := by unfold ren; rw [List.length_map]
theorem ren_at {L : List (List Int × α)} {i : Nat} {k : Key} {v : V} (h : (ren f L)[i]? = some (k, v)) : ∃ t a, L[i]? = some (t, a) ∧ k = kx t ∧ v = f a := by
  unfold ren at h
  rw [List.getElem?_map] at h
  cases e : L[i]? with
  | none => rw [e] at h; cases h
  | some p => rw [e] at h; cases h; exact ⟨p.1, p.2, rfl, rfl, rfl⟩
end
end BC
namespace BC
open PySem PySem.Spec PyProof.Rows L2 Evl
section
variable {α : Type} {f : α → V}
theorem putA_nodup {L : List (List Int × α)} {t : List Int} {a : α} (h : (L.map (·.1)).Nodup) : ((putA L t a).map (·.1)).Nodup := by
  unfold putA
  split
  · rw [List.map_map]
    have e : ((fun p : List Int × α => p.1) ∘ fun p : List Int × α => if p.1 = t then (p.1, a) else p) = fun p => p.1 := funext fun p => by
      show (if p.1 = t then (p.1, a) else p).1 = p.1
      split <;> rfl
    rw [e]
    exact h
  · next c =>
    rw [List.map_append, List.nodup_append]
    refine ⟨h, by simp, fun x hx y hy e => ?_⟩
    obtain ⟨p, hp, rfl⟩ := List.mem_map.mp hx
    have hy' : y = t := by simpa using hy
    refine c (List.any_eq_true.mpr ⟨p, hp, decide_eq_true ?_⟩)
    rw [e, hy']
theorem getA_at : ∀ {L : List (List Int × α)} {i : Nat} {t : List Int} {a : α}, (L.map (·.1)).Nodup → L[i]? = some (t, a) → getA L t = some a
  | [], _, _, _, _, h => by simp at h
  | p :: L, 0, t, a, _, h => by
    have : p = (t, a) := by simpa using h
    subst this
    simp [getA]
  | p :: L, i + 1, t, a, nd, h => by
    rw [List.map_cons, List.nodup_cons] at nd
    have h' : L[i]? = some (t, a) := by simpa using h
    have ih := getA_at nd.2 h'
    have ne : p.1 ≠ t := fun e => nd.1 (List.mem_map.mpr ⟨(t, a), List.mem_of_getElem? h', e.symm⟩)
    unfold getA at ih ⊢
    rw [List.find?_cons, decide_eq_false ne]
    exact ih
end
/-- what stands at a text's key, counted -/
theorem ren_get {L : List (List Int × Int)} {t : List Int} (ht : Dg t) (h : ∀ p ∈ L, Dg p.1) : (valV (ren V.int L) (kx t)).getD (.int 0) = .int ((getA L t).getD 0) := by
  rw [ren_val t ht L h]
  cases getA L t <;> rfl
theorem ints_at {ns : List Int} {i : Nat} {v : V} (h : (ns.map V.int)[i]? = some v) : ∃ n, ns[i]? = some n ∧ v = .int n := by
  rw [List.getElem?_map] at h
  cases e : ns[i]? with
  | none => rw [e] at h; cases h
  | some n => rw [e] at h; cases h; exact ⟨n, rfl, rfl⟩
theorem refs_at {ps : List Addr} {i : Nat} {v : V} (h : (ps.map V.ref)[i]? = some v) : ∃ q, ps[i]? = some q ∧ v = .ref q := by
  rw [List.getElem?_map] at h
  cases e : ps[i]? with
  | none => rw [e] at h; cases h
  | some n => rw [e] at h; cases h; exact ⟨n, rfl, rfl⟩
theorem tyS {K : PySem.W.Frag} {H : Hp} {x : Str} : tyV K "str" (.str x) H := rfl
end BC

set_option Elab.async false
set_option linter.all false
set_option maxRecDepth 100000
set_option maxHeartbeats 4000000
/-! texts: str * int, fields of a width, f-strings of many parts -/
namespace BC
open PySem PySem.Spec PyProof.Rows L2 Evl
/-! ### a text so many times -/
def rMulS : V → V → Hp → VK → Prop := fun x y H Q => ∃ (a : Str) (n : Int), x = .str a ∧ y = .int n ∧ MulOk a n ∧ Q (.str (Txt.mul a n)) H
theorem op_mulS {X : Cx} : OpR X (binaryOp .Mult) rMulS := by
  intro pins s σ H x y v u Q I rx ry h
  obtain ⟨a, n, rfl, rfl, hz, q⟩ := h
  obtain ⟨t, rfl⟩ := rx
  obtain ⟨t', rfl⟩ := ry
  exact SB.mul hz fun t' tk => ⟨.str _, H, I.tok _, ⟨_, rfl⟩, q⟩
theorem x_mulS {a : Str} {n : Int} {H : Hp} {Q : VK} : rMulS (.str a) (.int n) H Q ↔ MulOk a n ∧ Q (.str (Txt.mul a n)) H := ⟨fun ⟨i, j, e1, e2, q⟩ => by cases e1; cases e2; exact q, fun q => ⟨a, n, rfl, rfl, q⟩⟩
theorem mul_sp {n : Int} (h0 : -1000 ≤ n) (h1 : n ≤ 1000) : MulOk ((" " : String) : Str) n := by
  refine ⟨?_, fun h2 _ => ?_, fun h2 _ => ?_⟩
  · rw [decide_eq_false (by omega), decide_eq_false (by omega)]
    rfl
  · have e : (((" " : String) : Str).length : Int) = 1 := by decide
    rw [e]
    have : n ≤ (2 ^ 63 - 1) / 1000 := by omega
    have h3 : (1 : Int) ≤ (2 ^ 63 - 1) / n := (Int.le_ediv_iff_mul_le (by omega)).mpr (by omega)
    omega
  · have e : ((" " : String) : Str).length = 1 := by decide
    rw [e, Nat.one_mul]
    show decide (_ > sizeLine) = false
    exact decide_eq_false (by unfold sizeLine; omega)
/-! ### a field of a width -/
theorem cs_none {K : PySem.W.Frag} {h : Heap} {mc : Str → Option Value} {n : Str} (X : K.In h) (G : h.Ns cStatics mc) (e : PySem.W.nsIn K cStatics n = some none) : mc n = none := by
  obtain ⟨o, es, ep, ho, hd, _, hf⟩ := G
  unfold PySem.W.nsIn at e
  split at e
  · next c d es' n' sl q =>
    have z := X _ _ q
    rw [ho] at z
    cases z
    cases hd
    split at e
    · cases e
    · next he =>
      rw [← hf]
      unfold nsFind findBy
      rw [← Array.find?_toList, he]
      rfl
  · cases e
theorem no_digits {K : PySem.W.Frag} {h : Heap} (X : K.In h) (nl : h.NoLimit) (e : PySem.W.nsIn K cStatics "sys.int_max_str_digits" = some none) : h.NoDigits := by
  obtain ⟨mc, g, _⟩ := nl
  exact ⟨mc, g, cs_none X g e⟩
def tFmtS (sp : Str) (te : TE) : TE := fun σ H Q => te σ H fun x H1 => ∃ i : Int, x = .int i ∧ 0 ≤ i ∧ i < 10 ^ 10 ∧ Q (.str (intSpecTextOf sp i)) H1
theorem x_fmtS {sp : Str} {te : TE} {σ : L2.St} {H : Hp} {Q : VK} : tFmtS sp te σ H Q = te σ H (fun x H1 => ∃ i : Int, x = .int i ∧ 0 ≤ i ∧ i < 10 ^ 10 ∧ Q (.str (intSpecTextOf sp i)) H1) := rfl
theorem k_fmtS {X : Cx} {K : PySem.W.Frag} {e es : Expr} {te : TE} {sp : Str} {pos : Pos} (hK : X.K = K) (hq : PySem.W.nsIn K cStatics "sys.int_max_str_digits" = some none) (he : PE X e te) (hs : PE X es (tC (.str sp))) (hok : intSpecOk sp = true) (hsz : sp.length ≤ sizeLine) : PE X (.FormattedValue e (-1) (some es) pos) (tFmtS sp te) := by
  subst hK
  refine ⟨fun pins s σ H Q I h => ?_⟩
  refine wpAny_FormattedValue_spec (thn (he.run pins s σ H _ I h) fun v s1 hv => ?_)
  obtain ⟨x, H1, I1, r1, i, rfl, h0, h1, q⟩ := hv
  obtain ⟨t, rfl⟩ := r1
  refine thn (hs.run pins s1 σ H1 (fun y H2 => y = .str sp ∧ H2 = H1) I1 ⟨rfl, rfl⟩) fun u s2 hu => ?_
  obtain ⟨y, H2, I2, r2, rfl, rfl⟩ := hu
  obtain ⟨t2, rfl⟩ := r2
  exact ⟨sp, t2, rfl, formatField_int_specOf (no_digits I2.kIn I2.nolimit hq) (lt_digitLimit_of_lt (by omega)) hok (fun W _ _ => ⟨.str _, H2, I2.tok _, ⟨_, rfl⟩, q⟩) hsz⟩
theorem fmt3 : ∀ i : Fin 300, intSpecTextOf ((">3" : String) : Str) ((i.val : Nat) : Int) = Txt.mul ((" " : String) : Str) (3 - ((((toString ((i.val : Nat) : Int) : String) : Str).length : Nat) : Int)) ++ ((toString ((i.val : Nat) : Int) : String) : Str) := by decide +kernel
theorem fmt4 : ∀ i : Fin 40, intSpecTextOf ((">4" : String) : Str) ((i.val : Nat) : Int) = Txt.mul ((" " : String) : Str) (4 - ((((toString ((i.val : Nat) : Int) : String) : Str).length : Nat) : Int)) ++ ((toString ((i.val : Nat) : Int) : String) : Str) := by decide +kernel
theorem len3 : ∀ i : Fin 1000, 1 ≤ ((toString ((i.val : Nat) : Int) : String) : Str).length ∧ ((toString ((i.val : Nat) : Int) : String) : Str).length ≤ 3 := by decide +kernel
/-! ### f-strings -/
theorem x_js0 {acc : Str} {σ : L2.St} {H : Hp} {Q : Str → Hp → Prop} : tJs [] acc σ H Q = Q acc H := rfl
theorem x_js {t : TE} {ts : List TE} {acc : Str} {σ : L2.St} {H : Hp} {Q : Str → Hp → Prop} : tJs (t :: ts) acc σ H Q = t σ H (fun x H1 => ∃ y : Str, x = .str y ∧ (acc ++ y).length ≤ sizeLine ∧ tJs ts (acc ++ y) σ H1 Q) := rfl
def tJn (ts : List TE) : TE := fun σ H Q => tJs ts Str.empty σ H fun out H1 => Q (.str out) H1
theorem x_jn {ts : List TE} {σ : L2.St} {H : Hp} {Q : VK} : tJn ts σ H Q = tJs ts Str.empty σ H (fun out H1 => Q (.str out) H1) := rfl
theorem k_joined {X : Cx} {v1 v2 : Expr} {rest : List Expr} {ts : List TE} {pos : Pos} (h : PJ X (v1 :: v2 :: rest) ts) : PE X (.JoinedStr (v1 :: v2 :: rest) pos) (tJn ts) := pe_joined h
theorem x_fmt {te : TE} {σ : L2.St} {H : Hp} {Q : VK} : tFmt te σ H Q = te σ H (fun x H1 => (∃ y : Str, x = .str y ∧ y.length ≤ sizeLine ∧ Q (.str y) H1) ∨ ∃ i : Int, x = .int i ∧ i.natAbs.log2 < 1920 ∧ Q (.str (toString i)) H1) := rfl
/-! ### join -/
def rJoin (K : PySem.W.Frag) : V → List V → Hp → VK → Prop := fun x xs H Q => ∃ a p, ∃ ys : List Str, x = .str a ∧ xs = [.ref p] ∧ (SqL K H p (ys.map V.str) ∨ SqT K H p (ys.map V.str)) ∧ (ys.map (·.length)).sum + ys.length * a.length ≤ 16777216 ∧ Q (.str (Txt.join a ys)) H
theorem k_join {X : Cx} {K : PySem.W.Frag} (hK : X.K = K) : MtR X "str.join" (rJoin K) := by subst hK; exact mt_join
theorem joinL {K : PySem.W.Frag} {H : Hp} {Q : VK} {a : Str} {p : Addr} {ys : List Str} (h : SqL K H p (ys.map V.str)) (hz : (ys.map (·.length)).sum + ys.length * a.length ≤ 16777216) (q : Q (.str (Txt.join a ys)) H) : rJoin K (.str a) [.ref p] H Q := ⟨a, p, ys, rfl, rfl, .inl h, hz, q⟩
def toStrs (t : List Int) : List Str := t.map fun n => ((toString n : String) : Str)
theorem len3' {n : Int} (h0 : 0 ≤ n) (h1 : n < 1000) : 1 ≤ ((toString n : String) : Str).length ∧ ((toString n : String) : Str).length ≤ 3 := by
  have h := len3 ⟨n.toNat, by omega⟩
  rw [show ((n.toNat : Nat) : Int) = n by omega] at h
  exact h
theorem strs_sum : ∀ {t : List Int}, (∀ x ∈ t, 0 ≤ x ∧ x < 1000) → ((toStrs t).map (·.length)).sum ≤ 3 * t.length
  | [], _ => Nat.le_refl _
  | x :: t, h => by
    have a := strs_sum (t := t) fun y hy => h y (List.mem_cons_of_mem _ hy)
    have b := (len3' (h x List.mem_cons_self).1 (h x List.mem_cons_self).2).2
    show ((toString x : String) : Str).length + ((toStrs t).map (·.length)).sum ≤ _
    rw [List.length_cons]
    omega
/-- a line of the list -/
def lineOf (i : Nat) (p : Int) (t : List Int) : Str := Txt.mul ((" " : String) : Str) (3 - ((((toString ((i : Nat) : Int) : String) : Str).length : Nat) : Int)) ++ ((toString ((i : Nat) : Int) : String) : Str) ++ Txt.mul ((" " : String) : Str) (4 - ((((toString p : String) : Str).length : Nat) : Int)) ++ ((toString p : String) : Str) ++ (("  " : String) : Str) ++ Txt.join ((" > " : String) : Str) (toStrs t)
theorem line_prog {i : Nat} {p : Int} {t : List Int} (hi : i < 300) (h0 : 0 ≤ p) (h1 : p < 40) : Str.empty ++ intSpecTextOf ((">3" : String) : Str) ((i : Nat) : Int) ++ intSpecTextOf ((">4" : String) : Str) p ++ (("  " : String) : Str) ++ Txt.join ((" > " : String) : Str) (toStrs t) = lineOf i p t := by
  have a := fmt3 ⟨i, hi⟩
  have b := fmt4 ⟨p.toNat, by omega⟩
  rw [show ((p.toNat : Nat) : Int) = p by omega] at b
  have a : intSpecTextOf ((">3" : String) : Str) ((i : Nat) : Int) = _ := a
  rw [a, b]
  unfold lineOf
  refine Str.ext' ?_
  have e : Str.empty.cps = #[] := rfl
  apply Array.toList_inj.mp
  simp only [cps_toList_append, e, List.append_assoc]
  rfl
theorem fl3 : ∀ i : Fin 300, (intSpecTextOf ((">3" : String) : Str) ((i.val : Nat) : Int)).length ≤ 3 := by decide +kernel
theorem fl4 : ∀ i : Fin 40, (intSpecTextOf ((">4" : String) : Str) ((i.val : Nat) : Int)).length ≤ 4 := by decide +kernel
theorem join_len {t : List Int} (h : ∀ x ∈ t, 0 ≤ x ∧ x < 1000) : (Txt.join ((" > " : String) : Str) (toStrs t)).length ≤ 6 * t.length := by
  have a := strs_sum h
  have e : ((" > " : String) : Str).length = 3 := by decide
  have b := StrLaws.join_length_le ((" > " : String) : Str) (toStrs t)
  rw [e] at b
  have l : (toStrs t).length = t.length := List.length_map _
  rw [l] at b
  have g : Txt.join ((" > " : String) : Str) (toStrs t) = Str.join ((" > " : String) : Str) (toStrs t) := StrLaws.glued_eq_join _ _
  rw [g]
  omega
end BC

set_option Elab.async false
set_option linter.all false
set_option maxRecDepth 100000
set_option maxHeartbeats 4000000
/-! head, *rest = a list -/
namespace BC
open PySem PySem.Spec PyProof.Rows L2
theorem walks_shift {prog : Program} {w : World} {A : Around} {I : Addr} {fp wr : List Addr} {G : Array GenState → Array GenState → Prop} {n : Nat} {P : Nat → Value → Prop} {St : Nat → Shared → Prop} (W : WalksS prog w A I fp wr G (n + 1) P St) :
    WalksS prog w A I fp wr G n (fun i v => P (i + 1) v) (fun i s => St (i + 1) s) :=
  ⟨W.sub, W.grefl, W.gtrans, fun i => W.frame (i + 1), fun i s Q E hi => W.item (i + 1) s Q E (by omega), W.done, fun i => W.self (i + 1)⟩
section
variable {prog : Program} {w : World} {A : Around} {E : Value → Shared → Prop} {s : Shared}
/-- the items of 'a, *b = l' -/
theorem items_star {l : Addr} {x : Value} {rest : List Value} {Q : List Value → Shared → Prop} (hh : A.handled = none) (hl : s.heap.IsList l (x :: rest).toArray) (hz : rest.length ≤ sizeLine)
    (hQ : ∀ (h' : Heap) (tk : Nat), (∀ b o, s.heap.get? b = some o → h'.get? b = some o) → Q [x, .ref h'.objs.size] { s with heap := h'.push (seqObj "list" rest.toArray 0), toks := tk }) :
    wpAny (model prog w) A (unpackItems (.ref l) 2 (some 1)) Q E s := by
  have lt : l < s.heap.objs.size := by obtain ⟨o, ho, _⟩ := hl; exact Heap.lt_size ho
  unfold unpackItems
  refine wpAny_bind ?_
  unfold notIterableAtAll
  refine wpAny_bind (wpAny_specialOf hl.typeIs PySem.F.slot_list_iter.lookup (wpAny_pure ?_))
  simp only [Bool.false_eq_true, if_false]
  refine wpAny_bind (wpAny_holding (wpAny_pyIter_list hl ?_))
  have nI : l ≠ s.heap.objs.size := Nat.ne_of_lt lt
  have it0 : (s.heap.push { cls := .type "list_iterator", data := .fields #[.ref l, .int 0 0] }).IsListIter s.heap.objs.size l 0 := ⟨_, Heap.get?_push_size _ rfl, rfl, rfl⟩
  have W := (Walks.list (prog := prog) (w := w) (A := A.in1) hh s.heap.objs.size l nI (x :: rest).toArray).toS
  have W0 := W.of_in1
  show wpAny _ _ (holding [Value.ref s.heap.objs.size] (draw (.ref s.heap.objs.size) 1) >>= _) _ _ _
  refine wpAny_bind (wpAny_holding ?_)
  show wpAny _ _ (pyNext (.ref s.heap.objs.size) >>= _) _ _ _
  refine wpAny_bind (W0.item 0 _ _ _ (by simp) ⟨it0, hl.push _⟩ fun v s1 hv st1 m1 => ?_)
  obtain rfl : x = v := by simpa using hv
  refine wpAny_bind (wpAny_holding (wpAny_pure (wpAny_pure ?_)))
  rw [if_neg (by simp)]
  have size : (x :: rest).toArray.size = rest.length + 1 := by simp
  have W1 : WalksS prog w A.in1 s.heap.objs.size [s.heap.objs.size, l] [s.heap.objs.size] (fun a b => b = a) (rest.length + 1) (fun i v => (x :: rest).toArray[i]? = some v) (fun i s' => s'.heap.IsListIter s.heap.objs.size l i ∧ s'.heap.IsList l (x :: rest).toArray) := size ▸ W
  have big : s.heap.objs.size < s1.heap.objs.size := by obtain ⟨o, ho, _⟩ := st1.1; exact Heap.lt_size ho
  refine wpAny_bind (wpAny_holding (wpAny_collect_iter (T := "list_iterator") (.inr (.inr (.inl rfl))) (walks_shift W1) (fun i s' st => ?_) st1 (fun b hb => ?_) List.mem_cons_self (fun s2 acc m2 its => ?_) hz))
  · obtain ⟨o, ho, hc, _⟩ := st.1
    exact ⟨o, ho, hc⟩
  · rcases List.mem_cons.mp hb with rfl | hb
    · exact big
    · rw [List.mem_singleton.mp hb]
      exact Nat.lt_trans lt big
  have ea : acc.toList = rest := by
    obtain ⟨e1, e2⟩ := its
    apply List.ext_getElem?
    intro i
    by_cases c : i < acc.size
    · have h1 := e2 i acc[i] (by simp [c])
      have h2 : rest[i]? = some acc[i] := by simpa using h1
      rw [h2, Array.getElem?_toList]
      simp [c]
    · rw [List.getElem?_eq_none (by simpa using Nat.le_of_not_lt c), List.getElem?_eq_none (by omega)]
  rw [ea]
  rw [if_neg (by simp)]
  simp only [Nat.sub_self, Nat.sub_zero, show 2 - 1 - 1 = 0 by rfl, List.take_length, List.drop_length]
  have kept : ∀ b o, s.heap.get? b = some o → s2.heap.get? b = some o := by
    intro b o e
    have ne : b ∉ [s.heap.objs.size] := by
      intro z
      rw [List.mem_singleton.mp z] at e
      exact absurd (Heap.lt_size e) (Nat.lt_irrefl _)
    exact m2.heap b o ne (m1.heap b o ne (Heap.get?_push_of_some _ e))
  obtain ⟨h2, g2, d2, t2, o2⟩ := s2
  have eg : g2 = s.gens := m2.gens.trans m1.gens
  have ed : d2 = s.drawn := m2.drawn.trans m1.drawn
  have eo : o2 = s.os := m2.os.trans m1.os
  subst eg ed eo
  refine wpAny_bind (wpAny_newList ?_ hz)
  exact wpAny_pure (hQ h2 t2 kept)
end
def gStar (K : PySem.W.Frag) (g1 g2 : TG) : TG := fun v σ H QG => ∃ (a : Addr) (x : V) (xs : List V), v = .ref a ∧ SqL K H a (x :: xs) ∧ ∀ p, H p = none → g1 x σ (upd H p (.lst xs)) fun σ2 H2 => g2 (.ref p) σ2 H2 QG
theorem x_gstar {K : PySem.W.Frag} {g1 g2 : TG} {v : V} {σ : L2.St} {H : Hp} {QG : L2.St → Hp → Prop} : gStar K g1 g2 v σ H QG = ∃ (a : Addr) (x : V) (xs : List V), v = .ref a ∧ SqL K H a (x :: xs) ∧ ∀ p, H p = none → g1 x σ (upd H p (.lst xs)) fun σ2 H2 => g2 (.ref p) σ2 H2 QG := rfl
theorem pg_star {X : Cx} {K : PySem.W.Frag} {t1 t2 : Expr} {sp pos : Pos} {k : Nat} {g1 g2 : TG} (hK : X.K = K) (hc : X.calm = true) (h1 : PG X t1 g1) (h2 : PG X t2 g2)
    (he : assignEach [t1, .Starred t2 sp] X.env = [(false, assign t1 X.env), (true, assign t2 X.env)] := by rfl) : PG X (.Tuple [t1, .Starred t2 sp] k pos) (gStar K g1 g2) := by
  subst hK
  constructor
  intro pins s σ H v u Q I r hw
  obtain ⟨a, x, xs, rfl, hq, hw⟩ := hw
  obtain rfl : u = Value.ref a := r
  obtain ⟨its, rv, pl, hz⟩ := I.list hq
  match its, rv with
  | y :: ys, .cons r1 rs =>
    have hl : s.heap.IsList a (y :: ys).toArray := pl.isList
    have len := rs.length
    have hz' : ys.length ≤ sizeLine := by rw [← len]; rw [List.length_cons] at hz; omega
    show wpAny _ _ (do standAt pos; unpack (.ref a) (assignEach [t1, .Starred t2 sp] X.env)) _ _ s
    rw [he]
    refine wpAny_bind (wpAny_standAt ?_)
    unfold unpack
    refine wpAny_bind (wpAny_holding ?_)
    show wpAny _ _ (unpackItems (.ref a) 2 (some 1)) _ _ s
    refine items_star (I.ok.hd hc) hl hz' fun h' tk kp => ?_
    have I1 : Inv X pins σ H { s with heap := h', toks := tk } := I.kept (t' := tk) kp
    have hn : H h'.objs.size = none := I1.hok.fresh (Nat.le_refl _)
    have J : Inv X pins σ (upd H h'.objs.size (.lst xs)) { s with heap := h'.push (seqObj "list" ys.toArray 0), toks := tk } :=
      I1.laid (t' := tk) (fun b o e => Heap.get?_push_of_some _ e) (Nat.le_refl _) ⟨by rw [len]; exact hz', ys, 0, rs, Heap.get?_push_size _ rfl⟩
    show wpAny _ _ (do holding [Value.ref h'.objs.size] (assign t1 X.env y); assignInOrder [assign t2 X.env] [Value.ref h'.objs.size]) _ _ _
    refine wpAny_bind (wpAny_holding (thn (h1.run pins _ σ _ x y _ J r1 (hw _ hn)) fun _ s3 ⟨σ3, H3, I3, q3⟩ => ?_))
    show wpAny _ _ (do holding [] (assign t2 X.env (Value.ref h'.objs.size)); assignInOrder [] []) _ _ _
    refine wpAny_bind (wpAny_holding (thn (h2.run pins s3 σ3 H3 (.ref h'.objs.size) _ _ I3 rfl q3) fun _ s4 q4 => ?_))
    exact wpAny_pure q4
end BC

set_option Elab.async false
set_option linter.all false
set_option maxRecDepth 100000
set_option maxHeartbeats 4000000
/-! strings of sites, of numbers, and what they write -/
namespace BC
open PySem PySem.Spec PyProof.Rows L2 Evl
def numS (n : Nat) : Str := ((toString ((n : Nat) : Int) : String) : Str)
theorem tl_numS (n : Nat) : TL.tl (numS n) = TL.numL n := TL.tl_num n
theorem numS_len {n : Nat} (h : n < 1000) : 1 ≤ (numS n).length ∧ (numS n).length ≤ 3 := len3' (n := (n : Int)) (by omega) (by omega)
theorem numS_free {n s : Nat} (h : s < 48 ∨ 57 < s) : s ∉ TL.tl (numS n) := by rw [tl_numS]; exact TL.numL_free h
theorem numS_inj {m n : Nat} (h : numS m = numS n) : m = n := TL.numL_inj (by rw [← tl_numS, ← tl_numS, h])
theorem joinL_mem {S : List Nat} {x : Nat} : ∀ {ps : List (List Nat)}, x ∈ TL.joinL S ps → x ∈ S ∨ ∃ p ∈ ps, x ∈ p
  | [], h => by cases h
  | [p], h => .inr ⟨p, List.mem_singleton.mpr rfl, h⟩
  | p :: q :: r, h => by
    have h' : x ∈ p ++ (S ++ TL.joinL S (q :: r)) := h
    rcases List.mem_append.mp h' with h | h
    · exact .inr ⟨p, List.mem_cons_self, h⟩
    · rcases List.mem_append.mp h with h | h
      · exact .inl h
      · rcases joinL_mem h with h | ⟨z, hz, h⟩
        · exact .inl h
        · exact .inr ⟨z, List.mem_cons_of_mem _ hz, h⟩
theorem join_mem {y : Str} {ps : List Str} {x : Nat} (h : x ∈ TL.tl (Txt.join y ps)) : x ∈ TL.tl y ∨ ∃ p ∈ ps, x ∈ TL.tl p := by
  rw [TL.join_eq, TL.tl_join] at h
  rcases joinL_mem h with h | ⟨z, hz, h⟩
  · exact .inl h
  · obtain ⟨p, hp, rfl⟩ := List.mem_map.mp hz
    exact .inr ⟨p, hp, h⟩
theorem joinL_snoc (S : List Nat) (x : List Nat) : ∀ {ps : List (List Nat)}, ps ≠ [] → TL.joinL S (ps ++ [x]) = TL.joinL S ps ++ (S ++ x)
  | [], h => absurd rfl h
  | [p], _ => rfl
  | p :: q :: r, _ => by
    show p ++ (S ++ TL.joinL S ((q :: r) ++ [x])) = p ++ (S ++ TL.joinL S (q :: r)) ++ (S ++ x)
    rw [joinL_snoc S x (by simp)]
    simp [List.append_assoc]
theorem join_snoc (y x : Str) {ps : List Str} (h : ps ≠ []) : Txt.join y (ps ++ [x]) = Txt.join y ps ++ y ++ x := by
  refine TL.ext_tl ?_
  rw [TL.tl_append, TL.tl_append, TL.join_eq, TL.join_eq, TL.tl_join, TL.tl_join, List.map_append, List.map_singleton, joinL_snoc _ _ (by simp [h]), List.append_assoc]
theorem join_one (y x : Str) : Txt.join y [x] = x := by
  rw [TL.join_eq]
  rfl
theorem join_nil (y : Str) : Txt.join y [] = Str.empty := by
  rw [TL.join_eq]
  rfl
/-! ### sites -/
def rowW (i : Nat) (r : List Nat) : List Str := (numS i ++ ((":" : String) : Str)) :: r.map numS
def rowS (i : Nat) (r : List Nat) : Str := Txt.join ((" " : String) : Str) (rowW i r)
def rowsS (G : Grid) (n : Nat) : List Str := (List.range n).map fun i => rowS i (row G i)
def siteS (G : Grid) : Str := Txt.join (("; " : String) : Str) (rowsS G G.length)
theorem rowsS_len (G : Grid) (n : Nat) : (rowsS G n).length = n := by unfold rowsS; rw [List.length_map, List.length_range]
theorem tl_sp : TL.tl ((" " : String) : Str) = [32] := by decide +kernel
theorem tl_sc : TL.tl (("; " : String) : Str) = [59, 32] := by decide +kernel
theorem tl_co : TL.tl ((":" : String) : Str) = [58] := by decide +kernel
theorem rowW_free {i : Nat} {r : List Nat} {s : Nat} (h : s < 48 ∨ 58 < s) : ∀ p ∈ rowW i r, s ∉ TL.tl p := fun p hp => by
  rcases List.mem_cons.mp hp with rfl | hp
  · rw [TL.tl_append, tl_co]
    intro m
    rcases List.mem_append.mp m with m | m
    · exact numS_free (by omega) m
    · rw [List.mem_singleton] at m
      omega
  · obtain ⟨x, _, rfl⟩ := List.mem_map.mp hp
    exact numS_free (by omega)
theorem rowS_free {i : Nat} {r : List Nat} : 59 ∉ TL.tl (rowS i r) := fun m => by
  rcases join_mem m with m | ⟨p, hp, m⟩
  · rw [tl_sp] at m
    simp at m
  · exact rowW_free (by omega) p hp m
theorem split_row (i : Nat) (r : List Nat) : Txt.split (rowS i r) ((" " : String) : Str) = rowW i r :=
  TL.split_join tl_sp (by decide +kernel) (by unfold rowW; simp) (rowW_free (by omega))
theorem split_site (G : Grid) (h : 1 ≤ G.length) : Txt.split (siteS G) (("; " : String) : Str) = rowsS G G.length :=
  TL.split_join tl_sc (by decide +kernel) (by intro e; have := congrArg List.length e; rw [rowsS_len, List.length_nil] at this; omega) (fun p hp => by
    obtain ⟨i, _, rfl⟩ := List.mem_map.mp hp
    exact rowS_free)
theorem join_bound (y : Str) (b : Nat) : ∀ ps : List Str, (∀ p ∈ ps, p.length ≤ b) → (Txt.join y ps).length ≤ ps.length * (b + y.length) := fun ps h => by
  have a := StrLaws.join_length_le y ps
  rw [TL.join_eq]
  have s : ∀ ps : List Str, (∀ p ∈ ps, p.length ≤ b) → (ps.map (·.length)).sum ≤ ps.length * b := fun ps => by
    induction ps with
    | nil => intro _; simp
    | cons p ps ih =>
      intro h
      have a := ih fun q hq => h q (List.mem_cons_of_mem _ hq)
      have c := h p List.mem_cons_self
      rw [List.map_cons, List.sum_cons, List.length_cons, Nat.succ_mul]
      omega
  have := s ps h
  rw [Nat.mul_add]
  omega
theorem rowS_len {i : Nat} {r : List Nat} (hi : i < 1000) (hr : ∀ x ∈ r, x < 1000) : (rowS i r).length ≤ (r.length + 1) * 5 := by
  have b := join_bound ((" " : String) : Str) 4 (rowW i r) (fun p hp => by
    rcases List.mem_cons.mp hp with rfl | hp
    · have := (numS_len hi).2
      rw [Str.length_append, show ((":" : String) : Str).length = 1 by decide]
      omega
    · obtain ⟨x, hx, rfl⟩ := List.mem_map.mp hp
      have := (numS_len (hr x hx)).2
      omega)
  rw [show ((" " : String) : Str).length = 1 by decide] at b
  unfold rowW at b
  rw [List.length_cons, List.length_map] at b
  exact b
theorem rowsS_succ (G : Grid) (n : Nat) : rowsS G (n + 1) = rowsS G n ++ [rowS n (row G n)] := by
  unfold rowsS
  rw [List.range_succ, List.map_append]
  rfl
theorem SiteOk.row12 {G : Grid} (h : SiteOk G) (i : Nat) : ∀ x ∈ row G i, x < 1000 := fun x hx => by
  have a := h.rlt hx
  have b := h.n2
  omega
theorem site_len {G : Grid} (h : SiteOk G) (n : Nat) (hn : n ≤ 12) : (Txt.join (("; " : String) : Str) (rowsS G n)).length ≤ n * 67 := by
  have b := join_bound (("; " : String) : Str) 65 (rowsS G n) (fun p hp => by
    obtain ⟨i, hi, rfl⟩ := List.mem_map.mp hp
    rw [List.mem_range] at hi
    have := rowS_len (i := i) (r := row G i) (by omega) (h.row12 i)
    have := h.rlen i
    omega)
  rw [show (("; " : String) : Str).length = 2 by decide, rowsS_len] at b
  omega
/-! ### what the law puts together -/
/-- the text so far, within row i behind j of its links -/
def part7 (G : Grid) (i j : Nat) : Str := Txt.join (("; " : String) : Str) (rowsS G i) ++ (if 0 < i then (("; " : String) : Str) else Str.empty) ++ rowS i ((row G i).take j)
theorem part7_end {G : Grid} {i : Nat} : part7 G i (row G i).length = Txt.join (("; " : String) : Str) (rowsS G (i + 1)) := by
  unfold part7
  rw [List.take_length, rowsS_succ]
  cases i with
  | zero =>
    show Txt.join _ [] ++ Str.empty ++ _ = Txt.join _ ([] ++ [_])
    rw [List.nil_append, join_nil, join_one, Str.empty_append, Str.empty_append]
  | succ i =>
    rw [if_pos (by omega), join_snoc _ _ (by intro e; have := congrArg List.length e; rw [rowsS_len] at this; simp at this)]
theorem part7_next {G : Grid} {i j x : Nat} (h : (row G i)[j]? = some x) : part7 G i j ++ ((" " : String) : Str) ++ numS x = part7 G i (j + 1) := by
  unfold part7
  have e : rowS i ((row G i).take (j + 1)) = rowS i ((row G i).take j) ++ ((" " : String) : Str) ++ numS x := by
    unfold rowS
    rw [List.take_add_one, h]
    show Txt.join _ ((numS i ++ _) :: (((row G i).take j ++ [x]).map numS)) = _
    rw [List.map_append, List.map_singleton]
    exact join_snoc (ps := rowW i ((row G i).take j)) _ _ (by unfold rowW; simp)
  rw [e]
  simp only [Str.append_assoc]
theorem part7_zero {G : Grid} {i : Nat} : Txt.join (("; " : String) : Str) (rowsS G i) ++ (if 0 < i then (("; " : String) : Str) else Str.empty) ++ numS i ++ ((":" : String) : Str) = part7 G i 0 := by
  unfold part7
  have e : rowS i ((row G i).take 0) = numS i ++ ((":" : String) : Str) := by
    unfold rowS rowW
    rw [List.take_zero, List.map_nil]
    exact join_one _ _
  rw [e]
  simp only [Str.append_assoc]
theorem part7_len {G : Grid} (h : SiteOk G) {i j : Nat} (hi : i < 12) : (part7 G i j).length ≤ 1000 := by
  unfold part7
  rw [Str.length_append, Str.length_append]
  have a := site_len h i (by omega)
  have b := rowS_len (i := i) (r := (row G i).take j) (by omega) (fun x hx => h.row12 i x (List.mem_of_mem_take hx))
  have c := h.rlen i
  rw [List.length_take] at b
  have d : (if 0 < i then (("; " : String) : Str) else Str.empty).length ≤ 2 := by
    split
    · decide
    · decide
  have : (min j (row G i).length + 1) * 5 ≤ 13 * 5 := Nat.mul_le_mul_right _ (by omega)
  have : i * 67 ≤ 11 * 67 := Nat.mul_le_mul_right _ (by omega)
  omega
/-! ### numbers read -/
/-- the number of at most two digits that a word writes -/
def numIn (x : Str) : Option Nat := (List.range 100).find? fun n => decide (numS n = x)
def numV (x : Str) : V := match numIn x with | some n => .int (n : Int) | none => .non
theorem numIn_some {x : Str} {n : Nat} (h : numIn x = some n) : n < 100 ∧ x = numS n := by
  have a := List.find?_some h
  have b := List.mem_of_find?_eq_some h
  exact ⟨List.mem_range.mp b, (of_decide_eq_true a).symm⟩
theorem numIn_num {n : Nat} (h : n < 100) : numIn (numS n) = some n := by
  cases e : numIn (numS n) with
  | some m => rw [numS_inj (numIn_some e).2]
  | none =>
    have := List.find?_eq_none.mp e n (List.mem_range.mpr h)
    simp at this
theorem numV_num {n : Nat} (h : n < 100) : numV (numS n) = .int (n : Int) := by unfold numV; rw [numIn_num h]
theorem num_two : ∀ n : Fin 100, 1 ≤ (numS n.val).length ∧ (numS n.val).length ≤ 2 ∧ (numS n.val).cps.toList.all (fun c => decide (48 ≤ c) && decide (c ≤ 57)) = true := by decide +kernel
theorem numIn_odd {x : Str} (h : ¬ (1 ≤ x.length ∧ x.length ≤ 2 ∧ x.cps.toList.all (fun c => decide (48 ≤ c) && decide (c ≤ 57)) = true)) : numV x = .non := by
  unfold numV
  cases e : numIn x with
  | none => rfl
  | some n =>
    obtain ⟨a, rfl⟩ := numIn_some e
    exact absurd (num_two ⟨n, a⟩) h
theorem num_one : ∀ a : Fin 10, numV ⟨#[48 + a.val]⟩ = .int (a.val : Nat) ∧ intText? ⟨#[48 + a.val]⟩ = some ((a.val : Nat) : Int) := by decide +kernel
theorem num_pair : ∀ a b : Fin 10, (numV ⟨#[48 + a.val, 48 + b.val]⟩ = if a.val = 0 then .non else .int ((10 * a.val + b.val : Nat) : Int)) ∧ intText? ⟨#[48 + a.val, 48 + b.val]⟩ = some ((10 * a.val + b.val : Nat) : Int) := by decide +kernel
theorem digits_mem (c : Nat) : c ∈ ((("0123456789" : String) : Str)).cps.toList ↔ 48 ≤ c ∧ c ≤ 57 := by
  have e : ((("0123456789" : String) : Str)).cps.toList = [48, 49, 50, 51, 52, 53, 54, 55, 56, 57] := by decide +kernel
  rw [e]
  simp only [List.mem_cons, List.mem_nil_iff, or_false]
  omega
section
variable {K : PySem.W.Frag} {σ : L2.St} {H1 : Hp} {tt : TT} {te : TE} {vs : List Nat} {Dl : Addr} {Q : VK}
theorem lc_str {x : Str} {j : Nat} (keep : Nat → Bool) (f : Nat → V) (hD : H1 Dl = none) (hn : x.cps.size ≤ 100000)
    (hw : ∀ u : V, wipe ((wipe σ vs).set j (some u)) vs = wipe σ vs)
    (ht : ∀ i c, x.cps.toList[i]? = some c → Evl.EvT tt ((wipe σ vs).set j (some (.str ⟨#[c]⟩))) H1 (keep i))
    (he : ∀ i c, x.cps.toList[i]? = some c → keep i = true → Evl.Ev te ((wipe σ vs).set j (some (.str ⟨#[c]⟩))) H1 (f i))
    (hd : ∀ H', Evl.Ex H1 H' → H' Dl = some (.lst (kept x.cps.size keep f)) → Q (.ref Dl) H') : LcG (Its x) (gName j) tt te vs σ Dl H1 Q := by
  have at' : ∀ i, i < x.cps.size → x.cps.toList[i]? = some (x.cps.toList.getD i 0) := fun i hi => by
    rw [List.getD_eq_getElem?_getD, List.getElem?_eq_getElem (by simpa using hi)]
    rfl
  refine lc_pure x.cps.size (fun i => (wipe σ vs).set j (some (.str ⟨#[x.cps.toList.getD i 0]⟩))) keep f hD hn (fun H' e => Nat.le_refl _) (fun i H' hi e => hi)
    (fun i H' x' H'' QG hi e y q => ?_) (fun i hi => hw _) (fun i hi => ht i _ (at' i hi)) (fun i hi => he i _ (at' i hi)) hd
  obtain ⟨rfl, c, hc, rfl⟩ := y
  have e1 : x.cps.toList.getD i 0 = c := by
    rw [List.getD_eq_getElem?_getD, Array.getElem?_toList, hc]
    rfl
  show QG _ _
  rw [← e1]
  exact q (Evl.Ex.refl _)
end
theorem x_inS {c : Nat} {z : Str} {H : Hp} {Q : VK} : rInS (.str ⟨#[c]⟩) (.str z) H Q ↔ Q (.bl (decide (c ∈ z.cps.toList))) H := ⟨fun ⟨i, j, e1, e2, q⟩ => by cases e1; cases e2; exact q, fun q => ⟨c, z, rfl, rfl, q⟩⟩
/-- a str that is cut -/
def rSplit : V → List V → Hp → VK → Prop := fun x xs H Q => ∃ a b, x = .str a ∧ xs = [.str b] ∧ (b.length == 0) = false ∧ a.length + 2 ≤ sizeLine ∧ ∀ p, H p = none → Q (.ref p) (upd H p (.lst ((Txt.split a b).map V.str)))
theorem k_split {X : Cx} : MtR X "str.split" rSplit := mt_split
def rAddS : R2 := fun x y H Q => ∃ i j, x = .str i ∧ y = .str j ∧ i.length + j.length ≤ sizeLine ∧ Q (.str (i ++ j)) H
theorem k_addS {X : Cx} : OpR X (binaryOp .Add) rAddS := op_add_str
theorem x_addS {i j : Str} {H : Hp} {Q : VK} : rAddS (.str i) (.str j) H Q ↔ i.length + j.length ≤ sizeLine ∧ Q (.str (i ++ j)) H := ⟨fun ⟨i, j, e1, e2, q⟩ => by cases e1; cases e2; exact q, fun q => ⟨i, j, rfl, rfl, q⟩⟩
def rIntS : List V → Hp → VK → Prop := fun xs H Q => ∃ a n, xs = [.str a] ∧ PySem.intText? a = some n ∧ a.length ≤ 640 ∧ Q (.int n) H
theorem k_intS {X : Cx} : CallR X (.type "int") rIntS := call_int_str
end BC

set_option Elab.async false
set_option linter.all false
set_option maxRecDepth 100000
set_option maxHeartbeats 4000000
/-! sorted(set(xs)), len(set(xs)) of a longer list of numbers, with doubles -/
namespace BC
open PySem PySem.Spec PyProof.Rows L2 Evl RZ
theorem sub_len : ∀ {a b : List Int}, a.Nodup → (∀ x ∈ a, x ∈ b) → a.length ≤ b.length
  | [], _, _, _ => Nat.zero_le _
  | x :: a, b, nd, h => by
    rw [List.nodup_cons] at nd
    have hx := h x List.mem_cons_self
    have ih := sub_len (a := a) (b := b.erase x) nd.2 fun y hy => (List.mem_erase_of_ne (fun e => nd.1 (by rw [← e]; exact hy))).mpr (h y (List.mem_cons_of_mem _ hy))
    rw [List.length_erase_of_mem hx] at ih
    have := List.length_pos_of_mem hx
    rw [List.length_cons]
    omega
theorem dup_len {a b : List Int} (nd : a.Nodup) (h : ∀ x ∈ a, x ∈ b) (g : ∀ x ∈ b, x ∈ a) (e : a.length = b.length) : b.Nodup := by
  induction b generalizing a with
  | nil => exact List.nodup_nil
  | cons y b ih =>
    have hy := g y List.mem_cons_self
    have el := List.length_erase_of_mem hy
    have pos := List.length_pos_of_mem hy
    by_cases q : y ∈ b
    · have : a.length ≤ b.length := sub_len nd fun x hx => by
        rcases List.mem_cons.mp (h x hx) with rfl | m
        · exact q
        · exact m
      rw [List.length_cons] at e
      omega
    · rw [List.nodup_cons]
      refine ⟨q, ih (a := a.erase y) (nd.erase y) (fun x hx => ?_) (fun x hx => ?_) ?_⟩
      · have hne := (List.Nodup.mem_erase_iff nd).mp hx
        rcases List.mem_cons.mp (h x hne.2) with rfl | m
        · exact absurd rfl hne.1
        · exact m
      · exact (List.Nodup.mem_erase_iff nd).mpr ⟨fun z => q (by rw [← z]; exact hx), g x (List.mem_cons_of_mem _ hx)⟩
      · rw [List.length_cons] at e
        omega
theorem range_len {a : List Int} {m : Nat} (nd : a.Nodup) (h : ∀ x ∈ a, 0 ≤ x ∧ x < m) : a.length ≤ m := by
  have := sub_len (b := (List.range m).map fun i : Nat => (i : Int)) nd fun x hx => by
    have := h x hx
    exact List.mem_map.mpr ⟨x.toNat, List.mem_range.mpr (by omega), by show ((x.toNat : Nat) : Int) = x; omega⟩
  rw [List.length_map, List.length_range] at this
  exact this
section
variable {w : World} {h : Heap} {a : Addr} {S : Int → Bool} {n m : Nat}
theorem setR_few (R : SetR w h a S n) (hb : ∀ k, S k = true → 0 ≤ k ∧ k < m) : n ≤ m := by
  obtain ⟨o, es, ep, t, ho, hex, hd, g, nd, hm, hbd, hf, hn, hr, hl⟩ := R
  have := range_len (m := m) nd fun x hx => hb x ((hm x).mpr hx)
  rw [List.length_map, Array.length_toList] at this
  omega
theorem setR_count {ns : List Int} (R : SetR w h a (fun j => decide (j ∈ ns)) n) : n = ns.length ↔ ns.Nodup := by
  obtain ⟨o, es, ep, t, ho, hex, hd, g, nd, hm, hbd, hf, hn, hr, hl⟩ := R
  have sub : ∀ x ∈ es.toList.map keyOf, x ∈ ns := fun x hx => of_decide_eq_true ((hm x).mpr hx)
  have sup : ∀ x ∈ ns, x ∈ es.toList.map keyOf := fun x hx => (hm x).mp (decide_eq_true hx)
  have e1 : (es.toList.map keyOf).length = n := by rw [List.length_map, Array.length_toList]; exact hn
  constructor
  · intro e
    exact dup_len nd sub sup (by rw [e1]; exact e)
  · intro q
    have := sub_len q sup
    have := sub_len nd sub
    omega
end
section
variable {X : Cx} {K : PySem.W.Frag} {a : Expr} {ta : TE} {p p2 q pos : Pos}
/-- sorted(set(xs)): numbers below 60, as many as there are -/
def tSortSetB (K : PySem.W.Frag) (ta : TE) : TE := fun σ H Q => ta σ H fun x H1 => ∃ (l : Addr) (ns : List Int), x = .ref l ∧ SqL K H1 l (ns.map V.int) ∧ ns.length ≤ 4000 ∧ (∀ k ∈ ns, 0 ≤ k ∧ k < (60 : Nat)) ∧
  ∀ (ms : List Int) r, ms.Pairwise (· < ·) → (∀ k : Int, k ∈ ms ↔ k ∈ ns) → H1 r = none → Q (.ref r) (upd H1 r (.lst (ms.map V.int)))
theorem k_sortSetB (hK : X.K = K) (hg : Gl X "sorted") (hm : X.mg "sorted" = none) (hg2 : Gl X "set") (hm2 : X.mg "set" = none) (ha : PE X a ta) (hc : X.calm = true := by rfl)
    (na : starEach [a] X.env = (false, eval a X.env) :: starEach [] X.env := by rfl) : PE X (.Call (.Name "sorted" p) [.Call (.Name "set" p2) [a] [] q] [] pos) (tSortSetB K ta) := by
  subst hK
  refine ⟨fun pins s σ H Q I h => ?_⟩
  refine Call_ (ld_blt I hg hm (show bootBuiltins ("sorted" : Str) = some (.builtin "sorted") by decide +kernel) ?_)
  refine callWith_builtin1 (args_cons ?_ rfl) rfl rfl
  refine Call_ (ld_blt I hg2 hm2 boot_set ?_)
  refine callWith_type1 (args_cons (thn (ha.run pins s σ H _ I h) fun v s1 ⟨x, H1, I1, r1, q1⟩ => args_nil ?_) na) na rfl
  obtain ⟨l, ns, rfl, hq, hl, hb, q1⟩ := q1
  cases r1
  obtain ⟨its, r, pl, hz⟩ := I1.list hq
  refine set_of_list ns (I1.ok.hd hc) pl.isList (by simpa using intsAre_vals r) (by unfold scanBound; omega) fun h' tk c hS hcl hk => ?_
  refine args_nil ?_
  have I2 : Inv X pins σ H1 { s1 with heap := h', toks := tk } := I1.kept hk
  have few60 := setR_few (m := 60) hS fun k hk => hb k (of_decide_eq_true hk)
  refine sorted_set hS (I2.ok.hd hc) (by omega) fun s' p out c2 ms k g o hp hg hi hs hm hlen => ?_
  have few : (ms.map V.int).length ≤ sizeLine := by rw [List.length_map, hlen, sizeLine_eq]; omega
  have hn : H1 p = none := I2.hok.fresh hp
  have J : Inv X pins σ (upd H1 p (.lst (ms.map V.int))) { ({ s1 with heap := h', toks := tk } : Shared) with heap := s'.heap, gens := s'.gens, drawn := s'.drawn, toks := s'.toks } :=
    I2.call (ch := []) (Un.laid k hp hn) (I2.hok.laid k hp ⟨few, out.toList, c2, vals_of_ints hi, hg⟩) (by rw [g]; exact I2.bare) (fun _ z => nomatch z)
  have e : s' = { ({ s1 with heap := h', toks := tk } : Shared) with heap := s'.heap, gens := s'.gens, drawn := s'.drawn, toks := s'.toks } := by
    cases s'
    cases o
    rfl
  rw [e]
  exact ⟨.ref p, _, J, rfl, q1 ms p hs (fun k => by rw [hm k, decide_eq_true_eq]) hn⟩
theorem x_sortSetB {σ : L2.St} {H : Hp} {Q : VK} : tSortSetB K ta σ H Q = ta σ H fun x H1 => ∃ (l : Addr) (ns : List Int), x = .ref l ∧ SqL K H1 l (ns.map V.int) ∧ ns.length ≤ 4000 ∧ (∀ k ∈ ns, 0 ≤ k ∧ k < (60 : Nat)) ∧
  ∀ (ms : List Int) r, ms.Pairwise (· < ·) → (∀ k : Int, k ∈ ms ↔ k ∈ ns) → H1 r = none → Q (.ref r) (upd H1 r (.lst (ms.map V.int))) := rfl
/-- len(set(xs)): as many as the list has just where nothing stands twice -/
def tLenSetA (K : PySem.W.Frag) (ta : TE) : TE := fun σ H Q => ta σ H fun x H1 => ∃ (l : Addr) (ns : List Int), x = .ref l ∧ SqL K H1 l (ns.map V.int) ∧ ns.length ≤ 4000 ∧ ∀ n : Nat, (n = ns.length ↔ ns.Nodup) → n ≤ ns.length → Q (.int (n : Nat)) H1
theorem k_lenSetA (hK : X.K = K) (hg : Gl X "len") (hm : X.mg "len" = none) (hg2 : Gl X "set") (hm2 : X.mg "set" = none) (ha : PE X a ta) (hc : X.calm = true := by rfl)
    (na : starEach [a] X.env = (false, eval a X.env) :: starEach [] X.env := by rfl) : PE X (.Call (.Name "len" p) [.Call (.Name "set" p2) [a] [] q] [] pos) (tLenSetA K ta) := by
  subst hK
  refine ⟨fun pins s σ H Q I h => ?_⟩
  refine Call_ (ld_blt I hg hm boot_len ?_)
  refine callWith_builtin1 (args_cons ?_ rfl) rfl rfl
  refine Call_ (ld_blt I hg2 hm2 boot_set ?_)
  refine callWith_type1 (args_cons (thn (ha.run pins s σ H _ I h) fun v s1 ⟨x, H1, I1, r1, q1⟩ => args_nil ?_) na) na rfl
  obtain ⟨l, ns, rfl, hq, hl, q1⟩ := q1
  cases r1
  obtain ⟨its, r, pl, hz⟩ := I1.list hq
  refine set_of_list ns (I1.ok.hd hc) pl.isList (by simpa using intsAre_vals r) (by unfold scanBound; omega) fun h' tk c hS hcl hk => ?_
  refine args_nil ?_
  have I2 : Inv X pins σ H1 { s1 with heap := h', toks := tk } := I1.kept hk
  have cnt := setR_count hS
  obtain ⟨o, es, ep, t, ho, hex, hd, _, _, _, hbd, hf, hn, _, _⟩ := hS
  exact call_len_set ho hex hd hf (by rw [hn]; omega) ⟨.int c, H1, I2.tok _, ⟨_, by rw [hn]⟩, q1 c cnt hcl⟩
theorem x_lenSetA {σ : L2.St} {H : Hp} {Q : VK} : tLenSetA K ta σ H Q = ta σ H fun x H1 => ∃ (l : Addr) (ns : List Int), x = .ref l ∧ SqL K H1 l (ns.map V.int) ∧ ns.length ≤ 4000 ∧ ∀ n : Nat, (n = ns.length ↔ ns.Nodup) → n ≤ ns.length → Q (.int (n : Nat)) H1 := rfl
end
end BC

set_option Elab.async false
set_option linter.all false
set_option maxRecDepth 100000
set_option maxHeartbeats 4000000
/-! strings of trails, cut and read; list.count of flat values -/
namespace BC
open PySem PySem.Spec PyProof.Rows L2 Evl
/-! ### list.count of flat values -/
def rCntF (K : PySem.W.Frag) : V → List V → Hp → VK → Prop := fun x xs H Q => ∃ (a : Addr) (ys : List V) (y : V), x = .ref a ∧ xs = [y] ∧ SqL K H a ys ∧ flatV y = true ∧ ys.all flatV = true ∧ Q (.int ((ys.countP fun z => eqV z y : Nat) : Int)) H
theorem cnt_flat {y : V} : ∀ {ys : List V} {us : List Value}, Vals ys us → ys.all flatV = true → us.countP (eqU y) = ys.countP fun z => eqV z y
  | [], _, .nil, _ => rfl
  | z :: ys, _, .cons r rs, f => by
    rw [List.all_cons, Bool.and_eq_true] at f
    rw [List.countP_cons, List.countP_cons, cnt_flat rs f.2, eqU_of r f.1]
theorem k_cntF {X : Cx} {K : PySem.W.Frag} (hK : X.K = K) : MtR X "list.count" (rCntF K) := by
  subst hK
  intro pins s σ H x xs v us Q I rx rxs h
  obtain ⟨a, ys, y, rfl, rfl, hs, fy, fys, q⟩ := h
  cases rx
  cases rxs with
  | cons ry rt =>
    rename_i uy ut
    cases rt
    obtain ⟨its, rv, ⟨⟨cls, dd, data, sl⟩, n, ho, hc, hdn, hd⟩, hlen⟩ := I.list hs
    simp only at hc hd
    subst hc hd
    refine call_meets PySem.F.slot_list_count ⟨_, ho, rfl⟩ PySem.F.entry_list_count (PySem.F.args_list_count_2 _ _)
      (SeqAt.list_countAt a its.toArray n dd sl uy (eqU y)) ⟨ho, fun u' hu' => mem_eqAt ry fy rv fys u' (by simpa using hu'), ?_⟩
    have ec : its.toArray.toList.countP (eqU y) = ys.countP fun z => eqV z y := cnt_flat rv fys
    refine ⟨.int ((ys.countP fun z => eqV z y : Nat) : Int), H, I.tok _, ⟨s.toks, ?_⟩, q⟩
    show Value.int ((its.toArray.toList.countP (eqU y) : Nat) : Int) s.toks = _
    rw [ec]
/-! ### lengths -/
def totL (ps : List Str) : Nat := (ps.map (·.length)).sum
theorem totL_app (a b : List Str) : totL (a ++ b) = totL a + totL b := by unfold totL; rw [List.map_append, List.sum_append]
theorem totL_rev (a : List Str) : totL a.reverse = totL a := by
  unfold totL
  rw [List.map_reverse, List.sum_reverse]
theorem totL_take (a : List Str) (n : Nat) : totL (a.take n) ≤ totL a := by
  have := totL_app (a.take n) (a.drop n)
  rw [List.take_append_drop] at this
  omega
theorem totL_drop (a : List Str) (n : Nat) : totL (a.drop n) ≤ totL a := by
  have := totL_app (a.take n) (a.drop n)
  rw [List.take_append_drop] at this
  omega
theorem join_length (y : Str) : ∀ {ps : List Str}, ps ≠ [] → (Str.join y ps).length = totL ps + (ps.length - 1) * y.length
  | [], h => absurd rfl h
  | [p], _ => by
    show p.length = _
    unfold totL
    simp
  | p :: q :: r, _ => by
    have ih := join_length y (ps := q :: r) (by simp)
    show (p ++ y ++ Str.join y (q :: r)).length = _
    rw [Str.length_append, Str.length_append, ih]
    have e : totL (p :: q :: r) = p.length + totL (q :: r) := by unfold totL; rw [List.map_cons, List.sum_cons]
    rw [e]
    have l : (p :: q :: r).length - 1 = ((q :: r).length - 1) + 1 := by simp
    rw [l, Nat.succ_mul]
    omega
theorem split_ne (x y : Str) (h : 1 ≤ x.length ∨ Txt.split x y ≠ []) : Txt.split x y ≠ [] := by
  rcases h with h | h
  · intro e
    have := StrLaws.join_split x y
    rw [e] at this
    have : x.length = 0 := by rw [← this]; rfl
    omega
  · exact h
theorem split_sum (x y : Str) : totL (Txt.split x y) ≤ x.length ∧ ((Txt.split x y).length - 1) * y.length ≤ x.length := by
  by_cases h : Txt.split x y = []
  · rw [h]
    exact ⟨Nat.zero_le _, by simp⟩
  · have a := StrLaws.join_split x y
    have b := join_length y h
    rw [a] at b
    omega
theorem split_len {x y : Str} (h : 1 ≤ y.length) : (Txt.split x y).length ≤ x.length + 1 := by
  have a := (split_sum x y).2
  have b : (Txt.split x y).length - 1 ≤ ((Txt.split x y).length - 1) * y.length := Nat.le_mul_of_pos_right _ h
  omega
theorem join_le (y : Str) (ps : List Str) : (Txt.join y ps).length ≤ totL ps + ps.length * y.length := by
  rw [TL.join_eq]
  by_cases h : ps = []
  · rw [h]; exact Nat.zero_le _
  · rw [join_length y h]
    have : (ps.length - 1) * y.length ≤ ps.length * y.length := Nat.mul_le_mul_right _ (by omega)
    omega
/-! ### trails that are read -/
abbrev NX : Str := ((" > " : String) : Str)
theorem tl_nx : TL.tl NX = [32, 62, 32] := by decide +kernel
def wordsT (x : Str) : List Str := if x = Str.empty then [] else Txt.split x NX
def ptGo : List Str → List Nat → Option (List Nat)
  | [], acc => some acc
  | x :: ws, acc => match numIn x with
    | some n => if n < 40 ∧ n ∉ acc then ptGo ws (acc ++ [n]) else none
    | none => none
def ptT (x : Str) : Option (List Nat) := ptGo (wordsT x) []
theorem wordsT_len {x : Str} (h : x.length ≤ 4000) : (wordsT x).length ≤ 1400 := by
  unfold wordsT
  split
  · exact Nat.zero_le _
  · have a := (split_sum x NX).2
    rw [show NX.length = 3 by decide] at a
    omega
theorem wordsT_word {x p : Str} (h : p ∈ wordsT x) : p.length ≤ x.length := by
  unfold wordsT at h
  split at h
  · simp at h
  · have a := (split_sum x NX).1
    have b : p.length ≤ totL (Txt.split x NX) := by
      obtain ⟨s, t, e⟩ := List.append_of_mem h
      rw [e, totL_app]
      have : totL (p :: t) = p.length + totL t := by unfold totL; rw [List.map_cons, List.sum_cons]
      omega
    omega
theorem ptGo_ok : ∀ {ws : List Str} {acc L : List Nat}, acc.Nodup → (∀ n ∈ acc, n < 40) → ptGo ws acc = some L → L.Nodup ∧ (∀ n ∈ L, n < 40) ∧ ∃ M, L = acc ++ M ∧ ws = M.map numS
  | [], acc, L, nd, lt, h => by
    cases h
    exact ⟨nd, lt, [], by simp, rfl⟩
  | x :: ws, acc, L, nd, lt, h => by
    unfold ptGo at h
    cases e : numIn x with
    | none => rw [e] at h; cases h
    | some n =>
      rw [e] at h
      by_cases c : n < 40 ∧ n ∉ acc
      · simp only [c, not_false_eq_true, and_self, if_true] at h
        obtain ⟨a, b, M, m1, m2⟩ := ptGo_ok (ws := ws) (acc := acc ++ [n]) (L := L) (List.nodup_append.mpr ⟨nd, by simp, fun u hu v hv => by rw [List.mem_singleton.mp hv]; exact fun z => c.2 (z ▸ hu)⟩)
          (fun u hu => by
            rcases List.mem_append.mp hu with q | q
            · exact lt u q
            · rw [List.mem_singleton.mp q]; exact c.1) h
        refine ⟨a, b, n :: M, by rw [m1, List.append_assoc]; rfl, ?_⟩
        rw [List.map_cons, ← (numIn_some e).2, m2]
      · simp only [c, if_false] at h
        cases h
/-- read: the words write different pages -/
theorem ptGo_all {ws : List Str} {acc M : List Nat} (hw : ws = M.map numS) (lt : ∀ n ∈ M, n < 40) (nd : (acc ++ M).Nodup) : ptGo ws acc = some (acc ++ M) := by
  subst hw
  induction M generalizing acc with
  | nil => simp [ptGo]
  | cons n M ih =>
    rw [List.map_cons]
    unfold ptGo
    have n40 := lt n List.mem_cons_self
    rw [numIn_num (by omega)]
    have nn : n ∉ acc := fun m => by
      rw [List.nodup_append] at nd
      exact nd.2.2 n m n List.mem_cons_self rfl
    simp only [n40, nn, not_false_eq_true, and_self, if_true]
    have e : acc ++ n :: M = acc ++ [n] ++ M := by simp
    rw [e] at nd ⊢
    exact ih (fun u hu => lt u (List.mem_cons_of_mem _ hu)) nd
theorem ptT_some {x : Str} {L : List Nat} (h : ptT x = some L) : L.Nodup ∧ (∀ n ∈ L, n < 40) ∧ wordsT x = L.map numS := by
  obtain ⟨a, b, M, m1, m2⟩ := ptGo_ok List.nodup_nil (fun n hn => by simp at hn) h
  rw [List.nil_append] at m1
  subst m1
  exact ⟨a, b, m2⟩
theorem ptT_none {x : Str} (h : ptT x = none) {M : List Nat} (hw : wordsT x = M.map numS) (lt : ∀ n ∈ M, n < 40) : ¬ M.Nodup := fun nd => by
  have := ptGo_all (acc := []) hw lt (by simpa using nd)
  unfold ptT at h
  rw [this] at h
  cases h
theorem ptT_join {L : List Nat} (nd : L.Nodup) (lt : ∀ n ∈ L, n < 40) : ptT (Txt.join NX (L.map numS)) = some L := by
  refine (ptGo_all (acc := []) (M := L) ?_ lt (by simpa using nd)).trans (by simp)
  unfold wordsT
  cases L with
  | nil =>
    rw [List.map_nil, join_nil, if_pos rfl]
  | cons n M =>
    rw [if_neg]
    · exact TL.split_join tl_nx (by decide +kernel) (by simp) (fun p hp => by
        obtain ⟨x, _, rfl⟩ := List.mem_map.mp hp
        exact numS_free (by omega))
    · intro e
      have a := join_length NX (ps := (n :: M).map numS) (by simp)
      rw [← TL.join_eq, e] at a
      have b := (numS_len (n := n) (by have := lt n List.mem_cons_self; omega)).1
      have c : totL ((n :: M).map numS) = (numS n).length + totL (M.map numS) := by unfold totL; rw [List.map_cons, List.map_cons, List.sum_cons]
      rw [c] at a
      have d : Str.empty.length = 0 := by decide
      omega
/-! ### the words, made numbers -/
/-- is the value a page? -/
def isPg : V → Bool
  | .int n => decide (0 ≤ n) && decide (n ≤ 39)
  | _ => false
theorem numV_kind (x : Str) : numV x = .non ∨ ∃ n : Nat, n < 100 ∧ numV x = .int (n : Int) ∧ x = numS n := by
  unfold numV
  cases e : numIn x with
  | none => exact .inl rfl
  | some n =>
    obtain ⟨a, b⟩ := numIn_some e
    exact .inr ⟨n, a, rfl, b⟩
/-- all words are pages: they are numbers below 40 -/
theorem pages_of : ∀ {ws : List Str}, (ws.map numV).all isPg = true → ∃ M : List Nat, ws = M.map numS ∧ (∀ n ∈ M, n < 40) ∧ ws.map numV = (nz M).map V.int
  | [], _ => ⟨[], rfl, fun n h => by simp at h, rfl⟩
  | x :: ws, h => by
    rw [List.map_cons, List.all_cons, Bool.and_eq_true] at h
    obtain ⟨M, m1, m2, m3⟩ := pages_of h.2
    rcases numV_kind x with e | ⟨n, n1, e, rfl⟩
    · rw [e] at h
      exact absurd h.1 (by decide)
    · rw [e] at h
      have h1 : (decide ((0 : Int) ≤ (n : Int)) && decide (((n : Nat) : Int) ≤ 39)) = true := h.1
      rw [Bool.and_eq_true, decide_eq_true_eq, decide_eq_true_eq] at h1
      refine ⟨n :: M, by rw [List.map_cons, m1], fun u hu => ?_, ?_⟩
      · rcases List.mem_cons.mp hu with rfl | hu
        · omega
        · exact m2 u hu
      · rw [List.map_cons, e, m3]
        rfl
theorem pages_are {M : List Nat} (h : ∀ n ∈ M, n < 40) : ((M.map numS).map numV).all isPg = true := by
  rw [List.all_eq_true]
  intro v hv
  rw [List.map_map] at hv
  obtain ⟨n, hn, rfl⟩ := List.mem_map.mp hv
  have := h n hn
  show isPg (numV (numS n)) = true
  rw [numV_num (by omega)]
  show (decide ((0 : Int) ≤ (n : Int)) && decide (((n : Nat) : Int) ≤ 39)) = true
  rw [decide_eq_true (by omega), decide_eq_true (by omega)]
  rfl
theorem numV_ints {M : List Nat} (h : ∀ n ∈ M, n < 40) : (M.map numS).map numV = (nz M).map V.int := by
  unfold nz
  rw [List.map_map, List.map_map]
  refine List.map_congr_left fun n hn => ?_
  have := h n hn
  exact numV_num (by omega)
end BC

set_option Elab.async false
set_option linter.all false
set_option maxRecDepth 100000
set_option maxHeartbeats 4000000
/-! own __len__, sorted(d.items()), comprehensions over pairs -/
namespace BC
open PySem PySem.Spec PyProof.Rows L2 Evl
section
variable {X : Cx} {CX : CXT} {k : Nat} {C f : Addr} {fd : FuncData} {ps : List Str} {sp : Sp} {E : XK}
/-- len(o), by the class's own __len__ -/
def rLenOwn (C : Addr) (sp : Sp) (E : XK) : List V → Hp → VK → Prop := fun xs H Q => ∃ a dx fs, xs = [.ref a] ∧ H a = some (.ins C dx fs) ∧ sp [.ref a] H (fun v H' => ∃ n : Int, v = .int n ∧ 0 ≤ n ∧ n < 2 ^ 63 ∧ Q (.int n) H') E
theorem call_lenOwn (hs : PySem.W.findIn X.K (.ref C) "__len__" = some (some (.ref f))) (hf : PySem.W.isFn X.K (.ref f) = true) (F : FnOk X.prog X.w X.K X.mg X.base CX k f fd ps sp) (hr : Room (k + 1) X.A) (hb : Binds X.K fd ps []) (hx : Passes CX X E) : CallR X (.builtin "len") (rLenOwn C sp E) := by
  intro pins s σ H xs us Q I r h
  obtain ⟨a, dx, fs, rfl, ea, h⟩ := h
  obtain ⟨u, rfl, ru⟩ := vals1 r
  obtain rfl : u = Value.ref a := ru
  obtain ⟨mA, O, _, _, _, _⟩ := ins_get I.hok ea
  obtain ⟨od, J, _⟩ := O.look
  obtain ⟨m, hF⟩ := I.fr
  have hl : ([Value.ref a] ++ ([] : List Value)).length = ps.length := by
    rw [← F.len _ _ _ _ h]
    rfl
  refine PySem.W.len_K hF I.ok.mod.kin J hs hf (wpAny_call ?_)
  refine codeAny_mono (F.run X.A.in1 X.stack s H ⟨[.ref a], []⟩ [.ref a] [.ref a] _ E hr.in1 I.env0.in1 (hb _ [.ref a] I.kIn hl) (.cons rfl .nil) h) fun r s' hq => ?_
  cases r with
  | error er => exact hx pins σ H s er s' I hq
  | ok fl =>
    cases fl with
    | ret u =>
      obtain ⟨v, H', I3, rv, n, rfl, n0, n1, q⟩ := I.after hq
      obtain ⟨t, rfl⟩ := rv
      exact ⟨⟨n0, n1⟩, .int n, H', I3.tok _, ⟨_, rfl⟩, q⟩
    | next => exact False.elim hq
    | brk => exact False.elim hq
    | cont => exact False.elim hq
end
/-! ### sorted(d.items()), numbers by numbers -/
def PairAt (H : Hp) (t : Addr) (q : Int × Int) : Prop := H t = some (.tup [.int q.1, .int q.2])
def itK (q : Int × Int) : Key × V := (Sum.inl q.1, .int q.2)
def leP (a b : Int × Int) : Prop := a.1 < b.1 ∨ (a.1 = b.1 ∧ a.2 ≤ b.2)
open L2.DX
/-- d.items() of a dict of numbers or texts -/
def rItems : V → List V → Hp → VK → Prop := fun x xs H Q => ∃ (a : Addr) (kvs : List (Key × V)), x = .ref a ∧ xs = [] ∧ H a = some (.dK kvs) ∧ ∀ p, H p = none → Q (.ref p) (upd H p (itemsO p a))
def rSortIt : List V → Hp → VK → Prop := fun xs H Q => ∃ (v d : Addr) (qs : List (Int × Int)), xs = [.ref v] ∧ H v = some (itemsO v d) ∧ H d = some (.dK (qs.map itK)) ∧
  ∀ (H' : Hp) (p : Addr) (ts : List Addr) (rs : List (Int × Int)), Ex H H' → H p = none → H' p = some (.lst (ts.map V.ref)) → rs.Perm qs → rs.Pairwise leP → ts.length = rs.length → (∀ i t, ts[i]? = some t → H t = none ∧ PairAt H' t (rs.getD i (0, 0))) → Q (.ref p) H'
theorem pairs_get {κ : Type} [DecidableEq κ] {P : Program} {w : World} {knd : KeyKind P w κ} {es : List DictEntry} {vs : List (κ × Value)} (h : Pairs knd es vs) : ∀ {j : Nat} {en : DictEntry}, es[j]? = some en → ∃ kv, vs[j]? = some kv ∧ knd.is kv.1 en.key = true ∧ en.val = kv.2 := by
  induction h with
  | nil => intro j en e; simp at e
  | @cons e kv es kvs h1 h2 _ ih =>
    intro j en he
    cases j with
    | zero =>
      simp at he
      subst he
      exact ⟨kv, by simp, h1, h2⟩
    | succ j =>
      simp only [List.getElem?_cons_succ] at he ⊢
      exact ih he
section
variable {X : Cx}
theorem mt_items : MtR X "dict.items" rItems := by
  intro pins s σ H x xs v us Q I rx rxs h
  obtain ⟨a, kvs, rfl, rfl, ha, q⟩ := h
  cases rx
  cases rxs
  obtain ⟨hz, hd0, vs, kv, o, es, ep, ho, hx, hdat, _⟩ := dk_of I.hok ha
  refine DT.callItems (es := es) (ep := ep) hd0 ⟨o, ho, hx, hdat⟩ ?_
  have hf : H s.heap.objs.size = none := I.hok.fresh (Nat.le_refl _)
  exact ⟨.ref s.heap.objs.size, upd H s.heap.objs.size (itemsO s.heap.objs.size a), I.laid (t' := s.toks) (fun b u e => Heap.get?_push_of_some _ e) (Nat.le_refl _) (itemsO_ok (Heap.get?_push_size _ rfl)), rfl, q _ hf⟩
def adr : Value → Addr
  | .ref b => b
  | _ => 0
theorem cr_sortIt (hc : X.calm = true) : CallR X (.builtin "sorted") rSortIt := by
  intro pins s σ H xs us Q I r h
  obtain ⟨p, a, qs, rfl, hp, ha, q⟩ := h
  obtain rfl := Vals.ref1 r
  have view : s.heap.IsItemsView p a := (show ObjOk X.prog X.w H s.heap p (itemsO p a) from I.hok p _ hp).1
  obtain ⟨hz, hd0, vs, kv, o, es, ep, ho, hx, hdat, hks, prs, hn⟩ := dk_of I.hok ha
  rw [List.length_map] at hz
  have l1 : (qs.map itK).length = vs.length := Paired.length kv
  rw [List.length_map] at l1
  have l2 : es.size = vs.length := by rw [← prs.length, Array.length_toList]
  refine DT.sortedI (es := es) (ep := ep) (I.ok.hd hc) view ⟨o, ho, hx, hdat⟩ (by omega) fun h' tk as hk hlt hl hG => ?_
  have lak : as.length = qs.length := by omega
  have nd : as.Nodup := List.Pairwise.imp (fun h => Nat.ne_of_lt h) hG.rise
  have pr : ∀ (j : Nat) (b : Addr), as[j]? = some b → ∃ (g : Int × Int) (t u : Tok), qs[j]? = some g ∧ h'.get? b = some { cls := .type "tuple", data := .seq #[Value.int g.1 t, Value.int g.2 u] } := by
    intro j b hj
    obtain ⟨en, he, hg⟩ := hG.pairs j b hj
    have he' : es.toList[j]? = some en := by rw [Array.getElem?_toList]; exact he
    obtain ⟨kv0, h1, h2, h3⟩ := pairs_get prs he'
    have hjl : j < qs.length := by have := (List.getElem?_eq_some_iff.mp hj).1; omega
    have hq : qs[j]? = some qs[j] := List.getElem?_eq_getElem hjl
    obtain ⟨u, hu, ru⟩ := kv_get kv (i := j) (k := Sum.inl qs[j].1) (v := .int qs[j].2) (by rw [List.getElem?_map, hq]; rfl)
    rw [h1] at hu
    cases hu
    obtain ⟨tk1, hk1⟩ : RelV (kV (Sum.inl qs[j].1)) en.key := relV_key (show keyIs (Sum.inl qs[j].1) en.key = true from h2)
    obtain ⟨tk2, hk2⟩ := ru
    refine ⟨qs[j], tk1, tk2, hq, ?_⟩
    rw [hg, h3, hk2]
    have : en.key = Value.int qs[j].1 tk1 := hk1
    rw [this]
  have hob : (h'.push { cls := .type "list", data := .seq (as.map Value.ref).toArray }).get? h'.objs.size = some (seqObj "list" (as.map Value.ref).toArray 0) := Heap.get?_push_size _ rfl
  have kb : ∀ b o, s.heap.get? b = some o → (h'.push { cls := .type "list", data := .seq (as.map Value.ref).toArray }).get? b = some o := fun b o e => Heap.get?_push_of_some _ (hk b o e)
  have ne0 : ∀ b o, h'.get? b = some o → b ≠ h'.objs.size := fun b o e => Nat.ne_of_lt (Heap.lt_size e)
  generalize hh2 : h'.push { cls := .type "list", data := .seq (as.map Value.ref).toArray } = h2 at hob kb ⊢
  have ka : ∀ b o, h'.get? b = some o → h2.get? b = some o := fun b o e => by rw [← hh2]; exact Heap.get?_push_of_some _ e
  let kf : Value → Int × Int := fun u => qs.getD (as.idxOf (adr u)) (0, 0)
  have kfa : ∀ (j : Nat) (b : Addr), as[j]? = some b → kf (.ref b) = qs.getD j (0, 0) := fun j b hj => by
    obtain ⟨hjl, hjb⟩ := List.getElem?_eq_some_iff.mp hj
    show qs.getD (as.idxOf b) (0, 0) = _
    rw [← hjb, nd.idxOf_getElem j hjl]
  have isp : ∀ v ∈ as.map Value.ref, Srt.IsPair h2 v (kf v).1 (kf v).2 := fun v hv => by
    obtain ⟨b, hb, rfl⟩ := List.mem_map.mp hv
    obtain ⟨j, hj⟩ := List.mem_iff_getElem?.mp hb
    obtain ⟨g, t, u, hg, hob⟩ := pr j b hj
    rw [kfa j b hj, List.getD_eq_getElem?_getD, hg]
    exact ⟨b, _, t, u, 0, rfl, ka _ _ hob, rfl, rfl⟩
  refine wpAny_call_entry PyProof.Rows.slot_list_sort ⟨_, hob, rfl⟩ PyProof.Rows.entry_list_sort
    (SrtO.list_sort_ord (s := { s with heap := h2, toks := tk }) (SrtO.swo_lex kf) hob (by rw [List.length_map]; omega) (fun h2' => SrtO.pairs_sortableO (by omega) isp fun o e => ?_) fun out h1 h2' => ⟨.none, rfl, ?_⟩) (PyProof.Rows.args_list_sort _)
  · have e' : some o = some (seqObj "list" (as.map Value.ref).toArray 0) := e.symm.trans hob
    cases e'
    intro c
    exact absurd (Value.type.inj c) (by decide)
  · show EP X pins σ Q (.ref h'.objs.size) { s with heap := sortedHeap h2 h'.objs.size (as.map Value.ref) out.toArray, toks := tk }
    have hperm := h2'.perm
    have outr : ∀ u ∈ out, ∃ b, b ∈ as ∧ u = Value.ref b := fun u hu => by
      obtain ⟨b, hb, e⟩ := List.mem_map.mp (hperm.mem_iff.mp hu)
      exact ⟨b, hb, e.symm⟩
    have hout : out = (out.map adr).map Value.ref := by
      rw [List.map_map]
      conv => lhs; rw [← List.map_id out]
      refine List.map_congr_left fun u hu => ?_
      obtain ⟨b, _, rfl⟩ := outr u hu
      rfl
    have tperm : (out.map adr).Perm as := by
      have := hperm.map adr
      rw [List.map_map] at this
      have e : as.map (adr ∘ Value.ref) = as := by
        conv => rhs; rw [← List.map_id as]
        exact List.map_congr_left fun b _ => rfl
      rw [e] at this
      exact this
    have kF : ∀ b o, b ≠ h'.objs.size → h2.get? b = some o → (sortedHeap h2 h'.objs.size (as.map Value.ref) out.toArray).get? b = some o := fun b o hb e => (PyProof.Rows.sortedHeap_old hb (Heap.lt_size e)).trans e
    have kS : ∀ b o, s.heap.get? b = some o → (sortedHeap h2 h'.objs.size (as.map Value.ref) out.toArray).get? b = some o := fun b o e => kF b o (ne0 _ _ (hk b o e)) (kb b o e)
    obtain ⟨eF, heF⟩ := PyProof.Rows.sortedHeap_at (vs := as.map Value.ref) (out := out.toArray) hob
    have I1 : Inv X pins σ H { s with heap := sortedHeap h2 h'.objs.size (as.map Value.ref) out.toArray, toks := tk } := I.kept (t' := tk) kS
    have hn0 : H h'.objs.size = none := I.hok.fresh (Nat.le_of_lt hlt)
    have lout : (out.map adr).length = qs.length := by rw [tperm.length_eq, lak]
    have rv : Vals ((out.map adr).map V.ref) out := by
      conv => rhs; rw [hout]
      exact LiI.vals_refs _
    have I2 : Inv X pins σ (upd H h'.objs.size (.lst ((out.map adr).map V.ref))) { s with heap := sortedHeap h2 h'.objs.size (as.map Value.ref) out.toArray, toks := tk } :=
      I1.take (h' := sortedHeap h2 h'.objs.size (as.map Value.ref) out.toArray) (t' := tk) (fun b ob _ e => e) (I.fpOk (Nat.le_of_lt hlt) hn0) ⟨by rw [List.length_map, lout]; omega, out, eF, rv, heF⟩
    obtain ⟨H2, I3, g, qt⟩ := takeT (P := fun b vs => ∃ (j : Nat) (g : Int × Int), as[j]? = some b ∧ qs[j]? = some g ∧ vs = [.int g.1, .int g.2]) I as _ I2 nd fun b hb => by
      obtain ⟨j, hj⟩ := List.mem_iff_getElem?.mp hb
      obtain ⟨g, t, u, hg, hob⟩ := pr j b hj
      have hbl : s.heap.objs.size ≤ b := Nat.le_of_lt (hG.above b hb)
      refine ⟨hbl, ?_, [.int g.1, .int g.2], ⟨j, g, hj, hg, rfl⟩, fun H3 => ⟨(by rw [sizeLine_eq]; show 2 ≤ 16777216; omega), [Value.int g.1 t, Value.int g.2 u], .cons ⟨t, rfl⟩ (.cons ⟨u, rfl⟩ .nil), ⟨_, kF _ _ (ne0 _ _ hob) (ka _ _ hob), rfl, 0, rfl⟩⟩⟩
      rw [upd_ne (ne0 _ _ hob)]
      exact I.hok.fresh hbl
    have gr : ∀ b o, H b = some o → H2 b = some o := fun b o e => g b o (by rw [upd_ne (ne_of_none e hn0)]; exact e)
    refine ⟨.ref h'.objs.size, H2, I3, rfl, q H2 h'.objs.size (out.map adr) ((out.map adr).map fun b => kf (.ref b)) gr hn0 (g _ _ upd_same) ?_ ?_ (by simp only [List.length_map]) fun i t hi => ?_⟩
    · have e := tperm.map (fun b => kf (.ref b))
      have e2 : as.map (fun b => kf (.ref b)) = qs := by
        apply List.ext_getElem?
        intro j
        rw [List.getElem?_map]
        cases c : as[j]? with
        | none =>
          rw [List.getElem?_eq_none_iff] at c
          rw [List.getElem?_eq_none (by omega)]
          rfl
        | some b =>
          have hjl := (List.getElem?_eq_some_iff.mp c).1
          show some (kf (.ref b)) = _
          rw [kfa j b c, List.getD_eq_getElem?_getD, List.getElem?_eq_getElem (by omega)]
          rfl
      rw [e2] at e
      exact e
    · have hs := h1
      rw [hout] at hs
      unfold SrtO.Srtd at hs
      rw [List.pairwise_map] at hs
      rw [List.pairwise_map]
      refine hs.imp fun {x y} h => ?_
      have := SrtO.lexB_no.mp h
      unfold leP
      show (kf (.ref x)).1 < (kf (.ref y)).1 ∨ ((kf (.ref x)).1 = (kf (.ref y)).1 ∧ (kf (.ref x)).2 ≤ (kf (.ref y)).2)
      omega
    · have ta : t ∈ as := tperm.mem_iff.mp (List.mem_of_getElem? hi)
      obtain ⟨vs', ⟨j, g', j1, j2, ev⟩, hH⟩ := qt t ta
      refine ⟨I.hok.fresh (Nat.le_of_lt (hG.above t ta)), ?_⟩
      have e3 : ((out.map adr).map fun b => kf (.ref b)).getD i (0, 0) = g' := by
        rw [List.getD_eq_getElem?_getD, List.getElem?_map, hi]
        show kf (.ref t) = g'
        rw [kfa j t j1, List.getD_eq_getElem?_getD, j2]
        rfl
      unfold PairAt
      rw [e3, hH, ev]
end
/-! ### xs[:1] = ys -/
theorem bounds_head (n : Nat) : sliceBounds none (some 1) none n = (((0 : Nat) : Int), ((min 1 n : Nat) : Int), 1) := by
  unfold sliceBounds
  simp
  omega
section
variable {prog : Program} {w : World} {A : Around} {s : Shared} {E : Value → Shared → Prop}
theorem setItem_head {l b sl : Addr} {items new : Array Value} {n n2 : Nat} {vl vu : Value} {Q : Unit → Shared → Prop}
    (e : s.heap.get? l = some { cls := .type "list", data := .seq items n }) (e2 : s.heap.get? b = some { cls := .type "list", data := .seq new n2 }) (hne : l ≠ b)
    (hs : s.heap.IsSliceOf sl vl vu .none) (pl : IsPart vl none) (pu : IsPart vu (some 1))
    (hsz : items.size + new.size ≤ sizeLine) (h : Q () { s with heap := s.heap.update l (Obj.mapSeq fun xs => xs.extract 0 0 ++ new ++ xs.extract (min 1 items.size) xs.size) }) :
    wpAny (model prog w) A (setItem (.ref l) (.ref sl) (.ref b)) Q E s := by
  have hl : s.heap.IsList l items := PySem.IsL.isList e
  have hb : s.heap.IsList b new := PySem.IsL.isList e2
  obtain ⟨os, hos, hcs, hds⟩ := id hs
  have hTs : s.TypeIs (.ref sl) "slice" := ⟨os, hos, hcs⟩
  have hstep : ¬ ((rawPart none == rawInt 0) = true) := Bool.false_ne_true
  have hsame : Builtin.List.listSameRef (.ref l) (.ref b) = false := by
    unfold Builtin.List.listSameRef
    exact beq_eq_false_iff_ne.mpr hne
  have hmax : (max ((0 : Nat) : Int) ((min 1 items.size : Nat) : Int)).toNat = min 1 items.size := by omega
  have hz' : ((fun xs : Array Value => xs.extract 0 0 ++ new ++ xs.extract (min 1 items.size) xs.size) items).size ≤ sizeLine + 1 := by
    simp only [Array.size_append, Array.size_extract]
    omega
  unfold setItem
  try with_reducible refine wpAny_holding ?_
  first | refine wpAny_bind (wpAny_pure ?_) | skip
  refine wpAny_bind (wpAny_sequenceKey hl.typeIs (by decide) ?_)
  refine wpAny_bind (wpAny_callSpecial?_slot (name := Str.ofString "__setitem__") hl.typeIs slot_list_setitem
    (wpAny_call_entry slot_list_setitem hl.typeIs entry_list_setitem ?_ (args_list_setitem _ _ _)))
  show wpAny _ _ (Builtin.List.listSubscript? (.ref sl) >>= _) _ _ s
  refine wpAny_bind ?_
  unfold Builtin.List.listSubscript?
  refine wpAny_bind (wpAny_specialOf hTs slice_no_index ?_)
  simp only [Option.isNone_none, if_true]
  refine wpAny_pure ?_
  show wpAny _ _ (typeOf (.ref sl) >>= _) _ _ s
  refine wpAny_bind (wpAny_typeOf hTs ?_)
  first
    | rw [if_neg (by decide)]
    | refine PySem.W.KFB.if_not (by decide) ?_
  rw [listSliceParts_eq]
  refine wpAny_bind (wpAny_bind (wpAny_field hos hds (x := .none) rfl (wpAny_bind (wpAny_listPart .none ?_))))
  rw [if_neg hstep]
  refine wpAny_bind (wpAny_field hos hds (x := vl) rfl (wpAny_bind (wpAny_listPart pl ?_)))
  refine wpAny_bind (wpAny_field hos hds (x := vu) rfl (wpAny_bind (wpAny_listPart pu (wpAny_pure ?_))))
  first
    | simp only [hsame, Bool.false_eq_true, if_false]
    | refine PySem.W.KFB.if_not hsame ?_
    | (dsimp only
       rw [if_neg (by rw [hsame]; exact Bool.false_ne_true)])
  refine wpAny_bind (m := Builtin.List.listAllItems (.ref b) "must assign iterable to extended slice") ?_
  unfold Builtin.List.listAllItems
  refine wpAny_bind (wpAny_typeOf hb.typeIs ?_)
  first
    | refine PySem.W.KFB.if_so (by decide) ?_
    | rw [if_pos (by decide)]
    | simp only [beq_self_eq_true, Bool.true_or, if_true]
  unfold Builtin.List.listItems
  refine wpAny_bind (wpAny_seqItems e2 rfl (wpAny_pure ?_))
  refine wpAny_bind (wpAny_bind (wpAny_seqItems e rfl (wpAny_pure ?_)))
  refine wpAny_bind (wpAny_of_eq ((sliceIndices_raw none (some 1) none items.size (by simp)).trans (congrArg (pure : Int × Int × Int → Sem (Int × Int × Int)) (bounds_head items.size))) ?_)
  show wpAny _ _ (if ((1 : Int) == 1) = true then _ else _) _ _ s
  rw [if_pos (by decide)]
  refine wpAny_bind (wpAny_rule ?_)
  first
    | simp only [notLongL hsz, Bool.false_eq_true, if_false]
    | refine PySem.W.KFB.if_not (notLongL hsz) ?_
  first | refine wpAny_bind (wpAny_pure ?_) | skip
  show wpAny _ _ (updateSeq l (fun xs => xs.extract 0 ((0 : Nat) : Int).toNat ++ new ++ xs.extract (max ((0 : Nat) : Int) ((min 1 items.size : Nat) : Int)).toNat xs.size) >>= _) _ _ s
  rw [hmax, Int.toNat_natCast]
  refine wpAny_bind (wpAny_updateSeq (hz := Nat.le_trans (Nat.le_add_right _ _) hsz) (_hz' := hz') e rfl ?_)
  refine wpAny_bind (wpAny_letGo ?_)
  first
    | exact wpAny_bind (wpAny_pure (wpAny_pure ⟨.none, rfl, wpAny_pure h⟩))
    | exact wpAny_pure ⟨.none, rfl, wpAny_pure h⟩
end
section
variable {X : Cx} {o e : Expr} {to : TE} {p2 pos : Pos}
/-- o[:1] = v, both lists -/
def gHead (to : TE) : TG := fun v σ H QG => to σ H fun x H1 => ∃ a b xs ys, x = .ref a ∧ v = .ref b ∧ a ≠ b ∧ H1 a = some (.lst xs) ∧ H1 b = some (.lst ys) ∧ xs.length + ys.length ≤ sizeLine ∧ QG σ (upd H1 a (.lst (ys ++ xs.drop 1)))
theorem set_head {pins : List (Addr × Obj)} {s : Shared} {σ : L2.St} {H : Hp} {l b sl : Addr} {xs ys : List V} {vl vu : Value} {Q : Unit → Shared → Prop} (I : Inv X pins σ H s)
    (hH : H l = some (.lst xs)) (hB : H b = some (.lst ys)) (hne : l ≠ b) (hs : s.heap.IsSliceOf sl vl vu .none) (pl : IsPart vl none) (pu : IsPart vu (some 1))
    (hz : xs.length + ys.length ≤ sizeLine) (h : ∀ s', Inv X pins σ (upd H l (.lst (ys ++ xs.drop 1))) s' → Q () s') :
    wpAny (model X.prog X.w) X.A (setItem (.ref l) (.ref sl) (.ref b)) Q X.xe s := by
  obtain ⟨z, its, n, r, hl, e⟩ := I.lstM hH
  obtain ⟨z2, its2, n2, r2, hl2, e2⟩ := I.lstM hB
  refine setItem_head e e2 hne hs pl pu (by rw [List.size_toArray, List.size_toArray]; omega) (h _ ?_)
  have ed : ∀ {α : Type} (zs : List α), zs.drop (min 1 zs.length) = zs.drop 1 := fun zs => by
    cases zs with
    | nil => rfl
    | cons a zs => rw [List.length_cons, show min 1 (zs.length + 1) = 1 by omega]
  have er : ys ++ xs.drop 1 = xs.take 0 ++ ys ++ xs.drop (min 1 xs.length) := by rw [ed, List.take_zero, List.nil_append]
  rw [er]
  refine I.lset (its' := its.take 0 ++ its2 ++ its.drop (min 1 its.length)) (t' := s.toks) hH e ?_ (Vals.append (Vals.append (r.take _) r2) (by rw [r.length]; exact r.drop _)) ?_
  · rw [List.size_toArray]
    exact splice_eq its its2 0 (min 1 its.length)
  · rw [List.length_append, List.length_append, List.length_take, List.length_drop]
    omega
theorem pg_head {k1 : Nat} {p3 : Pos} (ho : PE X o to)
    (ha0 : ∀ v, assign (.Subscript o (.Slice none (some (.Constant (.int 1) k1 p3)) none p2) pos) X.env v = (do
      let ov ← holding [v] (eval o X.env)
      let iv ← holding [v, ov] (eval (.Slice none (some (.Constant (.int 1) k1 p3)) none p2) X.env)
      standAt pos
      holding [v, ov, iv] (setItem ov iv v)
      release [iv, v, ov] []) := by intro _; rfl) : PG X (.Subscript o (.Slice none (some (.Constant (.int 1) k1 p3)) none p2) pos) (gHead to) := by
  refine ⟨fun pins s σ H v u Q I r h => ?_⟩
  rw [ha0]
  refine wpAny_bind (wpAny_holding (thn (ho.run pins s σ H _ I h) fun ov s1 ⟨x, H1, I1, r1, q1⟩ => ?_))
  obtain ⟨a, b, xs, ys, rfl, rfl, hne, ha, hb, hz, q⟩ := q1
  cases r1
  cases r
  refine wpAny_bind (wpAny_holding ?_)
  refine wpAny_Slice ?_
  rw [evalPart_none]
  refine wpAny_pure ?_
  rw [evalPart_some]
  refine thn ((pe_int (X := X) (i := 1)).run pins s1 σ H1 (fun v H' => v = .int 1 ∧ H' = H1) I1 ⟨rfl, rfl⟩) fun u s2 ⟨x, H2, I2, r2, ex, eH⟩ => ?_
  subst ex
  subst eH
  obtain ⟨t, rfl⟩ := r2
  refine wpAny_pure ?_
  have I4 : Inv X pins σ H2 { s2 with heap := s2.heap.push { cls := .type "slice", data := .fields #[.none, .int 1 t, .none] } } := I2.kept (t' := s2.toks) fun b ob q => Heap.get?_push_of_some _ q
  refine wpAny_bind (wpAny_standAt (wpAny_bind (wpAny_holding ?_)))
  refine set_head I4 ha hb hne (Heap.IsSliceOf.new ..) .none (.int _ _) hz fun s' I5 => ?_
  exact wpAny_release ⟨σ, _, I5, q⟩
theorem x_ghead {σ : L2.St} {H : Hp} {v : V} {QG : L2.St → Hp → Prop} : gHead to v σ H QG = to σ H fun x H1 => ∃ a b xs ys, x = .ref a ∧ v = .ref b ∧ a ≠ b ∧ H1 a = some (.lst xs) ∧ H1 b = some (.lst ys) ∧ xs.length + ys.length ≤ sizeLine ∧ QG σ (upd H1 a (.lst (ys ++ xs.drop 1))) := rfl
end
/-! ### comprehensions over pairs -/
section
variable {K : PySem.W.Frag} {σ : L2.St} {H1 : Hp} {g : TG} {tt : TT} {te : TE} {vs : List Nat} {Dl : Addr} {Q : VK}
/-- the items of a list or a tuple are pairs -/
theorem lc_pairs {a : Addr} {J : It} {ts : List Addr} {u v : Nat → V} {j k : Nat} (hJ : (J = Itl K a ∧ SqL K H1 a (ts.map V.ref)) ∨ (J = Itt K a ∧ SqT K H1 a (ts.map V.ref))) (hp : ∀ i t, ts[i]? = some t → H1 t = some (.tup [u i, v i])) (keep : Nat → Bool) (f : Nat → V) (hD : H1 Dl = none) (hn : ts.length ≤ 100000)
    (hw : ∀ x y : V, wipe (((wipe σ vs).set j (some x)).set k (some y)) vs = wipe σ vs)
    (ht : ∀ i, i < ts.length → Evl.EvT tt (((wipe σ vs).set j (some (u i))).set k (some (v i))) H1 (keep i))
    (he : ∀ i, i < ts.length → keep i = true → Evl.Ev te (((wipe σ vs).set j (some (u i))).set k (some (v i))) H1 (f i))
    (hd : ∀ H', Evl.Ex H1 H' → H' Dl = some (.lst (kept ts.length keep f)) → Q (.ref Dl) H') : LcG J (gTup K 2 (gCons (gName j) (gCons (gName k) gNil))) tt te vs σ Dl H1 Q := by
  have gt : ∀ i, i < ts.length → ts[i]? = some (ts.getD i 0) := fun i hi => by rw [List.getD_eq_getElem?_getD, List.getElem?_eq_getElem hi]; rfl
  have fin : ∀ (i : Nat) (H' : Hp) (x : V) (QG : L2.St → Hp → Prop), i < ts.length → Evl.Ex H1 H' → (ts.map V.ref)[i]? = some x → (Evl.Ex H' H' → QG (((wipe σ vs).set j (some (u i))).set k (some (v i))) H') → gTup K 2 (gCons (gName j) (gCons (gName k) gNil)) x (wipe σ vs) H' QG := fun i H' x QG hi e hx q => by
    rw [List.getElem?_map, gt i hi] at hx
    cases hx
    exact g_two (e _ _ (hp i _ (gt i hi))) (q (Ex.refl _))
  rcases hJ with ⟨rfl, hx⟩ | ⟨rfl, hx⟩
  · refine lc_pure ts.length (fun i => ((wipe σ vs).set j (some (u i))).set k (some (v i))) keep f hD hn (fun H' e => ⟨_, Evl.ex_l e hx, by rw [List.length_map]; exact Nat.le_refl _⟩) (fun i H' hi e => ⟨_, _, Evl.ex_l e hx, by rw [List.getElem?_map, gt i hi]; rfl⟩)
      (fun i H' x H'' QG hi e y q => ?_) (fun i hi => hw _ _) ht he hd
    obtain ⟨rfl, hf⟩ := y
    exact fin i _ _ QG hi e (hf _ (Evl.ex_l e hx)) q
  · refine lc_pure ts.length (fun i => ((wipe σ vs).set j (some (u i))).set k (some (v i))) keep f hD hn (fun H' e => ⟨_, Evl.ex_t e hx, by rw [List.length_map]; exact Nat.le_refl _⟩) (fun i H' hi e => ⟨_, _, Evl.ex_t e hx, by rw [List.getElem?_map, gt i hi]; rfl⟩)
      (fun i H' x H'' QG hi e y q => ?_) (fun i hi => hw _ _) ht he hd
    obtain ⟨rfl, hf⟩ := y
    exact fin i _ _ QG hi e (hf _ (Evl.ex_t e hx)) q
/-- zip of two lists, the second not longer -/
theorem lc_zipS {a b : Addr} {xs ys : List V} {j k : Nat} (keep : Nat → Bool) (f : Nat → V) (hx : SqL K H1 a xs) (hy : SqL K H1 b ys) (he0 : ys.length ≤ xs.length) (hD : H1 Dl = none) (hn : ys.length ≤ 100000)
    (hw : ∀ u v : V, wipe (((wipe σ vs).set j (some u)).set k (some v)) vs = wipe σ vs)
    (ht : ∀ i x y, xs[i]? = some x → ys[i]? = some y → Evl.EvT tt (((wipe σ vs).set j (some x)).set k (some y)) H1 (keep i))
    (he : ∀ i x y, xs[i]? = some x → ys[i]? = some y → keep i = true → Evl.Ev te (((wipe σ vs).set j (some x)).set k (some y)) H1 (f i))
    (hd : ∀ H', Evl.Ex H1 H' → H' Dl = some (.lst (kept ys.length keep f)) → Q (.ref Dl) H') : LcG (Itz K a b) (gTup K 2 (gCons (gName j) (gCons (gName k) gNil))) tt te vs σ Dl H1 Q := by
  have gx : ∀ i, i < ys.length → xs[i]? = some (xs.getD i .non) := fun i hi => by rw [List.getD_eq_getElem?_getD, List.getElem?_eq_getElem (by omega)]; rfl
  have gy : ∀ i, i < ys.length → ys[i]? = some (ys.getD i .non) := fun i hi => by rw [List.getD_eq_getElem?_getD, List.getElem?_eq_getElem hi]; rfl
  refine lc_pure ys.length (fun i => ((wipe σ vs).set j (some (xs.getD i .non))).set k (some (ys.getD i .non))) keep f hD hn (fun H' e => ⟨xs, ys, Evl.ex_l e hx, Evl.ex_l e hy, ?_⟩)
    (fun i H' hi e => ⟨xs, ys, _, _, Evl.ex_l e hx, Evl.ex_l e hy, gx i hi, gy i hi⟩)
    (fun i H' x H'' QG hi e y q => ?_) (fun i hi => hw _ _) (fun i hi => ht i _ _ (gx i hi) (gy i hi)) (fun i hi => he i _ _ (gx i hi) (gy i hi)) hd
  · first | exact .inr (Nat.le_refl _) | exact .inr ⟨by omega, Nat.le_refl _⟩ | (simp; omega)
  obtain ⟨T, u, v, rfl, hT, rfl, hf, hf2⟩ := y
  have hu := hf xs (Evl.ex_l e hx)
  have hv := hf2 ys (Evl.ex_l e hy)
  have e1 : xs.getD i .non = u := by rw [List.getD_eq_getElem?_getD, hu]; rfl
  have e2 : ys.getD i .non = v := by rw [List.getD_eq_getElem?_getD, hv]; rfl
  refine g_two upd_same ?_
  have q2 := q (Evl.Ex.new hT)
  rw [e1, e2] at q2
  exact q2
end
/-! ### dict(pairs), sorted(d) -/
section
variable {K : PySem.W.Frag}
theorem putK_end {kvs : List (Key × V)} {k : Key} {v : V} (h : k ∉ kvs.map (·.1)) : putK kvs k v = kvs ++ [(k, v)] := by
  unfold putK
  rw [if_neg]
  intro e
  obtain ⟨p, hp, e⟩ := List.any_eq_true.mp e
  exact h (List.mem_map.mpr ⟨p, hp, of_decide_eq_true e⟩)
theorem mergeK_nodup : ∀ (more kvs : List (Key × V)), ((kvs ++ more).map (·.1)).Nodup → mergeK kvs more = kvs ++ more
  | [], kvs, _ => by rw [List.append_nil]; rfl
  | p :: more, kvs, h => by
    have hn : p.1 ∉ kvs.map (·.1) := fun hm => by
      rw [List.map_append, List.nodup_append] at h
      exact h.2.2 p.1 hm p.1 (by simp) rfl
    show mergeK (putK kvs p.1 p.2) more = _
    rw [putK_end hn, mergeK_nodup more _ (by rw [List.append_assoc]; exact h)]
    simp
theorem nodup_itK {qs : List (Int × Int)} (h : (qs.map (·.1)).Nodup) : ((qs.map itK).map (·.1)).Nodup := by
  have e : (qs.map itK).map (·.1) = (qs.map (·.1)).map Sum.inl := by rw [List.map_map, List.map_map]; rfl
  rw [e, List.nodup_iff_pairwise_ne, List.pairwise_map]
  exact h.imp fun h e => h (Sum.inl.inj e)
/-- what the list of pairs at a reads -/
def PairsAt (K : PySem.W.Frag) (H : Hp) (a : Addr) (ts : List Addr) (qs : List (Int × Int)) : Prop := SqL K H a (ts.map V.ref) ∧ ts.length = qs.length ∧ ∀ i t, ts[i]? = some t → PairAt H t (qs.getD i (0, 0))
theorem PairsAt.ex {H H' : Hp} {a : Addr} {ts : List Addr} {qs : List (Int × Int)} (h : PairsAt K H a ts qs) (e : Ex H H') : PairsAt K H' a ts qs := ⟨ex_l e h.1, h.2.1, fun i t hi => e _ _ (h.2.2 i t hi)⟩
def rDictI (K : PySem.W.Frag) : List V → Hp → VK → Prop := fun xs H Q => ∃ (a : Addr) (ts : List Addr) (qs : List (Int × Int)), xs = [.ref a] ∧ PairsAt K H a ts qs ∧ (qs.map (·.1)).Nodup ∧ ∀ p, H p = none → Q (.ref p) (upd H p (.dK (qs.map itK)))
theorem paired_of {H : Hp} : ∀ {ts : List Addr} {qs : List (Int × Int)}, ts.length = qs.length → (∀ (i : Nat) t, ts[i]? = some t → PairAt H t (qs.getD i (0, 0))) → Paired (fun p kv => SqT K H p [kV kv.1, kv.2]) ts (qs.map itK)
  | [], [], _, _ => .nil
  | [], _ :: _, h, _ => by simp at h
  | _ :: _, [], h, _ => by simp at h
  | t :: ts, q :: qs, h, hp => .cons (.inl (.inl (hp 0 t rfl))) (paired_of (by simpa using h) fun i u hi => by
    have := hp (i + 1) u (by simpa using hi)
    simpa using this)
theorem k_dictP {X : Cx} (hK : X.K = K) (hc : X.calm = true) : CallR X (.type "dict") (rDictI K) := by
  subst hK
  intro pins s σ H xs us Q I r h
  obtain ⟨a, ts, qs, rfl, ⟨hs, hl, hp⟩, nd, q⟩ := h
  refine call_dictP hc pins s σ H _ us Q I r ⟨a, ts, qs.map itK, rfl, hs, paired_of hl hp, fun p np => ?_⟩
  have e : mergeK [] (qs.map itK) = qs.map itK := by rw [mergeK_nodup _ _ (by simpa using nodup_itK nd)]; rfl
  rw [e]
  exact q p np
def rSortDI : List V → Hp → VK → Prop := fun xs H Q => ∃ (a : Addr) (kvs : List (Key × V)) (ks : List Int), xs = [.ref a] ∧ Rd H a (.dK kvs) ∧ kvs.map (·.1) = ks.map Sum.inl ∧ ks.length < 64 ∧
    ∀ (ys : List Int) (p : Addr), ys.Perm ks → ys.Pairwise (· ≤ ·) → H p = none → Q (.ref p) (upd H p (.lst (ys.map V.int)))
theorem cr_sortDI {X : Cx} (hc : X.calm = true) : CallR X (.builtin "sorted") rSortDI := call_sortedDI hc
theorem tyD {H : Hp} {p : Addr} {kvs : List (Key × V)} (h : H p = some (.dK kvs)) : tyV K "dict" (.ref p) H := .inr (.inr (.inl ⟨rfl, .inl ⟨kvs, h⟩⟩))
theorem valV_itK {qs : List (Int × Int)} (nd : (qs.map (·.1)).Nodup) {x y : Int} (h : (x, y) ∈ qs) : valV (qs.map itK) (Sum.inl x) = some (.int y) := by
  induction qs with
  | nil => exact (List.not_mem_nil h).elim
  | cons q qs ih =>
    rw [List.map_cons, List.nodup_cons] at nd
    rw [List.map_cons]
    rcases List.mem_cons.mp h with e | h
    · subst e
      exact valV_pos rfl
    · have ne : q.1 ≠ x := fun e => nd.1 (List.mem_map.mpr ⟨(x, y), h, e.symm⟩)
      rw [valV_neg (by show ¬ (Sum.inl q.1 : Key) = Sum.inl x; exact fun e => ne (Sum.inl.inj e))]
      exact ih nd.2 h
theorem valV_itK_none {qs : List (Int × Int)} {x : Int} (h : x ∉ qs.map (·.1)) : valV (qs.map itK) (Sum.inl x) = none := by
  induction qs with
  | nil => rfl
  | cons q qs ih =>
    rw [List.map_cons, List.mem_cons, not_or] at h
    rw [List.map_cons, valV_neg (by show ¬ (Sum.inl q.1 : Key) = Sum.inl x; exact fun e => h.1 (Sum.inl.inj e).symm)]
    exact ih h.2
end
/-! ### readings -/
section
variable {K : PySem.W.Frag} {σ : L2.St} {H : Hp} {Q : VK} {ta tv : TE} {a : TA} {D : Ends} {f : Str} {C : Addr} {sp : Sp} {dvs : List V} {E : XK}
theorem x_fld : tFld K ta f σ H Q = ta σ H (fun x H1 => ∃ a C dx fs v, x = .ref a ∧ H1 a = some (.ins C dx fs) ∧ Cls K C ∧ NoAttr K C f ∧ fs.lookup f = some v ∧ Q v H1) := rfl
theorem x_sfld : sFld K ta tv f D σ H = tv σ H (fun y H1 => ta σ H1 fun x H2 => ∃ a C dx fs, x = .ref a ∧ H2 a = some (.ins C dx fs) ∧ Cls K C ∧ NoAttr K C f ∧ fs.length < 1000 ∧ D.nx σ (upd H2 a (.ins C dx (putF f y fs)))) := rfl
theorem x_prop : tProp C sp dvs E ta σ H Q = ta σ H (fun x H1 => ∃ a dx fs, x = .ref a ∧ H1 a = some (.ins C dx fs) ∧ sp (.ref a :: dvs) H1 Q E) := rfl
theorem x_meth {m : Str} {t : TA} : tMeth C m sp dvs E ta t σ H Q = ta σ H (fun x H1 => ∃ a dx fs, x = .ref a ∧ H1 a = some (.ins C dx fs) ∧ fs.lookup m = none ∧ t σ H1 fun vs H2 => sp (x :: (vs ++ dvs)) H2 Q E) := rfl
theorem x_make : tMake C sp dvs E a σ H Q = a σ H (fun vs H1 => ∀ x dx, H1 x = none → H1 dx = none → dx ≠ x → sp (.ref x :: (vs ++ dvs)) (upd (upd H1 dx (.own x)) x (.ins C dx [])) (fun v H2 => v = .non ∧ Q (.ref x) H2) E) := rfl
theorem k_fld {X : Cx} {e : Expr} {pos : Pos} (hK : X.K = K) (he : PE X e ta) (hb : attributeBase e f X.env (eval e X.env) = eval e X.env) : PE X (.Attribute e f pos) (tFld K ta f) := by subst hK; exact pe_fld he hb
theorem k_sfld {X : Cx} {o value : Expr} {pos' pos : Pos} (hK : X.K = K) (ha : PE X o ta) (hv : PE X value tv) (hs : swapsWith value (some (.Attribute o f pos')) pos.line X.env = pure false) : PS X (.Assign [.Attribute o f pos'] value pos) (sFld K ta tv f) := by subst hK; exact ps_fld ha hv hs
def DcG (J : It) (g : TG) (tt : TT) (tk tv : TE) (vs : List Nat) (σ : L2.St) (D : Addr) (H1 : Hp) (Q : VK) : Prop := ∃ W : Nat → Nat → Hp → Prop, (∃ m, W 0 m (upd H1 D (.dK []))) ∧ ∀ i m H, W i m H →
  (J.stop i H ∧ Q (.ref D) H) ∨ (J.go i H ∧ ∃ Nx : Hp → Prop, (∀ H', Nx H' → ∃ m', m' < m ∧ W (i + 1) m' H') ∧ ∀ x H', J.yld i H x H' → g x (wipe σ vs) H' fun σ2 H2 => wipe σ2 vs = wipe σ vs ∧ tt σ2 H2 fun b H3 =>
    if b = true then tk σ2 H3 fun y H4 => tv σ2 H4 fun z H5 => ∃ kvs k, y = kV k ∧ H5 D = some (.dK kvs) ∧ kvs.length < sizeLine ∧ Nx (upd H5 D (.dK (putK kvs k z))) else Nx H3)
theorem x_dc {wi : TI} {g : TG} {tt : TT} {tk tv : TE} {vs : List Nat} : tDc wi g tt tk tv vs σ H Q = wi σ H (fun J H1 => ∀ D, H1 D = none → DcG J g tt tk tv vs σ D H1 Q) := rfl
theorem dcg_tup {a : Addr} {xs : List V} {g : TG} {tt : TT} {tk tv : TE} {vs : List Nat} {H1 : Hp} {D : Addr} (Pv : Nat → Hp → Prop) (h0 : Pv 0 (upd H1 D (.dK []))) (hl : ∀ i H, i ≤ xs.length → Pv i H → SqT K H a xs)
    (hs : ∀ i x H, xs[i]? = some x → Pv i H → g x (wipe σ vs) H fun σ2 H2 => wipe σ2 vs = wipe σ vs ∧ tt σ2 H2 fun b H3 =>
      if b = true then tk σ2 H3 fun y H4 => tv σ2 H4 fun z H5 => ∃ kvs k, y = kV k ∧ H5 D = some (.dK kvs) ∧ kvs.length < sizeLine ∧ Pv (i + 1) (upd H5 D (.dK (putK kvs k z))) else Pv (i + 1) H3) (hd : ∀ H, Pv xs.length H → Q (.ref D) H) : DcG (Itt K a) g tt tk tv vs σ D H1 Q := dc_tup (Qd := fun H => Q (.ref D) H) Pv h0 hl hs hd
end
theorem lg_zip {K : PySem.W.Frag} {a b : Addr} {xs ys : List V} {g : TG} {tb : TS} {D : Ends} {σ : L2.St} {H : Hp} (hl : xs.length = ys.length) (Pv : Nat → L2.St → Hp → Prop) (h0 : Pv 0 σ H) (hq : ∀ i σ H, Pv i σ H → SqL K H a xs ∧ SqL K H b ys)
    (hs : ∀ (i : Nat) (x y : V) (T : Addr) (σ : L2.St) (H : Hp), xs[i]? = some x → ys[i]? = some y → Pv i σ H → H T = none → g (.ref T) σ (upd H T (.tup [x, y])) fun σ2 H2 => tb { D with nx := Pv (i + 1), ct := Pv (i + 1), bk := D.nx } σ2 H2) (hd : ∀ σ H, Pv xs.length σ H → D.nx σ H) : LoopG (Itz K a b) g tb D σ H := RZ.for_zipL hl Pv h0 hq hs hd
/-! ### what comes behind each visit -/
def seconds (row : List Int) : List Int := row.drop 1 ++ row.drop (row.length - 1)
theorem cut_drop1 (row : List Int) : cutV (row.map V.int) (some 1) none = (row.drop 1).map V.int := by
    cases row with
    | nil => rfl
    | cons a r =>
      have e : HT.sIx ((a :: r).map V.int).length 0 (some 1) = 1 := by
        show (if (1 : Int) < 0 then ((1 : Int) + (((a :: r).map V.int).length : Int)).toNat else min (1 : Int).toNat ((a :: r).map V.int).length) = 1
        rw [if_neg (by omega), List.length_map, List.length_cons]
        show min 1 (r.length + 1) = 1
        omega
      unfold cutV
      rw [e, HT.sIx_none, List.map_drop, List.take_of_length_le (by rw [List.length_drop]; exact Nat.le_refl _)]
theorem cut_seconds (row : List Int) : cutV (row.map V.int) (some 1) none ++ cutV (row.map V.int) (some (-1)) none = (seconds row).map V.int := by
  have h1 : cutV (row.map V.int) (some 1) none = (row.drop 1).map V.int := by
    unfold cutV
    cases row with
    | nil => rfl
    | cons a r =>
      have e : HT.sIx ((a :: r).map V.int).length 0 (some 1) = 1 := by
        show (if (1 : Int) < 0 then ((1 : Int) + (((a :: r).map V.int).length : Int)).toNat else min (1 : Int).toNat ((a :: r).map V.int).length) = 1
        rw [if_neg (by omega), List.length_map, List.length_cons]
        show min 1 (r.length + 1) = 1
        omega
      rw [e, HT.sIx_none, List.map_drop, List.take_of_length_le (by rw [List.length_drop]; exact Nat.le_refl _)]
  have h2 : cutV (row.map V.int) (some (-1)) none = (row.drop (row.length - 1)).map V.int := by
    have e : HT.sIx (row.map V.int).length 0 (some (-1)) = row.length - 1 := by
      show (if (-1 : Int) < 0 then ((-1 : Int) + ((row.map V.int).length : Int)).toNat else min (-1 : Int).toNat (row.map V.int).length) = _
      rw [if_pos (by omega), List.length_map]
      omega
    unfold cutV
    rw [e, HT.sIx_none, List.map_drop, List.take_of_length_le]
    rw [List.length_drop, List.length_map]
    exact Nat.le_refl _
  rw [h1, h2, seconds, List.map_append]
theorem seconds_len (row : List Int) : (seconds row).length = row.length := by
  unfold seconds
  rw [List.length_append, List.length_drop, List.length_drop]
  omega
theorem seconds_at {row : List Int} {i : Nat} (hi : i < row.length) : (seconds row)[i]? = some ((row.drop (i + 1)).headD (row.getD i 0)) := by
  unfold seconds
  by_cases c : i + 1 < row.length
  · rw [List.getElem?_append_left (by rw [List.length_drop]; omega), List.getElem?_drop, List.headD_eq_head?_getD, List.head?_drop, Nat.add_comm 1 i, List.getElem?_eq_getElem c]
    rfl
  · rw [List.getElem?_append_right (by rw [List.length_drop]; omega), List.length_drop, List.getElem?_drop, List.drop_eq_nil_of_le (by omega), show row.length - 1 + (i - (row.length - 1)) = i by omega, List.getD_eq_getElem?_getD, List.getElem?_eq_getElem hi]
    rfl
theorem ev_din {ty td : TE} {σ : L2.St} {H : Hp} {d : Addr} {kvs : List (Key × V)} {k : Key} (hy : Ev ty σ H (kV k)) (hd : Ev td σ H (.ref d)) (h : H d = some (.dK kvs)) : Ev (tDIn ty td) σ H (.bl (valV kvs k).isSome) := fun H1 e Q q => hy H1 e _ fun H2 e2 => hd H2 (e.trans e2) _ fun H3 e3 => ⟨d, _, rfl, DGet.k (e3 _ _ (e2 _ _ (e _ _ h))), q H3 (e2.trans e3)⟩
theorem ev_dnotin {ty td : TE} {σ : L2.St} {H : Hp} {d : Addr} {kvs : List (Key × V)} {k : Key} (hy : Ev ty σ H (kV k)) (hd : Ev td σ H (.ref d)) (h : H d = some (.dK kvs)) : Ev (tDNotIn ty td) σ H (.bl (!(valV kvs k).isSome)) := fun H1 e Q q => hy H1 e _ fun H2 e2 => hd H2 (e.trans e2) _ fun H3 e3 => ⟨d, _, rfl, DGet.k (e3 _ _ (e2 _ _ (e _ _ h))), q H3 (e2.trans e3)⟩
theorem ev_dget {ty td : TE} {σ : L2.St} {H : Hp} {d : Addr} {kvs : List (Key × V)} {k : Key} {v : V} (hd : Ev td σ H (.ref d)) (hy : Ev ty σ H (kV k)) (h : H d = some (.dK kvs)) (hv : valV kvs k = some v) : Ev (tDGet td ty) σ H v := fun H1 e Q q => hd H1 e _ fun H2 e2 => hy H2 (e.trans e2) _ fun H3 e3 => ⟨d, v, rfl, .inl ⟨_, k, .inl (e3 _ _ (e2 _ _ (e _ _ h))), rfl, hv.symm⟩, q H3 (e2.trans e3)⟩
theorem putK_le (c : List (Key × V)) (k : Key) (x : V) : (putK c k x).length ≤ c.length + 1 := by
  unfold putK
  split
  · rw [List.length_map]; omega
  · rw [List.length_append, List.length_singleton]; omega
end BC

set_option Elab.async false
set_option linter.all false
set_option maxRecDepth 100000
set_option maxHeartbeats 4000000
/-! effects of visits: for each page its exit -/
namespace EF
open PySem PySem.Spec PyProof.Rows L2 BC TR
/-- the exit of a page: what comes behind its last visit -/
def nx : List Int → Int → Option Int
  | [], _ => none
  | a :: r, p => match nx r p with
    | some y => some y
    | none => if a = p then some (r.headD a) else none
theorem nx_some {a p y : Int} {r : List Int} (h : nx r p = some y) : nx (a :: r) p = some y := by
  show (match nx r p with | some y => some y | none => _) = _
  rw [h]
theorem nx_none {a p : Int} {r : List Int} (h : nx r p = none) : nx (a :: r) p = if a = p then some (r.headD a) else none := by
  show (match nx r p with | some y => some y | none => _) = _
  rw [h]
theorem nx_mem : ∀ {row : List Int} {p : Int}, p ∈ row → ∃ y, nx row p = some y
  | a :: r, p, h => by
    cases e : nx r p with
    | some y => exact ⟨y, nx_some e⟩
    | none =>
      rcases List.mem_cons.mp h with rfl | h
      · exact ⟨_, by rw [nx_none e, if_pos rfl]⟩
      · obtain ⟨y, hy⟩ := nx_mem h
        rw [e] at hy
        cases hy
theorem headD_mem {a : Int} : ∀ {r : List Int}, r.headD a ∈ a :: r
  | [] => List.mem_cons_self
  | b :: r => List.mem_cons_of_mem _ List.mem_cons_self
theorem mem_nx : ∀ {row : List Int} {p y : Int}, nx row p = some y → p ∈ row ∧ y ∈ row
  | a :: r, p, y, h => by
    cases e : nx r p with
    | some z =>
      rw [nx_some e] at h
      cases h
      obtain ⟨h1, h2⟩ := mem_nx e
      exact ⟨List.mem_cons_of_mem _ h1, List.mem_cons_of_mem _ h2⟩
    | none =>
      rw [nx_none e] at h
      split at h
      · next q =>
        cases h
        subst q
        exact ⟨List.mem_cons_self, headD_mem⟩
      · cases h
/-- the pages by their last visits -/
def dd : List Int → List Int
  | [] => []
  | a :: r => if a ∈ r then dd r else a :: dd r
theorem dd_mem : ∀ {row : List Int} {p : Int}, p ∈ dd row ↔ p ∈ row
  | [], p => Iff.rfl
  | a :: r, p => by
    unfold dd
    split
    · next h =>
      rw [dd_mem (row := r), List.mem_cons]
      exact ⟨fun m => .inr m, fun m => m.elim (fun e => by rw [e]; exact h) id⟩
    · rw [List.mem_cons, List.mem_cons, dd_mem (row := r)]
theorem dd_nodup : ∀ row : List Int, (dd row).Nodup
  | [] => List.nodup_nil
  | a :: r => by
    unfold dd
    split
    · exact dd_nodup r
    · next h => exact List.nodup_cons.mpr ⟨fun m => h (dd_mem.mp m), dd_nodup r⟩
def ix (row : List Int) (p : Int) : Nat := (dd row).idxOf p
theorem ix_lt {row : List Int} {p : Int} (h : p ∈ row) : ix row p < (dd row).length := List.idxOf_lt_length_of_mem (dd_mem.mpr h)
/-- the last page -/
def lst (row : List Int) : Int := row.getLast?.getD 0
theorem lst_cons {a b : Int} {r : List Int} : lst (a :: b :: r) = lst (b :: r) := by unfold lst; rw [List.getLast?_cons_cons]
theorem nx_ix : ∀ {row : List Int} {p y : Int}, nx row p = some y → (y = p ∧ p = lst row) ∨ (p ≠ y ∧ p ≠ lst row ∧ ix row p < ix row y)
  | a :: r, p, y, h => by
    cases e : nx r p with
    | some z =>
      rw [nx_some e] at h
      cases h
      obtain ⟨hp, hy⟩ := mem_nx e
      obtain ⟨b, r', rfl⟩ : ∃ b r', r = b :: r' := by
        cases r with
        | nil => cases hp
        | cons b r' => exact ⟨b, r', rfl⟩
      rw [lst_cons]
      rcases nx_ix e with ⟨h1, h2⟩ | ⟨h1, h2, h3⟩
      · exact .inl ⟨h1, h2⟩
      · refine .inr ⟨h1, h2, ?_⟩
        unfold ix dd
        split
        · exact h3
        · next na =>
          have pa : ¬ a = p := fun e => na (by rw [e]; exact hp)
          have ya : ¬ a = y := fun e => na (by rw [e]; exact hy)
          rw [List.idxOf_cons, List.idxOf_cons, beq_eq_false_iff_ne.mpr pa, beq_eq_false_iff_ne.mpr ya]
          show (dd (b :: r')).idxOf p + 1 < (dd (b :: r')).idxOf y + 1
          unfold ix at h3
          omega
    | none =>
      rw [nx_none e] at h
      split at h
      · next q =>
        subst q
        cases h
        have na : a ∉ r := fun m => by
          obtain ⟨z, hz⟩ := nx_mem m
          rw [e] at hz
          cases hz
        cases r with
        | nil => exact .inl ⟨rfl, rfl⟩
        | cons b r' =>
          have ab : a ≠ b := fun z => na (by rw [z]; exact List.mem_cons_self)
          refine .inr ⟨ab, ?_, ?_⟩
          · rw [lst_cons]
            intro z
            refine na ?_
            rw [z]
            unfold lst
            rw [List.getLast?_eq_some_getLast (by simp)]
            exact List.getLast_mem _
          · unfold ix dd
            rw [if_neg na, List.idxOf_cons_self, List.idxOf_cons, beq_eq_false_iff_ne.mpr (show ¬ a = (b :: r').headD a from ab)]
            exact Nat.succ_pos _
      · cases h
theorem lst_mem : ∀ {row : List Int}, row ≠ [] → lst row ∈ row := fun {row} h => by
  unfold lst
  rw [List.getLast?_eq_some_getLast h]
  exact List.getLast_mem h
theorem nx_lst {row : List Int} (h : row ≠ []) : nx row (lst row) = some (lst row) := by
  obtain ⟨y, hy⟩ := nx_mem (lst_mem h)
  rcases nx_ix hy with ⟨h1, _⟩ | ⟨_, h2, _⟩
  · rw [hy, h1]
  · exact absurd rfl h2
/-- do so many steps lead to the root? -/
def lead (f : Int → Int) (root : Int) : Nat → Int → Bool
  | 0, _ => false
  | n + 1, p => if p = root then true else lead f root n (f p)
def nxt (row : List Int) (p : Int) : Int := (nx row p).getD 0
theorem nxt_at {row : List Int} {p y : Int} (h : nx row p = some y) : nxt row p = y := by unfold nxt; rw [h]; rfl
theorem lead_ok {row : List Int} : ∀ (n : Nat) {p : Int}, p ∈ row → (dd row).length ≤ n + ix row p → lead (nxt row) (lst row) n p = true
  | 0, p, hp, h => by have := ix_lt hp; omega
  | n + 1, p, hp, h => by
    show (if p = lst row then true else _) = true
    split
    · rfl
    · next ne =>
      obtain ⟨y, hy⟩ := nx_mem hp
      rw [nxt_at hy]
      rcases nx_ix hy with ⟨_, h2⟩ | ⟨_, _, h3⟩
      · exact absurd h2 ne
      · exact lead_ok n (mem_nx hy).2 (by omega)
/-! ### as a list of pairs in order -/
def exs (row : List Int) : List (Int × Int) := ((List.range 40).map fun i : Nat => (i : Int)).filterMap fun p => (nx row p).map fun y => (p, y)
theorem mem_exs {row : List Int} (hp : Pg 40 row) {x y : Int} : (x, y) ∈ exs row ↔ nx row x = some y := by
  unfold exs
  rw [List.mem_filterMap]
  constructor
  · rintro ⟨p, _, h⟩
    cases e : nx row p with
    | none => rw [e] at h; cases h
    | some z => rw [e] at h; cases h; exact e
  · intro h
    have hx := hp x (mem_nx h).1
    refine ⟨x, List.mem_map.mpr ⟨x.toNat, List.mem_range.mpr (by omega), by omega⟩, ?_⟩
    rw [h]
    rfl
def ltF (a b : Int × Int) : Prop := a.1 < b.1
theorem exs_srt (row : List Int) : (exs row).Pairwise ltF := by
  unfold exs
  rw [List.pairwise_filterMap]
  have : ((List.range 40).map fun i : Nat => (i : Int)).Pairwise (· < ·) := by
    rw [List.pairwise_map]
    exact List.pairwise_lt_range.imp fun h => by omega
  refine this.imp fun {a b} h x hx y hy => ?_
  have ex : x.1 = a := by
    cases e : nx row a with
    | none => rw [e] at hx; cases hx
    | some z => rw [e] at hx; cases hx; rfl
  have ey : y.1 = b := by
    cases e : nx row b with
    | none => rw [e] at hy; cases hy
    | some z => rw [e] at hy; cases hy; rfl
  show x.1 < y.1
  rw [ex, ey]
  exact h
theorem srt_nodup {l : List (Int × Int)} (h : l.Pairwise ltF) : (l.map (·.1)).Nodup := by
  rw [List.nodup_iff_pairwise_ne, List.pairwise_map]
  exact h.imp fun {a b} h e => by
    have : a.1 < b.1 := h
    omega
/-- two lists in order with the same members -/
theorem srt_uniq : ∀ {l m : List (Int × Int)}, l.Pairwise ltF → m.Pairwise ltF → (∀ q, q ∈ l ↔ q ∈ m) → l = m
  | [], [], _, _, _ => rfl
  | [], b :: m, _, _, h => (List.not_mem_nil ((h b).mpr List.mem_cons_self)).elim
  | a :: l, [], _, _, h => (List.not_mem_nil ((h a).mp List.mem_cons_self)).elim
  | a :: l, b :: m, hl, hm, h => by
    rw [List.pairwise_cons] at hl hm
    have e : a = b := by
      have h1 := (h a).mp List.mem_cons_self
      have h2 := (h b).mpr List.mem_cons_self
      rcases List.mem_cons.mp h1 with h1 | h1
      · exact h1
      · rcases List.mem_cons.mp h2 with h2 | h2
        · exact h2.symm
        · have a1 : b.1 < a.1 := hm.1 a h1
          have a2 : a.1 < b.1 := hl.1 b h2
          omega
    subst e
    have ne : ∀ {k : List (Int × Int)}, (∀ q ∈ k, ltF a q) → a ∉ k := fun hk m => by
      have : a.1 < a.1 := hk a m
      omega
    rw [srt_uniq hl.2 hm.2 fun q => ?_]
    have hq := h q
    rw [List.mem_cons, List.mem_cons] at hq
    by_cases c : q = a
    · subst c
      exact ⟨fun m => absurd m (ne hl.1), fun m => absurd m (ne hm.1)⟩
    · exact ⟨fun m => (hq.mp (.inr m)).resolve_left c, fun m => (hq.mpr (.inr m)).resolve_left c⟩
/-- numbers in order with the same members -/
theorem ints_uniq : ∀ {l m : List Int}, l.Pairwise (· < ·) → m.Pairwise (· < ·) → (∀ q, q ∈ l ↔ q ∈ m) → l = m
  | [], [], _, _, _ => rfl
  | [], b :: m, _, _, h => (List.not_mem_nil ((h b).mpr List.mem_cons_self)).elim
  | a :: l, [], _, _, h => (List.not_mem_nil ((h a).mp List.mem_cons_self)).elim
  | a :: l, b :: m, hl, hm, h => by
    rw [List.pairwise_cons] at hl hm
    have e : a = b := by
      have h1 := (h a).mp List.mem_cons_self
      have h2 := (h b).mpr List.mem_cons_self
      rcases List.mem_cons.mp h1 with h1 | h1
      · exact h1
      · rcases List.mem_cons.mp h2 with h2 | h2
        · exact h2.symm
        · have a1 := hm.1 a h1
          have a2 := hl.1 b h2
          omega
    subst e
    have ne : ∀ {k : List Int}, (∀ q ∈ k, a < q) → a ∉ k := fun hk m => by
      have := hk a m
      omega
    rw [ints_uniq hl.2 hm.2 fun q => ?_]
    have hq := h q
    rw [List.mem_cons, List.mem_cons] at hq
    by_cases c : q = a
    · subst c
      exact ⟨fun m => absurd m (ne hl.1), fun m => absurd m (ne hm.1)⟩
    · exact ⟨fun m => (hq.mp (.inr m)).resolve_left c, fun m => (hq.mpr (.inr m)).resolve_left c⟩
/-! ### a dict of numbers by numbers -/
def getI (qs : List (Int × Int)) (x : Int) : Option Int := (qs.find? fun q => decide (q.1 = x)).map (·.2)
def putI (qs : List (Int × Int)) (x y : Int) : List (Int × Int) := if (qs.any fun q => decide (q.1 = x)) = true then qs.map (fun q => if q.1 = x then (q.1, y) else q) else qs ++ [(x, y)]
theorem getI_val (x : Int) : ∀ qs : List (Int × Int), valV (qs.map itK) (Sum.inl x) = (getI qs x).map V.int
  | [] => rfl
  | q :: qs => by
    have ih := getI_val x qs
    rw [List.map_cons]
    by_cases e : q.1 = x
    · rw [valV_pos (by show (Sum.inl q.1 : Key) = Sum.inl x; rw [e])]
      simp [getI, e, itK]
    · rw [valV_neg (by show ¬ (Sum.inl q.1 : Key) = Sum.inl x; exact fun z => e (Sum.inl.inj z)), ih]
      simp [getI, e]
theorem any_itK (x : Int) (qs : List (Int × Int)) : ((qs.map itK).any fun kv => decide (kv.1 = Sum.inl x)) = qs.any fun q => decide (q.1 = x) := by
  rw [List.any_map]
  congr 1
  funext q
  exact decide_eq_decide.mpr ⟨fun e => Sum.inl.inj e, fun e => congrArg Sum.inl e⟩
theorem putI_put (qs : List (Int × Int)) (x y : Int) : putK (qs.map itK) (Sum.inl x) (.int y) = (putI qs x y).map itK := by
  unfold putK putI
  rw [any_itK]
  by_cases c : (qs.any fun q => decide (q.1 = x)) = true
  · rw [if_pos c, if_pos c, List.map_map, List.map_map]
    refine List.map_congr_left fun q _ => ?_
    show (if (Sum.inl q.1 : Key) = Sum.inl x then ((Sum.inl q.1 : Key), V.int y) else (Sum.inl q.1, V.int q.2)) = itK (if q.1 = x then (q.1, y) else q)
    by_cases e : q.1 = x
    · rw [if_pos (by rw [e]), if_pos e]; rfl
    · rw [if_neg (fun z => e (Sum.inl.inj z)), if_neg e]; rfl
  · rw [if_neg c, if_neg c, List.map_append]
    rfl
theorem getI_any (x : Int) : ∀ qs : List (Int × Int), (qs.any fun q => decide (q.1 = x)) = (getI qs x).isSome
  | [] => rfl
  | q :: qs => by
    rw [List.any_cons, getI_any x qs]
    by_cases e : q.1 = x
    · simp [getI, e]
    · simp [getI, e]
theorem getI_map (x y z : Int) : ∀ qs : List (Int × Int), getI (qs.map fun q => if q.1 = x then (q.1, y) else q) z = if z = x then (getI qs z).map fun _ => y else getI qs z
  | [] => by simp [getI]
  | q :: qs => by
    have ih := getI_map x y z qs
    by_cases e : q.1 = z
    · by_cases c : z = x
      · subst c; simp [getI, e]
      · rw [if_neg c]
        have : ¬ q.1 = x := fun w => c (by rw [← e, w])
        simp [getI, e, this, c]
    · have hk : (if q.1 = x then (q.1, y) else q).1 = q.1 := by split <;> rfl
      have g1 : getI ((q :: qs).map fun q => if q.1 = x then (q.1, y) else q) z = getI (qs.map fun q => if q.1 = x then (q.1, y) else q) z := by
        unfold getI
        rw [List.map_cons, List.find?_cons, hk, decide_eq_false e]
      have g2 : getI (q :: qs) z = getI qs z := by
        unfold getI
        rw [List.find?_cons, decide_eq_false e]
      rw [g1, g2, ih]
theorem getI_append (x y z : Int) (qs : List (Int × Int)) (h : getI qs x = none) : getI (qs ++ [(x, y)]) z = if z = x then some y else getI qs z := by
  unfold getI at h ⊢
  rw [List.find?_append]
  cases c : qs.find? fun q => decide (q.1 = z) with
  | some q =>
    by_cases e : z = x
    · subst e; rw [c] at h; cases h
    · rw [if_neg e]; rfl
  | none =>
    by_cases e : z = x
    · subst e; simp
    · have : ¬ x = z := fun w => e w.symm
      simp [this, e]
theorem getI_put (qs : List (Int × Int)) (x y z : Int) : getI (putI qs x y) z = if z = x then some y else getI qs z := by
  unfold putI
  by_cases c : (qs.any fun q => decide (q.1 = x)) = true
  · rw [if_pos c, getI_map]
    rw [getI_any] at c
    by_cases e : z = x
    · subst e
      rw [if_pos rfl, if_pos rfl]
      cases h : getI qs z with
      | none => rw [h] at c; cases c
      | some v => rfl
    · rw [if_neg e, if_neg e]
  · rw [if_neg c]
    rw [getI_any] at c
    exact getI_append x y z qs (by cases h : getI qs x with | none => rfl | some v => rw [h] at c; exact absurd rfl c)
theorem putI_nodup {qs : List (Int × Int)} {x y : Int} (h : (qs.map (·.1)).Nodup) : ((putI qs x y).map (·.1)).Nodup := by
  unfold putI
  split
  · rw [List.map_map]
    have e : ((fun p : Int × Int => p.1) ∘ fun q : Int × Int => if q.1 = x then (q.1, y) else q) = fun p => p.1 := funext fun p => by
      show (if p.1 = x then (p.1, y) else p).1 = p.1
      split <;> rfl
    rw [e]
    exact h
  · next c =>
    rw [List.map_append, List.nodup_append]
    refine ⟨h, by simp, fun a ha b hb e => ?_⟩
    obtain ⟨p, hp, rfl⟩ := List.mem_map.mp ha
    have hb' : b = x := by simpa using hb
    refine c (List.any_eq_true.mpr ⟨p, hp, decide_eq_true ?_⟩)
    rw [e, hb']
theorem putI_len (qs : List (Int × Int)) (x y : Int) : (putI qs x y).length ≤ qs.length + 1 := by
  unfold putI
  split
  · rw [List.length_map]; omega
  · rw [List.length_append, List.length_singleton]; omega
theorem getI_mem {qs : List (Int × Int)} (nd : (qs.map (·.1)).Nodup) {x y : Int} : (x, y) ∈ qs ↔ getI qs x = some y := by
  induction qs with
  | nil => exact ⟨fun h => (List.not_mem_nil h).elim, fun h => by cases h⟩
  | cons q qs ih =>
    rw [List.map_cons, List.nodup_cons] at nd
    by_cases e : q.1 = x
    · have g : getI (q :: qs) x = some q.2 := by simp [getI, e]
      rw [g]
      constructor
      · intro h
        rcases List.mem_cons.mp h with h | h
        · rw [← h]
        · exact absurd (List.mem_map.mpr ⟨(x, y), h, e.symm⟩) nd.1
      · intro h
        have : q = (x, y) := by
          have := Option.some.inj h
          rw [← e, ← this]
        rw [this]
        exact List.mem_cons_self
    · have g : getI (q :: qs) x = getI qs x := by simp [getI, e]
      rw [g, ← ih nd.2, List.mem_cons]
      exact ⟨fun h => h.resolve_left fun z => e (by rw [← z]), .inr⟩
theorem srt_of {rs qs : List (Int × Int)} (p : rs.Perm qs) (s : rs.Pairwise leP) (nd : (qs.map (·.1)).Nodup) : rs.Pairwise ltF := by
  have nr : (rs.map (·.1)).Nodup := (p.map (·.1)).nodup_iff.mpr nd
  rw [List.nodup_iff_pairwise_ne, List.pairwise_map] at nr
  refine (s.and nr).imp fun {a b} h => ?_
  have h1 : a.1 < b.1 ∨ (a.1 = b.1 ∧ a.2 ≤ b.2) := h.1
  have h2 : a.1 ≠ b.1 := h.2
  show a.1 < b.1
  omega
/-- what a dict of all exits gives when it is sorted -/
theorem srt_exs {row : List Int} (hp : Pg 40 row) {rs qs : List (Int × Int)} (p : rs.Perm qs) (s : rs.Pairwise leP) (nd : (qs.map (·.1)).Nodup) (g : ∀ x, getI qs x = nx row x) : rs = exs row :=
  srt_uniq (srt_of p s nd) (exs_srt row) fun q => by
    obtain ⟨x, y⟩ := q
    rw [mem_exs hp, ← g x, ← getI_mem nd, p.mem_iff]
/-! ### the dict as it is filled from the front -/
def foldP (qs : List (Int × Int)) : List Int → List (Int × Int)
  | [] => qs
  | a :: r => foldP (putI qs a (r.headD a)) r
theorem foldP_get (x : Int) : ∀ (row : List Int) (qs : List (Int × Int)), getI (foldP qs row) x = match nx row x with | some y => some y | none => getI qs x
  | [], qs => rfl
  | a :: r, qs => by
    show getI (foldP (putI qs a (r.headD a)) r) x = _
    rw [foldP_get x r]
    cases e : nx r x with
    | some y => rw [nx_some e]
    | none =>
      rw [nx_none e]
      show getI (putI qs a (r.headD a)) x = _
      rw [getI_put]
      by_cases c : x = a
      · rw [if_pos c, if_pos c.symm]
      · rw [if_neg c, if_neg (fun z => c z.symm)]
theorem foldP_nodup : ∀ (row : List Int) (qs : List (Int × Int)), (qs.map (·.1)).Nodup → ((foldP qs row).map (·.1)).Nodup
  | [], _, h => h
  | a :: r, qs, h => foldP_nodup r _ (putI_nodup h)
theorem foldP_all (row : List Int) (x : Int) : getI (foldP [] row) x = nx row x := by
  rw [foldP_get]
  cases nx row x <;> rfl
/-! ### first page, root, leaves -/
def rootsOf (qs : List (Int × Int)) : List Int := (qs.filter fun q => decide (q.1 = q.2)).map (·.1)
def usedOf (qs : List (Int × Int)) : List Int := (qs.filter fun q => !decide (q.1 = q.2)).map (·.2)
def leavesOf (qs : List (Int × Int)) : List Int := (qs.filter fun q => !decide (q.1 ∈ usedOf qs)).map (·.1)
theorem filter_one {α : Type} {P : α → Bool} {a : α} : ∀ {l : List α}, l.Nodup → a ∈ l → (∀ b ∈ l, P b = true ↔ b = a) → l.filter P = [a]
  | [], _, h, _ => (List.not_mem_nil h).elim
  | b :: l, nd, h, hP => by
    rw [List.nodup_cons] at nd
    rcases List.mem_cons.mp h with e | h
    · subst e
      rw [List.filter_cons_of_pos ((hP a List.mem_cons_self).mpr rfl)]
      congr 1
      rw [List.filter_eq_nil_iff]
      intro c hc pc
      have := (hP c (List.mem_cons_of_mem _ hc)).mp pc
      exact nd.1 (this ▸ hc)
    · have nb : ¬ P b = true := fun pb => by
        have := (hP b List.mem_cons_self).mp pb
        exact nd.1 (this ▸ h)
      rw [List.filter_cons_of_neg nb]
      exact filter_one nd.2 h fun c hc => hP c (List.mem_cons_of_mem _ hc)
theorem srt_nd {l : List (Int × Int)} (h : l.Pairwise ltF) : l.Nodup := by
  rw [List.nodup_iff_pairwise_ne]
  exact h.imp fun {a b} h e => by
    have : a.1 < b.1 := h
    rw [e] at this
    omega
theorem roots_exs {row : List Int} (hp : Pg 40 row) (h : row ≠ []) : rootsOf (exs row) = [lst row] := by
  unfold rootsOf
  rw [filter_one (a := (lst row, lst row)) (srt_nd (exs_srt row)) ((mem_exs hp).mpr (nx_lst h)) fun b hb => ?_]
  · rfl
  · obtain ⟨x, y⟩ := b
    have hx := (mem_exs hp).mp hb
    rw [decide_eq_true_iff]
    constructor
    · intro e
      have e' : x = y := e
      rcases nx_ix hx with ⟨_, h2⟩ | ⟨h1, _⟩
      · rw [← e', h2]
      · exact absurd e' h1
    · intro e
      cases e
      rfl
theorem exs_len {row : List Int} (hp : Pg 40 row) : (exs row).length = (dd row).length := by
  have h1 : ((exs row).map (·.1)).Nodup := srt_nodup (exs_srt row)
  have h2 : ((exs row).map (·.1)).Perm (dd row) := by
    rw [List.perm_ext_iff_of_nodup h1 (dd_nodup row)]
    intro x
    rw [dd_mem]
    constructor
    · intro h
      obtain ⟨⟨a, b⟩, hq, rfl⟩ := List.mem_map.mp h
      exact (mem_nx ((mem_exs hp).mp hq)).1
    · intro h
      obtain ⟨y, hy⟩ := nx_mem h
      exact List.mem_map.mpr ⟨(x, y), (mem_exs hp).mpr hy, rfl⟩
  have := h2.length_eq
  rw [List.length_map] at this
  exact this
theorem exs_len40 (row : List Int) : (exs row).length ≤ 40 := by
  unfold exs
  refine Nat.le_trans (List.length_filterMap_le _ _) ?_
  rw [List.length_map, List.length_range]
  exact Nat.le_refl _
end EF

set_option Elab.async false
set_option linter.all false
set_option maxRecDepth 100000
set_option maxHeartbeats 4000000
/-! repr of anything that is shown: numbers, texts, None, lists, tuples, empty dicts, at any depth -/
namespace BC
open PySem PySem.Spec PyProof.Rows L2 Evl
mutual
inductive De (K : PySem.W.Frag) (H : Hp) : V → PyData → Prop
  | non : De K H .non .none
  | bl (b : Bool) : De K H (.bl b) (.bool b)
  | int (i : Int) : De K H (.int i) (.int i)
  | str (x : Str) : De K H (.str x) (.str x)
  | lst {a : Addr} {xs : List V} {ds : List PyData} : SqL K H a xs → DeAll K H xs ds → De K H (.ref a) (.list ds)
  | tup {a : Addr} {xs : List V} {ds : List PyData} : SqT K H a xs → DeAll K H xs ds → De K H (.ref a) (.tuple ds)
  | dic {a : Addr} : H a = some (.dK []) → De K H (.ref a) (.dict [])
inductive DeAll (K : PySem.W.Frag) (H : Hp) : List V → List PyData → Prop
  | nil : DeAll K H [] []
  | cons {v : V} {vs : List V} {d : PyData} {ds : List PyData} : De K H v d → DeAll K H vs ds → DeAll K H (v :: vs) (d :: ds)
end
section
variable {X : Cx} {pins : List (Addr × Obj)} {σ : L2.St} {H : Hp} {s : Shared}
/-- what is known of a value that is shown -/
def Shows (X : Cx) (s : Shared) (u : Value) (d : PyData) : Prop :=
  (∃ as, Reads s.heap u d as) ∧ ∃ bs, ReadAtMost s.heap d.depth bs ∧ ReprK X.prog X.w bs s.heap d.depth u d.shown
def ShowsAll (X : Cx) (s : Shared) (us : List Value) (ds : List PyData) : Prop :=
  (∃ as, ReadsAll s.heap us ds as) ∧ ∃ bs, ReadAtMost s.heap (PyData.depthAll ds) bs ∧ ReprAllK X.prog X.w bs s.heap (PyData.depthAll ds) us (PyData.shownAll ds)
theorem empty_dict (I : Inv X pins σ H s) {a : Addr} (e : H a = some (.dK [])) : (a == sysModules) = false ∧ ∃ o n, s.heap.get? a = some o ∧ o.cls = .type "dict" ∧ o.data = .dict #[] n := by
  obtain ⟨_, hs, vs, kv, o, es, ep, ho, hx, hd, _, hm, _⟩ := dk_of I.hok e
  cases kv
  have he : es = #[] := by
    obtain ⟨l⟩ := es
    cases l with
    | nil => rfl
    | cons y l => cases hm
  subst he
  exact ⟨hs, o, ep, ho, hx.1, hd⟩
mutual
theorem De.shows (I : Inv X pins σ H s) : ∀ (d : PyData) (v : V) (u : Value), De X.K H v d → RelV v u → d.showable = true → d.shown.length ≤ sizeLine → Shows X s u d
  | .none, _, _, h, r, _, _ => by
    cases h; cases r
    exact ⟨⟨_, .none⟩, [], (fun _ m => nomatch m), by rw [show PyData.shown .none = ("None" : Str) by simp only [PyData.shown]]; exact .of_is ReprIs.none _ _ _⟩
  | .bool b, _, _, h, r, _, _ => by
    cases h; cases r
    exact ⟨⟨_, .bool b⟩, [], (fun _ m => nomatch m), by simp only [PyData.shown]; exact .of_is (ReprIs.bool b) _ _ _⟩
  | .int i, _, _, h, r, hs, _ => by
    cases h
    obtain ⟨t, rfl⟩ := r
    have h1 : i.natAbs.log2 < 1920 := by simpa [PyData.showable] using hs
    exact ⟨⟨_, .int i t⟩, [], (fun _ m => nomatch m), by simp only [PyData.shown]; exact .of_is (ReprIs.int t h1) _ _ _⟩
  | .str x, _, _, h, r, _, hz => by
    cases h
    obtain ⟨t, rfl⟩ := r
    simp only [PyData.shown] at hz
    exact ⟨⟨_, .str x t⟩, [], (fun _ m => nomatch m), by simp only [PyData.shown]; exact .of_is (ReprIs.str x t hz) _ _ _⟩
  | .list ds, _, _, h, r, hs, hz => by
    cases h with
    | lst hl ha =>
      cases r
      obtain ⟨its, rv, ⟨o, n, ho, hc, _, hd⟩, _⟩ := I.list hl
      simp only [PyData.shown] at hz
      simp only [PyData.showable] at hs
      obtain ⟨⟨as, hr⟩, bs, hb, hk⟩ := DeAll.shows I ds _ its ha rv hs fun t ht => Nat.le_trans (listText_mem_le ht) hz
      have r1 : Reads s.heap _ (.list ds) _ := .list ho hc hd hr
      have na := not_mem_of_deeper r1 (show PyData.depthAll ds < PyData.depth (.list ds) by simp only [PyData.depth]; omega) hb
      refine ⟨⟨_, r1⟩, _ :: bs, ReadAtMost.cons r1 (by simp only [PyData.depth]; omega) hb, ?_⟩
      simp only [PyData.depth, PyData.shown]
      cases its with
      | nil =>
        cases hr
        simp only [PyData.shownAll, listText_nil]
        exact ReprK.listEmpty ho hc hd
      | cons y l => exact ReprK.list ho hc hd na (by simpa using hk.length_eq) (fun i y e => hk.item i y (by simpa using e))
  | .tuple ds, _, _, h, r, hs, hz => by
    cases h with
    | tup hl ha =>
      cases r
      obtain ⟨its, rv, ⟨o, ho, hc, n, hd⟩, _⟩ := I.tuple hl
      simp only [PyData.shown] at hz
      simp only [PyData.showable] at hs
      obtain ⟨⟨as, hr⟩, bs, hb, hk⟩ := DeAll.shows I ds _ its ha rv hs fun t ht => Nat.le_trans (tupleText_mem_le ht) hz
      have r1 : Reads s.heap _ (.tuple ds) _ := .tuple ho hc hd hr
      have na := not_mem_of_deeper r1 (show PyData.depthAll ds < PyData.depth (.tuple ds) by simp only [PyData.depth]; omega) hb
      refine ⟨⟨_, r1⟩, _ :: bs, ReadAtMost.cons r1 (by simp only [PyData.depth]; omega) hb, ?_⟩
      simp only [PyData.depth, PyData.shown]
      exact ReprK.tuple ho hc hd na hk
  | .dict kvs, _, _, h, r, hs, hz => by
    cases h with
    | dic e =>
      cases r
      obtain ⟨hsys, o, n, ho, hc, hd⟩ := empty_dict I e
      have r1 : Reads s.heap _ (.dict []) _ := .dict (kvs := []) ho hc hd .nil .nil
      refine ⟨⟨_, r1⟩, [_], ReadAtMost.cons r1 (Nat.zero_le _) (fun _ m => nomatch m), ?_⟩
      simp only [PyData.depth, PyData.shown, PyData.shownKv, PyData.depthKv]
      exact ReprK.dict ho hc hd hsys List.not_mem_nil .nil
theorem DeAll.shows (I : Inv X pins σ H s) : ∀ (ds : List PyData) (vs : List V) (us : List Value), DeAll X.K H vs ds → Vals vs us → PyData.showableAll ds = true → (∀ t ∈ PyData.shownAll ds, t.length ≤ sizeLine) → ShowsAll X s us ds
  | [], _, _, h, r, _, _ => by
    cases h; cases r
    exact ⟨⟨_, .nil⟩, [], (fun _ m => nomatch m), by simp only [PyData.shownAll]; exact .nil⟩
  | d :: ds, _, _, h, r, hs, hz => by
    cases h with
    | cons h1 h2 =>
      cases r with
      | cons r1 r2 =>
        have hs2 : d.showable = true ∧ PyData.showableAll ds = true := by simpa [PyData.showableAll] using hs
        obtain ⟨⟨as, q1⟩, b1, c1, k1⟩ := De.shows I d _ _ h1 r1 hs2.1 (hz _ (by simp only [PyData.shownAll]; exact List.mem_cons_self))
        obtain ⟨⟨as2, q2⟩, b2, c2, k2⟩ := DeAll.shows I ds _ _ h2 r2 hs2.2 (fun t ht => hz t (by simp only [PyData.shownAll]; exact List.mem_cons_of_mem _ ht))
        refine ⟨⟨_, .cons q1 q2⟩, b1 ++ b2, ReadAtMost.append (c1.mono ?_) (c2.mono ?_), ?_⟩
        · simp only [PyData.depthAll]; omega
        · simp only [PyData.depthAll]; omega
        · simp only [PyData.depthAll, PyData.shownAll]
          exact .cons ((k1.more fun b m => List.mem_append_left _ m).level_le (by omega)) (k2.more_le (fun b m => List.mem_append_right _ m) (by omega))
end
def rReprA (K : PySem.W.Frag) : List V → Hp → VK → Prop := fun xs H Q => ∃ v d, xs = [v] ∧ De K H v d ∧ d.showable = true ∧ d.depth ≤ 60 ∧ d.shown.length ≤ sizeLine ∧ Q (.str d.shown) H
theorem k_reprA {K : PySem.W.Frag} (hK : X.K = K) (g : G0 X.A) (hu : X.A.units + 64 < cLine) : CallR X (.builtin "repr") (rReprA K) := by
  subst hK
  intro pins s σ H xs us Q I r h
  obtain ⟨v, d, rfl, hd, h1, h2, h4, q⟩ := h
  obtain ⟨u, rfl, ru⟩ := vals1 r
  have fin : ∀ (h' : Heap) (t tk : Nat), (∀ b o, s.heap.get? b = some o → h'.get? b = some o) → EP X pins σ Q (.str d.shown t) { s with heap := h', toks := tk } := fun h' t tk hk => ⟨.str _, H, I.kept hk, ⟨_, rfl⟩, q⟩
  cases hd with
  | non =>
    cases ru
    simp only [PyData.shown] at fin
    exact P.repr_of_none (fin s.heap _ _ fun _ _ e => e)
  | bl b =>
    cases ru
    simp only [PyData.shown] at fin
    exact P.repr_of_bool (fin s.heap _ _ fun _ _ e => e)
  | int i =>
    obtain ⟨t, rfl⟩ := ru
    simp only [PyData.shown] at fin
    exact P.repr_of_int (by simpa [PyData.showable] using h1) (fin s.heap _ _ fun _ _ e => e)
  | str x =>
    obtain ⟨t, rfl⟩ := ru
    simp only [PyData.shown] at fin h4
    exact P.repr_of_str (fin s.heap _ _ fun _ _ e => e) h4
  | @lst a ys ds hl ha =>
    cases ru
    obtain ⟨its, rv, ⟨o, n, ho, hc, _, hd⟩, _⟩ := I.list hl
    simp only [PyData.shown] at h4 fin
    simp only [PyData.showable] at h1
    simp only [PyData.depth] at h2
    obtain ⟨⟨as, hr⟩, bs, hb, hk⟩ := DeAll.shows I ds _ its ha rv h1 fun t ht => Nat.le_trans (listText_mem_le ht) h4
    have r1 : Reads s.heap _ (.list ds) _ := .list ho hc hd hr
    have na := not_mem_of_deeper r1 (show PyData.depthAll ds < PyData.depth (.list ds) by simp only [PyData.depth]; omega) hb
    refine call_repr_slot (by omega) ⟨o, ho, hc⟩ PySem.F.slot_list_repr.toG ?_
    cases its with
    | nil =>
      cases hr
      simp only [PyData.shownAll, listText_nil] at fin
      exact call_list_repr_empty ⟨o, ho, hc⟩ ho hd ⟨_, _, rfl, fin s.heap _ _ fun _ _ e => e⟩
    | cons y l => exact call_list_reprK ho hc hd na (by simpa using hk.length_eq) (fun i y e => hk.item i y (by simpa using e)) g (fun b _ => Clear.nil b) (by show X.A.units + 1 + _ < cLine; omega) (fun _ _ e => e) (fun h' u tk k => ⟨_, _, rfl, fin h' u tk k⟩) h4
  | @tup a ys ds hl ha =>
    cases ru
    obtain ⟨its, rv, ⟨o, ho, hc, n, hd⟩, _⟩ := I.tuple hl
    simp only [PyData.shown] at h4 fin
    simp only [PyData.showable] at h1
    simp only [PyData.depth] at h2
    obtain ⟨⟨as, hr⟩, bs, hb, hk⟩ := DeAll.shows I ds _ its ha rv h1 fun t ht => Nat.le_trans (tupleText_mem_le ht) h4
    have r1 : Reads s.heap _ (.tuple ds) _ := .tuple ho hc hd hr
    have na := not_mem_of_deeper r1 (show PyData.depthAll ds < PyData.depth (.tuple ds) by simp only [PyData.depth]; omega) hb
    refine call_repr_slot (by omega) ⟨o, ho, hc⟩ PySem.F.slot_tuple_repr ?_
    exact call_tuple_reprK ho hc hd na hk g (fun b _ => Clear.nil b) (by show X.A.units + 1 + _ < cLine; omega) (fun _ _ e => e) (fun h' u tk k => ⟨_, _, rfl, fin h' u tk k⟩) h4
  | dic e =>
    cases ru
    obtain ⟨hsys, o, n, ho, hc, hd⟩ := empty_dict I e
    simp only [PyData.shown, PyData.shownKv] at h4 fin
    refine call_repr_slot (by omega) ⟨o, ho, hc⟩ PySem.F.slot_dict_repr ?_
    exact call_dict_reprK (as := []) (d := 0) ho hc hd hsys List.not_mem_nil .nil g (fun b _ => Clear.nil b) (by show X.A.units + 1 + _ < cLine; omega) (fun _ _ e => e) (fun h' u tk k => ⟨_, _, rfl, fin h' u tk k⟩) h4
end
/-! ### what is shown stays so, its type, its size -/
section
variable {K : PySem.W.Frag} {H H' : Hp} {Q : VK}
mutual
theorem De.ex (e : Ex H H') : ∀ (d : PyData) (v : V), De K H v d → De K H' v d
  | .none, _, h => by cases h; exact .non
  | .bool _, _, h => by cases h; exact .bl _
  | .int _, _, h => by cases h; exact .int _
  | .str _, _, h => by cases h; exact .str _
  | .dict _, _, h => by
    cases h with
    | dic h1 => exact .dic (e _ _ h1)
  | .list ds, _, h => by
    cases h with
    | lst h1 h2 => exact .lst (ex_l e h1) (DeAll.ex e ds _ h2)
  | .tuple ds, _, h => by
    cases h with
    | tup h1 h2 => exact .tup (ex_t e h1) (DeAll.ex e ds _ h2)
theorem DeAll.ex (e : Ex H H') : ∀ (ds : List PyData) (vs : List V), DeAll K H vs ds → DeAll K H' vs ds
  | [], _, h => by cases h; exact .nil
  | d :: ds, _, h => by
    cases h with
    | cons h1 h2 => exact .cons (De.ex e d _ h1) (DeAll.ex e ds _ h2)
end
theorem De.ty {v : V} {d : PyData} (h : De K H v d) : TyX K H v (.type (tyn d)) := by
  cases h with
  | non => exact .base .non
  | bl b => exact .base (.bl b)
  | int i => exact .base (.int i)
  | str x => exact .base (.str x)
  | lst h _ => exact tyx_l h
  | tup h _ => exact tyx_t h
  | dic h => exact .base (.dK h)
theorem de_ints (ns : List Int) : DeAll K H (ns.map V.int) (ns.map PyData.int) := by
  induction ns with
  | nil => exact .nil
  | cons n ns ih => exact .cons (.int n) ih
theorem DeAll.len {vs : List V} {ds : List PyData} (h : DeAll K H vs ds) : vs.length = ds.length := by
  induction ds generalizing vs with
  | nil => cases h; rfl
  | cons d ds ih =>
    cases h with
    | cons _ h2 => simp [ih h2]
theorem DeAll.at {vs : List V} {ds : List PyData} (h : DeAll K H vs ds) {i : Nat} {v : V} (hv : vs[i]? = some v) : ∃ d, ds[i]? = some d ∧ De K H v d := by
  induction ds generalizing vs i with
  | nil => cases h; simp at hv
  | cons d ds ih =>
    cases h with
    | cons h1 h2 =>
      cases i with
      | zero => cases hv; exact ⟨d, rfl, h1⟩
      | succ i => exact ih h2 (by simpa using hv)
theorem DeAll.app {vs ws : List V} {ds es : List PyData} (h : DeAll K H vs ds) (g : DeAll K H ws es) : DeAll K H (vs ++ ws) (ds ++ es) := by
  induction ds generalizing vs with
  | nil => cases h; exact g
  | cons d ds ih =>
    cases h with
    | cons h1 h2 => exact .cons h1 (ih h2)
/-- shown in few signs -/
structure Gd (n W : Nat) (d : PyData) : Prop where
  s : d.showable = true
  l : d.leavesShort 40 = true
  dp : d.depth ≤ n
  w : d.weight ≤ W
theorem Gd.mono {n W n2 W2 : Nat} {d : PyData} (h : Gd n W d) (a : n ≤ n2) (b : W ≤ W2) : Gd n2 W2 d := ⟨h.s, h.l, Nat.le_trans h.dp a, Nat.le_trans h.w b⟩
theorem Gd.non : Gd 0 0 .none := ⟨rfl, rfl, Nat.le_refl _, Nat.le_refl _⟩
theorem Gd.bl (b : Bool) : Gd 0 0 (.bool b) := ⟨rfl, rfl, Nat.le_refl _, Nat.le_refl _⟩
theorem Gd.dic : Gd 1 0 (.dict []) := ⟨by simp [PyData.showable, PyData.showableKv], by simp [PyData.leavesShort, PyData.leavesShortKv], by simp [PyData.depth, PyData.depthKv], by simp [PyData.weight, PyData.weightKv]⟩
theorem Gd.int {i : Int} (h : i.natAbs < 10 ^ 38) : Gd 0 130 (.int i) := by
  have h2 : i.natAbs < 2 ^ 130 := Nat.lt_trans h (by decide +kernel)
  have hl : i.natAbs.log2 < 130 := log2_small (by decide) h2
  refine ⟨?_, ?_, Nat.le_refl _, ?_⟩
  · show decide (i.natAbs.log2 < 1920) = true
    exact decide_eq_true (by omega)
  · show decide ((PyData.shown (.int i)).length ≤ 40) = true
    refine decide_eq_true ?_
    have e := int_text_length_le10 (k := 38) (by decide) h
    simp only [PyData.shown]
    rw [show ((toString i : String) : Str).length = (toString i).length from PySem.ofString_length _]
    omega
  · simp only [PyData.weight]
    split
    · omega
    · omega
theorem Gd.str {x : Str} (h : (PyData.str x).leavesShort 40 = true) : Gd 0 x.cps.size (.str x) := ⟨rfl, h, Nat.le_refl _, by simp only [PyData.weight]; exact Nat.le_refl _⟩
theorem gd_all {ds : List PyData} {n W : Nat} (h : ∀ d ∈ ds, Gd n W d) : PyData.showableAll ds = true ∧ PyData.leavesShortAll 40 ds = true ∧ PyData.depthAll ds ≤ n ∧ PyData.weightAll ds ≤ (W + 1) * ds.length := by
  induction ds with
  | nil => exact ⟨rfl, rfl, Nat.zero_le _, Nat.zero_le _⟩
  | cons d ds ih =>
    have a := h d List.mem_cons_self
    obtain ⟨b1, b2, b3, b4⟩ := ih fun e m => h e (List.mem_cons_of_mem _ m)
    have := a.dp
    have := a.w
    simp only [PyData.showableAll, PyData.leavesShortAll, PyData.depthAll, PyData.weightAll, List.length_cons, Nat.mul_add, a.s, a.l, b1, b2, Bool.and_self]
    exact ⟨trivial, trivial, by omega, by omega⟩
theorem Gd.list {ds : List PyData} {n W : Nat} (h : ∀ d ∈ ds, Gd n W d) : Gd (n + 1) ((W + 1) * ds.length) (.list ds) := by
  obtain ⟨b1, b2, b3, b4⟩ := gd_all h
  exact ⟨by simp only [PyData.showable]; exact b1, by simp only [PyData.leavesShort]; exact b2, by simp only [PyData.depth]; omega, by simp only [PyData.weight]; exact b4⟩
theorem Gd.tuple {ds : List PyData} {n W : Nat} (h : ∀ d ∈ ds, Gd n W d) : Gd (n + 1) ((W + 1) * ds.length) (.tuple ds) := by
  obtain ⟨b1, b2, b3, b4⟩ := gd_all h
  exact ⟨by simp only [PyData.showable]; exact b1, by simp only [PyData.leavesShort]; exact b2, by simp only [PyData.depth]; omega, by simp only [PyData.weight]; exact b4⟩
theorem Gd.fits {n W : Nat} {d : PyData} (h : Gd n W d) (hW : W ≤ 370000) : d.shown.length ≤ sizeLine := by
  have a := PyData.shown_le 40 (by decide) d h.l
  have b := h.w
  rw [sizeLine_eq]
  omega
theorem reprA {v : V} {d : PyData} {n W : Nat} (h : De K H v d) (g : Gd n W d) (hn : n ≤ 60) (hW : W ≤ 370000) (q : Q (.str d.shown) H) : rReprA K [v] H Q :=
  ⟨v, d, rfl, h, g.s, Nat.le_trans g.dp hn, g.fits hW, q⟩
end
/-! ### values that are shown in few signs; one address hidden -/
def hidB (b : Addr) (H : Hp) : Hp := fun a => if a = b then none else H a
theorem hid_ex {b : Addr} {H : Hp} : Ex (hidB b H) H := fun a o h => by
  unfold hidB at h
  split at h
  · cases h
  · exact h
theorem hid_ne {b a : Addr} {H : Hp} (n : a ≠ b) : hidB b H a = H a := by
  unfold hidB
  rw [if_neg n]
theorem hid_fx {b : Addr} {H H' : Hp} (f : Fx b H H') : Ex (hidB b H) (hidB b H') := fun a o h => by
  unfold hidB at h ⊢
  by_cases e : a = b
  · rw [if_pos e] at h; cases h
  · rw [if_neg e] at h ⊢
    exact f a o e h
theorem hid_of {b : Addr} {H H' : Hp} (e : Ex H H') : Ex (hidB b H) (hidB b H') := hid_fx (fun a o _ h => e a o h)
def Sv (K : PySem.W.Frag) (H : Hp) (n W : Nat) (v : V) : Prop := ∃ d, De K H v d ∧ Gd n W d
section
variable {K : PySem.W.Frag} {H H' : Hp} {Q : VK} {n W : Nat} {v : V}
theorem Sv.ex (h : Sv K H n W v) (e : Ex H H') : Sv K H' n W v := by
  obtain ⟨d, a, g⟩ := h
  exact ⟨d, De.ex e d v a, g⟩
theorem Sv.mono {n2 W2 : Nat} (h : Sv K H n W v) (a : n ≤ n2) (b : W ≤ W2) : Sv K H n2 W2 v := by
  obtain ⟨d, x, g⟩ := h
  exact ⟨d, x, g.mono a b⟩
theorem Sv.non : Sv K H n W .non := ⟨_, .non, Gd.non.mono (Nat.zero_le _) (Nat.zero_le _)⟩
theorem Sv.bl (b : Bool) : Sv K H n W (.bl b) := ⟨_, .bl b, (Gd.bl b).mono (Nat.zero_le _) (Nat.zero_le _)⟩
theorem Sv.int {i : Int} (h : i.natAbs < 10 ^ 38) (hW : 130 ≤ W) : Sv K H n W (.int i) := ⟨_, .int i, (Gd.int h).mono (Nat.zero_le _) hW⟩
theorem Sv.str {x : Str} (h : (PyData.str x).leavesShort 40 = true) (hW : x.cps.size ≤ W) : Sv K H n W (.str x) := ⟨_, .str x, (Gd.str h).mono (Nat.zero_le _) hW⟩
theorem Sv.dic {a : Addr} (h : H a = some (.dK [])) (hn : 1 ≤ n) : Sv K H n W (.ref a) := ⟨_, .dic h, Gd.dic.mono hn (Nat.zero_le _)⟩
theorem sv_all {xs : List V} (h : ∀ x ∈ xs, Sv K H n W x) : ∃ ds, DeAll K H xs ds ∧ (∀ d ∈ ds, Gd n W d) ∧ ds.length = xs.length := by
  induction xs with
  | nil => exact ⟨[], .nil, (fun _ m => nomatch m), rfl⟩
  | cons x xs ih =>
    obtain ⟨d, a, g⟩ := h x List.mem_cons_self
    obtain ⟨ds, b, c, l⟩ := ih fun y m => h y (List.mem_cons_of_mem _ m)
    refine ⟨d :: ds, .cons a b, fun e m => ?_, by simp [l]⟩
    rcases List.mem_cons.mp m with rfl | m
    · exact g
    · exact c e m
theorem Sv.lst {a : Addr} {xs : List V} {W2 n2 : Nat} (h : SqL K H a xs) (hx : ∀ x ∈ xs, Sv K H n W x) (hn : n + 1 ≤ n2) (hW : (W + 1) * xs.length ≤ W2) : Sv K H n2 W2 (.ref a) := by
  obtain ⟨ds, b, c, l⟩ := sv_all hx
  exact ⟨.list ds, .lst h b, (Gd.list c).mono hn (by rw [l]; exact hW)⟩
theorem Sv.tup {a : Addr} {xs : List V} {W2 n2 : Nat} (h : SqT K H a xs) (hx : ∀ x ∈ xs, Sv K H n W x) (hn : n + 1 ≤ n2) (hW : (W + 1) * xs.length ≤ W2) : Sv K H n2 W2 (.ref a) := by
  obtain ⟨ds, b, c, l⟩ := sv_all hx
  exact ⟨.tuple ds, .tup h b, (Gd.tuple c).mono hn (by rw [l]; exact hW)⟩
theorem sv_ints {ns : List Int} (h : ∀ i ∈ ns, i.natAbs < 10 ^ 38) (hW : 130 ≤ W) : ∀ x ∈ ns.map V.int, Sv K H n W x := fun x m => by
  obtain ⟨i, hi, rfl⟩ := List.mem_map.mp m
  exact .int (h i hi) hW
end
/-- a part of a list of numbers is one -/
theorem cut_ints (ns : List Int) (lo hi : Option Int) : ∃ ms : List Int, cutV (ns.map V.int) lo hi = ms.map V.int ∧ ms.length ≤ ns.length ∧ ∀ m ∈ ms, m ∈ ns := by
  have h : ∀ xs : List V, (∀ x ∈ xs, x ∈ ns.map V.int) → ∃ ms : List Int, xs = ms.map V.int ∧ ∀ m ∈ ms, m ∈ ns := fun xs => by
    induction xs with
    | nil => exact fun _ => ⟨[], rfl, fun _ m => nomatch m⟩
    | cons x xs ih =>
      intro hx
      obtain ⟨i, hi, rfl⟩ := List.mem_map.mp (hx x List.mem_cons_self)
      obtain ⟨ms, rfl, hm⟩ := ih fun y m => hx y (List.mem_cons_of_mem _ m)
      refine ⟨i :: ms, rfl, fun m e => ?_⟩
      rcases List.mem_cons.mp e with rfl | e
      · exact hi
      · exact hm m e
  obtain ⟨ms, e, hm⟩ := h _ fun x m => cutV_mem m
  refine ⟨ms, e, ?_, hm⟩
  have := cutV_len (ns.map V.int) lo hi
  rw [e, List.length_map, List.length_map] at this
  exact this
/-! ### new things with the heap left closed -/
section
variable {K : PySem.W.Frag} {H : Hp} {Q : VK}
theorem newE {o : HO} (q : ∀ (p : Addr) (H' : Hp), H p = none → Ex H H' → H' p = some o → Q (.ref p) H') : ∀ p, H p = none → Q (.ref p) (upd H p o) := fun p np => q p _ np (Ex.new np) upd_same
theorem slE {a : Addr} {lo hi : Option Int} {row : List Int} (h : SqL K H a (row.map V.int)) (q : ∀ (p : Addr) (H' : Hp) (ms : List Int), H p = none → Ex H H' → H' p = some (.lst (ms.map V.int)) → ms.length ≤ row.length → (∀ m ∈ ms, m ∈ row) → Q (.ref p) H') : rSlL K (.ref a) lo hi H Q := by
  obtain ⟨ms, e, l, i⟩ := cut_ints row lo hi
  refine slL h fun z nz => ?_
  rw [e]
  exact q z _ ms nz (Ex.new nz) upd_same l i
theorem slXE {a : Addr} {lo hi : Option Int} {xs : List V} (h : SqL K H a xs) (q : ∀ (p : Addr) (H' : Hp) (ys : List V), H p = none → Ex H H' → H' p = some (.lst ys) → ys = cutV xs lo hi → ys.length ≤ xs.length → (∀ m ∈ ys, m ∈ xs) → Q (.ref p) H') : rSlL K (.ref a) lo hi H Q :=
  slL h fun z nz => q z _ _ nz (Ex.new nz) upd_same rfl (cutV_len _ _ _) fun m hm => cutV_mem hm
theorem catE {a b : Addr} {xs ys : List V} (h : H a = some (.lst xs)) (hb : H b = some (.lst ys)) (hz : xs.length + ys.length ≤ 100000) (q : ∀ (p : Addr) (H' : Hp), H p = none → Ex H H' → H' p = some (.lst (xs ++ ys)) → Q (.ref p) H') : rCat (.ref a) (.ref b) H Q :=
  catL h hb (sz_ok hz) (newE q)
theorem repE {a : Addr} {xs : List V} {k : Nat} (h : H a = some (.lst xs)) (hk : k ≤ 100000) (hz : xs.length * k ≤ 100000) (q : ∀ (p : Addr) (H' : Hp), H p = none → Ex H H' → H' p = some (.lst (List.replicate k xs).flatten) → Q (.ref p) H') : rRep (.ref a) (.int k) H Q :=
  repL h (by omega) (by omega) (sz_ok (by simpa using hz)) (by simpa using newE q)
theorem lstE {xs : List V} (hz : xs.length ≤ 100000) (q : ∀ (p : Addr) (H' : Hp), H p = none → Ex H H' → H' p = some (.lst xs) → Q (.ref p) H') : xs.length ≤ sizeLine ∧ ∀ p, H p = none → Q (.ref p) (upd H p (.lst xs)) := ⟨sz_ok hz, newE q⟩
theorem tupE {xs : List V} (hz : xs.length ≤ 100000) (q : ∀ (p : Addr) (H' : Hp), H p = none → Ex H H' → H' p = some (.tup xs) → Q (.ref p) H') : xs.length ≤ sizeLine ∧ ∀ p, H p = none → Q (.ref p) (upd H p (.tup xs)) := ⟨sz_ok hz, newE q⟩
end
end BC

set_option Elab.async false
set_option linter.all false
set_option maxRecDepth 100000
set_option maxHeartbeats 4000000
/-! whether any value is a site; a list held against the empty one -/
namespace BC
open PySem PySem.Spec PyProof.Rows L2 Evl
section
variable {X : Cx} {K : PySem.W.Frag}
/-- == of any list and an empty one -/
def rEqNil (K : PySem.W.Frag) : R2 := fun x y H Q => ∃ (a b : Addr) (xs : List V), x = .ref a ∧ y = .ref b ∧ SqL K H a xs ∧ SqL K H b [] ∧ Q (.bl (decide (xs = []))) H
theorem k_eqNil (hK : X.K = K) (hu : X.A.units + 64 < cLine) : OpR X (compareOp .Eq) (rEqNil K) := by
  subst hK
  intro pins s σ H x y v u Q I rx ry h
  obtain ⟨a, b, xs, rfl, rfl, ha, hb, q⟩ := h
  cases rx
  cases ry
  obtain ⟨its, r, p1, _⟩ := I.list ha
  obtain ⟨its2, r2, p2, _⟩ := I.list hb
  have z2 : its2 = [] := by cases r2; rfl
  subst z2
  have lr := r.length
  cases xs with
  | nil =>
    have z1 : its = [] := by cases r; rfl
    subst z1
    rw [decide_eq_true rfl] at q
    exact SeqAt.eq_listAt (e := fun _ => true) p1.isList p2.isList rfl (by omega) (fun j h1 _ => absurd h1 (by simp)) ⟨.bl true, H, I, rfl, q⟩
  | cons x xs =>
    rw [decide_eq_false (by simp)] at q
    exact SeqAt.eq_list_lengthsAt p1.isList p2.isList (by simp; intro e; subst e; simp at lr) (by omega) ⟨.bl false, H, I, rfl, q⟩
theorem eqNil {a b : Addr} {xs : List V} {H : Hp} {Q : VK} (ha : SqL K H a xs) (hb : SqL K H b []) (q : Q (.bl (decide (xs = []))) H) : rEqNil K (.ref a) (.ref b) H Q := ⟨a, b, xs, rfl, rfl, ha, hb, q⟩
end
/-! ### the plain law -/
def inD (lo hi : Int) : PyData → Bool
  | .int i => decide (lo ≤ i) && decide (i ≤ hi)
  | _ => false
def numD : PyData → Int
  | .int i => i
  | _ => 0
/-- is the value a row of links of page i among m pages? -/
def isRowD (i : Nat) (m : Int) : PyData → Bool
  | .list ds => if ds.all (inD 0 (m - 1)) = true then decide ((i : Int) ∉ ds.map numD) && decide ((ds.map numD).Pairwise (· < ·)) else false
  | _ => false
def isSiteD : PyData → Bool
  | .list ds => if 1 ≤ ds.length ∧ ds.length ≤ 12 then (List.range ds.length).all fun i => isRowD i ds.length (ds.getD i .none) else false
  | _ => false
/-- the law's own look at a row -/
def netRow (m : Int) (i : Nat) : Int → List PyData → Bool
  | _, [] => true
  | last, .int x :: ds => if x ≤ last ∨ x ≥ m then false else if x = i then false else netRow m i x ds
  | _, .none :: _ => false
  | _, .bool _ :: _ => false
  | _, .str _ :: _ => false
  | _, .list _ :: _ => false
  | _, .tuple _ :: _ => false
  | _, .dict _ :: _ => false
theorem netRow_iff (m : Int) (i : Nat) : ∀ (ds : List PyData) (last : Int), -1 ≤ last → (netRow m i last ds = true ↔ (ds.all (inD 0 (m - 1)) = true ∧ (i : Int) ∉ ds.map numD ∧ (ds.map numD).Pairwise (· < ·) ∧ ∀ n ∈ ds.map numD, last < n)) := by
  intro ds
  induction ds with
  | nil => intro last _; simp [netRow]
  | cons d ds ih =>
    intro last hl
    cases d with
    | int x =>
      simp only [netRow, List.map_cons, List.all_cons, numD, List.mem_cons, List.pairwise_cons]
      by_cases c1 : x ≤ last ∨ x ≥ m
      · rw [if_pos c1]
        constructor
        · intro h; cases h
        · rintro ⟨h1, h2, h3, h4⟩
          have := h4 x (.inl rfl)
          simp [inD] at h1
          omega
      · rw [if_neg c1]
        by_cases c2 : x = (i : Int)
        · rw [if_pos c2]
          constructor
          · intro h; cases h
          · rintro ⟨_, h2, _⟩
            exact absurd (.inl c2.symm) h2
        · rw [if_neg c2, ih x (by omega)]
          constructor
          · rintro ⟨h1, h2, h3, h4⟩
            refine ⟨?_, ?_, ⟨h4, h3⟩, ?_⟩
            · rw [h1]
              simp [inD]
              omega
            · rintro (h | h)
              · exact c2 h.symm
              · exact h2 h
            · rintro n (rfl | h)
              · omega
              · have := h4 n h; omega
          · rintro ⟨h1, h2, ⟨h3, h5⟩, h4⟩
            rw [Bool.and_eq_true] at h1
            exact ⟨h1.2, fun h => h2 (.inr h), h5, h3⟩
    | _ =>
      constructor
      · intro h; cases h
      · rintro ⟨h1, _⟩
        simp [inD] at h1
theorem netRow_row (m : Int) (i : Nat) (ds : List PyData) : netRow m i (-1) ds = isRowD i m (.list ds) := by
  have h := netRow_iff m i ds (-1) (by omega)
  show _ = (if ds.all (inD 0 (m - 1)) = true then decide ((i : Int) ∉ ds.map numD) && decide ((ds.map numD).Pairwise (· < ·)) else false)
  by_cases c : ds.all (inD 0 (m - 1)) = true
  · rw [if_pos c]
    have nn : ∀ n ∈ ds.map numD, -1 < n := fun n hn => by
      obtain ⟨d, hd, rfl⟩ := List.mem_map.mp hn
      have := List.all_eq_true.mp c d hd
      cases d <;> simp [inD, numD] at this ⊢
      omega
    cases e : netRow m i (-1) ds with
    | true =>
      obtain ⟨_, h2, h3, _⟩ := h.mp e
      rw [decide_eq_true h2, decide_eq_true h3]
      rfl
    | false =>
      symm
      rw [Bool.and_eq_false_iff]
      by_cases c2 : (i : Int) ∈ ds.map numD
      · exact .inl (decide_eq_false (fun z => z c2))
      · refine .inr (decide_eq_false fun c3 => ?_)
        rw [h.mpr ⟨c, c2, c3, nn⟩] at e
        cases e
  · rw [if_neg c]
    cases e : netRow m i (-1) ds with
    | true => exact absurd (h.mp e).1 c
    | false => rfl
/-! ### values whose lists are not too long -/
def LenL (d : PyData) : Prop := ∀ es, d = .list es → es.length ≤ 4000
def RowsL (d : PyData) : Prop := ∀ ds, d = .list ds → ∀ e ∈ ds, LenL e
/-- shown in few signs, itself not too long -/
def Sw (K : PySem.W.Frag) (H : Hp) (n W : Nat) (v : V) : Prop := ∃ d, De K H v d ∧ Gd n W d ∧ LenL d
/-- shown in few signs, its items not too long -/
def Sr (K : PySem.W.Frag) (H : Hp) (n W : Nat) (v : V) : Prop := ∃ d, De K H v d ∧ Gd n W d ∧ RowsL d
section
variable {K : PySem.W.Frag} {H H' : Hp} {n W : Nat} {v : V}
theorem Gd.intB {i : Int} {k : Nat} (h : i.natAbs < 2 ^ k) (h0 : 0 < k) (hk : k ≤ 128) : Gd 0 k (.int i) := by
  have hl : i.natAbs.log2 < k := log2_small h0 h
  have h2 : i.natAbs < 10 ^ 39 := Nat.lt_of_lt_of_le h (Nat.le_trans (Nat.pow_le_pow_right (by decide) hk) (by decide +kernel))
  refine ⟨?_, ?_, Nat.le_refl _, ?_⟩
  · show decide (i.natAbs.log2 < 1920) = true
    exact decide_eq_true (by omega)
  · show decide ((PyData.shown (.int i)).length ≤ 40) = true
    refine decide_eq_true ?_
    have e := int_text_length_le10 (k := 39) (by decide) h2
    simp only [PyData.shown]
    rw [show ((toString i : String) : Str).length = (toString i).length from PySem.ofString_length _]
    omega
  · simp only [PyData.weight]
    split
    · omega
    · omega
theorem Sw.ex (h : Sw K H n W v) (e : Ex H H') : Sw K H' n W v := by
  obtain ⟨d, a, g⟩ := h
  exact ⟨d, De.ex e d v a, g⟩
theorem Sr.ex (h : Sr K H n W v) (e : Ex H H') : Sr K H' n W v := by
  obtain ⟨d, a, g⟩ := h
  exact ⟨d, De.ex e d v a, g⟩
theorem Sw.mono {n2 W2 : Nat} (h : Sw K H n W v) (a : n ≤ n2) (b : W ≤ W2) : Sw K H n2 W2 v := by
  obtain ⟨d, x, g, l⟩ := h
  exact ⟨d, x, g.mono a b, l⟩
theorem Sr.mono {n2 W2 : Nat} (h : Sr K H n W v) (a : n ≤ n2) (b : W ≤ W2) : Sr K H n2 W2 v := by
  obtain ⟨d, x, g, l⟩ := h
  exact ⟨d, x, g.mono a b, l⟩
theorem Sw.non : Sw K H n W .non := ⟨_, .non, Gd.non.mono (Nat.zero_le _) (Nat.zero_le _), fun _ e => by cases e⟩
theorem Sw.bl (b : Bool) : Sw K H n W (.bl b) := ⟨_, .bl b, (Gd.bl b).mono (Nat.zero_le _) (Nat.zero_le _), fun _ e => by cases e⟩
theorem Sw.int {i : Int} {k : Nat} (h : i.natAbs < 2 ^ k) (h0 : 0 < k) (hk : k ≤ 128) (hW : k ≤ W) : Sw K H n W (.int i) := ⟨_, .int i, (Gd.intB h h0 hk).mono (Nat.zero_le _) hW, fun _ e => by cases e⟩
theorem Sw.str {x : Str} (h : (PyData.str x).leavesShort 40 = true) (hW : x.cps.size ≤ W) : Sw K H n W (.str x) := ⟨_, .str x, (Gd.str h).mono (Nat.zero_le _) hW, fun _ e => by cases e⟩
theorem Sw.dic {a : Addr} (h : H a = some (.dK [])) (hn : 1 ≤ n) : Sw K H n W (.ref a) := ⟨_, .dic h, Gd.dic.mono hn (Nat.zero_le _), fun _ e => by cases e⟩
theorem sw_all {xs : List V} (h : ∀ x ∈ xs, Sw K H n W x) : ∃ ds, DeAll K H xs ds ∧ (∀ d ∈ ds, Gd n W d) ∧ (∀ d ∈ ds, LenL d) ∧ ds.length = xs.length := by
  induction xs with
  | nil => exact ⟨[], .nil, (fun _ m => nomatch m), (fun _ m => nomatch m), rfl⟩
  | cons x xs ih =>
    obtain ⟨d, a, g, q⟩ := h x List.mem_cons_self
    obtain ⟨ds, b, c, r, l⟩ := ih fun y m => h y (List.mem_cons_of_mem _ m)
    refine ⟨d :: ds, .cons a b, fun e m => ?_, fun e m => ?_, by simp [l]⟩
    · rcases List.mem_cons.mp m with rfl | m
      · exact g
      · exact c e m
    · rcases List.mem_cons.mp m with rfl | m
      · exact q
      · exact r e m
theorem Sw.lst {a : Addr} {xs : List V} {W2 n2 : Nat} (h : SqL K H a xs) (hx : ∀ x ∈ xs, Sw K H n W x) (hl : xs.length ≤ 4000) (hn : n + 1 ≤ n2) (hW : (W + 1) * xs.length ≤ W2) : Sw K H n2 W2 (.ref a) := by
  obtain ⟨ds, b, c, q, l⟩ := sw_all hx
  exact ⟨.list ds, .lst h b, (Gd.list c).mono hn (by rw [l]; exact hW), fun es e => by cases e; omega⟩
theorem Sr.lst {a : Addr} {xs : List V} {W2 n2 : Nat} (h : SqL K H a xs) (hx : ∀ x ∈ xs, Sw K H n W x) (hn : n + 1 ≤ n2) (hW : (W + 1) * xs.length ≤ W2) : Sr K H n2 W2 (.ref a) := by
  obtain ⟨ds, b, c, q, l⟩ := sw_all hx
  exact ⟨.list ds, .lst h b, (Gd.list c).mono hn (by rw [l]; exact hW), fun es e f m => by cases e; exact q f m⟩
theorem Sw.tup {a : Addr} {xs : List V} {W2 n2 : Nat} (h : SqT K H a xs) (hx : ∀ x ∈ xs, Sw K H n W x) (hn : n + 1 ≤ n2) (hW : (W + 1) * xs.length ≤ W2) : Sw K H n2 W2 (.ref a) := by
  obtain ⟨ds, b, c, q, l⟩ := sw_all hx
  exact ⟨.tuple ds, .tup h b, (Gd.tuple c).mono hn (by rw [l]; exact hW), fun es e => by cases e⟩
/-- what is no list is asked no more -/
theorem Sw.sr {d : PyData} (a : De K H v d) (g : Gd n W d) (h : ∀ es, d ≠ .list es) : Sr K H n W v := ⟨d, a, g, fun es e => absurd e (h es)⟩
theorem Sr.non : Sr K H n W .non := Sw.sr .non (Gd.non.mono (Nat.zero_le _) (Nat.zero_le _)) (fun _ e => by cases e)
theorem Sr.bl (b : Bool) : Sr K H n W (.bl b) := Sw.sr (.bl b) ((Gd.bl b).mono (Nat.zero_le _) (Nat.zero_le _)) (fun _ e => by cases e)
theorem Sr.int {i : Int} {k : Nat} (h : i.natAbs < 2 ^ k) (h0 : 0 < k) (hk : k ≤ 128) (hW : k ≤ W) : Sr K H n W (.int i) := Sw.sr (.int i) ((Gd.intB h h0 hk).mono (Nat.zero_le _) hW) (fun _ e => by cases e)
theorem Sr.str {x : Str} (h : (PyData.str x).leavesShort 40 = true) (hW : x.cps.size ≤ W) : Sr K H n W (.str x) := Sw.sr (.str x) ((Gd.str h).mono (Nat.zero_le _) hW) (fun _ e => by cases e)
theorem Sr.dic {a : Addr} (h : H a = some (.dK [])) (hn : 1 ≤ n) : Sr K H n W (.ref a) := Sw.sr (.dic h) (Gd.dic.mono hn (Nat.zero_le _)) (fun _ e => by cases e)
theorem Sr.tup {a : Addr} {xs : List V} {W2 n2 : Nat} (h : SqT K H a xs) (hx : ∀ x ∈ xs, Sw K H n W x) (hn : n + 1 ≤ n2) (hW : (W + 1) * xs.length ≤ W2) : Sr K H n2 W2 (.ref a) := by
  obtain ⟨ds, b, c, q, l⟩ := sw_all hx
  exact ⟨.tuple ds, .tup h b, (Gd.tuple c).mono hn (by rw [l]; exact hW), fun es e => by cases e⟩
theorem sw_ints {ns : List Int} {k : Nat} (h : ∀ i ∈ ns, i.natAbs < 2 ^ k) (h0 : 0 < k) (hk : k ≤ 128) (hW : k ≤ W) : ∀ x ∈ ns.map V.int, Sw K H n W x := fun x m => by
  obtain ⟨i, hi, rfl⟩ := List.mem_map.mp m
  exact .int (h i hi) h0 hk hW
/-- a list of numbers below 256 -/
theorem Sw.row {a : Addr} {ns : List Int} {n2 W2 : Nat} (h : SqL K H a (ns.map V.int)) (hb : ∀ i ∈ ns, i.natAbs < 256) (hl : ns.length ≤ 4000) (hn : 1 ≤ n2) (hW : 9 * ns.length ≤ W2) : Sw K H n2 W2 (.ref a) :=
  Sw.lst (n := 0) (W := 8) h (sw_ints (k := 8) hb (by omega) (by omega) (Nat.le_refl _)) (by rw [List.length_map]; exact hl) hn (by rw [List.length_map]; exact hW)
/-- the rows of a grid -/
theorem grid_sw {s : Addr} {G : Grid} (h : GridAt H s G) {m : Nat} (hr : ∀ i, (row G i).length ≤ m ∧ ∀ x ∈ row G i, x < 256) (hm : m ≤ 4000) : ∃ xs, H s = some (.lst xs) ∧ xs.length = G.length ∧ ∀ x ∈ xs, Sw K H 1 (9 * m) x := by
  obtain ⟨xs, h1, h2, h3⟩ := h.lst
  refine ⟨xs, h1, h2, fun x hx => ?_⟩
  obtain ⟨i, hi⟩ := List.getElem?_of_mem hx
  obtain ⟨_, p, rfl, hp⟩ := h3 i x hi
  have q := hr i
  refine Sw.row (.inl (.inl hp)) (fun n hn => ?_) (by rw [nz_len]; omega) (Nat.le_refl _) (by rw [nz_len]; exact Nat.mul_le_mul_left _ q.1)
  obtain ⟨y, hy, rfl⟩ := List.mem_map.mp hn
  have := q.2 y hy
  show ((y : Nat) : Int).natAbs < 256
  omega
end
end BC

set_option Elab.async false
set_option linter.all false
set_option maxRecDepth 100000
set_option maxHeartbeats 4000000
/-! a caught exception as a tracked object: in its suite, behind it, and handed to defs -/
namespace BC
open PySem PySem.Spec PyProof.Rows L2
/-- an exception's object: its class, its dict -/
def ExT (cls : Value) (d : Option Addr) (a : Addr) : HO := .ext fun h => ∃ (ob : Obj) (fs : Array Value), h.get? a = some ob ∧ Zc cls d ob ∧ ob.data = .fields fs
theorem exT_ok {P : Program} {w : World} {H : Hp} {h : Heap} {a : Addr} {cls : Value} {d : Option Addr} {ob : Obj} {fs : Array Value} (e : h.get? a = some ob) (z : Zc cls d ob) (f : ob.data = .fields fs) : ObjOk P w H h a (ExT cls d a) := by
  refine ⟨⟨ob, fs, e, z, f⟩, ⟨ob, e⟩, ?_⟩
  rintro h1 h2 ⟨o2, f2, e2, z2, q2⟩ k
  exact ⟨o2, f2, k _ e2, z2, q2⟩
/-- at a stands an exception of this class, without a dict -/
def IsEx (H : Hp) (a : Addr) (cls : Value) : Prop := ∃ φ : Heap → Prop, H a = some (.ext φ) ∧ ∀ h, φ h → ∃ (ob : Obj) (fs : Array Value), h.get? a = some ob ∧ Zc cls none ob ∧ ob.data = .fields fs
theorem isEx_T {H : Hp} {a : Addr} {cls : Value} (h : H a = some (ExT cls none a)) : IsEx H a cls := ⟨_, h, fun _ q => q⟩
theorem isEx_O {H : Hp} {a : Addr} {cls : Value} (h : H a = some (ExO cls a)) : IsEx H a cls := ⟨_, h, fun _ q => by
  obtain ⟨ob, fs, e, z, d, _⟩ := q
  exact ⟨ob, fs, e, z, d⟩⟩
theorem IsEx.at {H H' : Hp} {a : Addr} {cls : Value} (x : IsEx H a cls) (h : ∀ o, H a = some o → H' a = some o) : IsEx H' a cls := by
  obtain ⟨φ, e, q⟩ := x
  exact ⟨φ, h _ e, q⟩
section
variable {X : Cx} {pins : List (Addr × Obj)} {σ : L2.St} {H : Hp} {s : Shared}
/-- an object that stands untracked, younger than the frame, is tracked -/
theorem inv_track {a : Addr} {φ : Heap → Prop} (I : Inv X pins σ H s) (n0 : X.s_0.heap.get? a = none) (na : H a = none) (nL : a ≠ X.env.locals) (nC : ∀ x c, X.env.cells.lookup x = some c → c ≠ a) (nP : ∀ p ∈ X.pn ++ pins, p.1 ≠ a)
    (new : ObjOk X.prog X.w (upd H a (.ext φ)) s.heap a (.ext φ)) : Inv X pins σ (upd H a (.ext φ)) s := by
  have old : ∀ b o, X.s_0.heap.get? b = some o → b ≠ a := by
    rintro b o e rfl
    rw [n0] at e
    cases e
  have trk : ∀ {b : Addr} {o : HO}, H b = some o → b ≠ a := by
    rintro b o e rfl
    rw [na] at e
    cases e
  have frame : upd H a (.ext φ) X.env.locals = none := by rw [upd_ne (Ne.symm nL)]; exact I.free
  have un : Un X.fs X.ex X.H_0 (upd H a (.ext φ)) X.s_0.heap s.heap :=
    { keep := I.base.keep
      slot := I.base.slot
      free := fun b o e n x => by rw [upd_ne (old b o e)]; exact I.base.free b o e n x
      there := I.base.there
      tups := fun b xs e => by have q := I.base.tups b xs e; rw [upd_ne (trk q)]; exact q
      frzs := fun b o xs e => by have q := I.base.frzs b o xs e; rw [upd_ne (trk q)]; exact q
      tbls := fun b ps e => by obtain ⟨m, q⟩ := I.base.tbls b ps e; exact ⟨m, by rw [upd_ne (trk q)]; exact q⟩ }
  have held : HOk X.prog X.w (upd H a (.ext φ)) s.heap := by
    intro b u e
    by_cases q : b = a
    · subst q
      rw [upd_same] at e
      cases e
      exact new
    · rw [upd_ne q] at e
      exact (I.hok b u e).stay (fun _ _ _ z => z) (fun c z => by rw [upd_ne (trk z)]; exact z) fun c xs z => by rw [upd_ne (trk z)]; exact z
  exact { ok := I.ok, os := I.os, bare := I.bare, base := un, loc := I.loc, cell := I.cell, free := frame, hok := held, len := I.len
          freeC := fun x c e => by rw [upd_ne (nC x c e)]; exact I.freeC x c e
          pin := fun p hp => by obtain ⟨h1, h2, h3⟩ := I.pin p hp; exact ⟨h1, by rw [upd_ne (nP p hp)]; exact h2, h3⟩ }
/-- into the suite, the exception tracked -/
theorem inv_intoT (I : Inv X pins σ H s) (a : Addr) : Inv (X.suite a (X.pn ++ pins)) [] σ H s :=
  ⟨I.ok.suite a (X.pn ++ pins), I.os, I.bare, I.base, I.loc, I.cell, I.free, I.freeC, fun p hp => I.pin p (by rwa [List.append_nil] at hp), I.hok, I.len⟩
theorem inv_outT {a : Addr} {pn' : List (Addr × Obj)} (I : Inv (X.suite a (X.pn ++ pins)) pn' σ H s) (ok : X.Ok) : Inv X pins σ H s :=
  ⟨ok, I.os, I.bare, I.base, I.loc, I.cell, I.free, I.freeC, fun p hp => I.pin p (List.mem_append_left _ hp), I.hok, I.len⟩
end
/-- the wish of 'except x as n' where the exception is tracked from then on -/
def wTrk (K : PySem.W.Frag) (c : Value) (i : Nat) (ts : Addr → Value → Option Addr → TS) (Wout : WX) (D : Ends) : WX := fun cls d σ H =>
  ∃ b, PySem.W.exmOne K cls c = some b ∧ (b = true → ∀ a, H a = none → ts a cls d { nx := fun σ' H' => D.nx (σ'.set i none) H', rt := D.rt, bk := fun σ' H' => D.bk (σ'.set i none) H', ct := fun σ' H' => D.ct (σ'.set i none) H' } (σ.set i (some (.ref a))) (upd H a (ExT cls d a))) ∧
    (b = false → Wout cls d σ H)
section
variable {X : Cx} {x n : Str} {c : Value} {i : Nat} {body suite : List Stmt} {b0 : Stmt} {np pos hpos : Pos} {tb : WX → TS} {ts : Addr → Value → Option Addr → TS} {Wout : WX}
theorem ps_try_trk (hs : X.stack = X.env :: X.outer) (hf : X.env.frame = some X.env.locals) (hx : X.ex = []) (hN : X.N.Nodup) (hi : X.N[i]? = some n) (hln : X.env.kindOf n = some .local) (hc : Names X x c) (tk : Takes X Wout)
    (hb : ∀ (W : WX) (pn : List (Addr × Obj)) (xe : Value → Shared → Prop), Takes (X.tr pn xe) W → PassesOwn (model X.prog X.w) X.A X.env xe → PSs (X.tr pn xe) body (tb W))
    (hsu : ∀ (a : Addr) (cls : Value) (d : Option Addr) (pn : List (Addr × Obj)), PSs (X.suite a pn) (b0 :: suite) (ts a cls d)) :
    PS X (.Try body [.ExceptHandler (some (.Name x np)) (some n) (b0 :: suite) hpos] [] [] pos) (fun D σ H => tb (wTrk X.K c i ts Wout D) D σ H) := by
  constructor
  intro pins s σ H D I h
  have ok := I.ok
  have frames : X.A.frames = some (X.env :: X.outer) := hs ▸ ok.frames
  let W0 := wTrk X.K c i ts Wout D
  let after := fun (e : Value) (s1 : Shared) => wpAny (model X.prog X.w) X.A (noteFrame e X.env) (fun _ s2 => wpAny (model X.prog X.w) X.A (setFlight e none) (fun _ s3 =>
    wpAny (model X.prog X.w) X.A (handleBy e X.env [.ExceptHandler (some (.Name x np)) (some n) (b0 :: suite) hpos]) (SP X pins D) X.xe s3) X.xe s2) X.xe s1
  have take : Takes (X.tr (X.pn ++ pins) after) W0 := by
    rintro u s' ⟨a, B, sI, pins1, σ1, H1, cls, d, rfl, J0, nb, up, sky, na, os, ag, b, eb, yes, no⟩
    have J : Inv X pins σ1 H1 sI := J0.ofTry ok
    rw [show (X.tr (X.pn ++ pins) after).stack = X.env :: X.outer from hs] at sky
    refine Sky.land (Z := Zc cls d) Zc.steady frames hf sky fun h3 fly3 up3 => ?_
    have J3 : Inv X pins σ1 H1 { s' with heap := h3 } := J.landed nb fly3.1 (up.trans up3) os ag
    obtain ⟨o3, f3, e3, z3, d3⟩ := fly3.there
    have outside : a ∉ frs (X.env :: X.outer) := by
      intro hm
      obtain ⟨_, o', e', no'⟩ := fly3.2.2.1.mem hm
      rw [e3] at e'
      cases e'
      exact no' _ d3
    have gone : sI.heap.get? a = none := by
      cases q : sI.heap.get? a with
      | none => rfl
      | some o =>
        have z := nb a o q (by rw [show (X.tr (X.pn ++ pins) after).stack = X.env :: X.outer from hs]; exact outside)
        rw [fly3.2.1] at z
        cases z
    have n0 : X.s_0.heap.get? a = none := by
      cases q : X.s_0.heap.get? a with
      | none => rfl
      | some o =>
        obtain ⟨o', z⟩ := J.base.there a o q (by rw [hx]; exact List.not_mem_nil)
        rw [gone] at z
        cases z
    have nL : a ≠ X.env.locals := fun z => outside (List.mem_filterMap.mpr ⟨X.env, List.mem_cons_self, by rw [hf, z]⟩)
    have nF : a ∉ X.fs := by
      intro hm
      obtain ⟨e, he, q⟩ := List.mem_filterMap.mp hm
      exact outside (List.mem_filterMap.mpr ⟨e, List.mem_cons_of_mem _ he, q⟩)
    have nC : ∀ y k, X.env.cells.lookup y = some k → k ≠ a := by
      rintro y k e rfl
      obtain ⟨v, o, z, _⟩ := J.cell y k e
      rw [gone] at z
      cases z
    have nP : ∀ p ∈ X.pn ++ pins, p.1 ≠ a := by
      intro p hp q
      have z := (J.pin p hp).1
      rw [q, gone] at z
      cases z
    have S3 := J3.suite e3 d3 na nL nF
    refine wpAny_handleBy_cons (codeAny_handlers_test ?_) (fun q => nomatch q)
    have LT : PySem.W.Looks (model X.prog X.w) h3 (typeOf (.ref a)) cls := fun A Q E s2 k q => wpAny_typeOf_ref (k _ _ e3) (by rw [z3.1]; exact q)
    have LM := PySem.W.exm_one (M := model X.prog X.w) (J3.kIn) LT eb
    have asked : ∀ {Q : Value → Shared → Prop} {E : Value → Shared → Prop}, Q c { s' with heap := h3 } → wpAny (model X.prog X.w) (X.A.mark (some (.ref a))) (eval (.Name x np) X.env) Q E { s' with heap := h3 } := by
      intro Q E q
      obtain ⟨hg, hdb, hm | ⟨hm, hv, hnn⟩⟩ := hc
      · exact ld_glob (X := X.suite a ((a, o3) :: (X.pn ++ pins))) S3 hg hm q hdb
      · exact ld_blt (X := X.suite a ((a, o3) :: (X.pn ++ pins))) S3 hg hm hv q hnn hdb
    refine asked (LM.here ?_)
    cases b with
    | false =>
      show wpAny _ X.A (handleBy (.ref a) X.env []) _ _ _
      refine wpAny_handleBy_nil ?_
      obtain ⟨_, _, _, ob, vs, T, oT, tt, he, hz, hd, h1, hr⟩ := id fly3
      have fin : wpAny (model X.prog X.w) X.A (setFlight (.ref a) X.env.frame) (fun _ s4 => wpAny (model X.prog X.w) X.A (throw (.ref a) : Sem Flow) (SP X pins D) X.xe s4) X.xe { s' with heap := h3 } := by
        rw [hf]
        refine HandSPX.setFlight_upZ fly3 fun h4 held up4 => wpAny_throw (tk _ _ ?_)
        exact ⟨a, B, sI, pins, σ1, H1, cls, d, rfl, J, by rw [hs]; rw [show (X.tr (X.pn ++ pins) after).stack = X.env :: X.outer from hs] at nb; exact nb, (up.trans up3).trans up4, .inr (.inr (by rw [hs]; exact held)), na, os, ag, no rfl⟩
      unfold PySem.passOn
      refine wpAny_bind (wpAny_field he hd h1 ?_)
      rw [if_neg (by simp : ¬ ((Value.ref T == Value.none) = true))]
      first
        | exact wpAny_bind fin
        | exact wpAny_bind (wpAny_pure (wpAny_bind fin))
    | true =>
      refine codeAny_handlers_suite_as ?_
      refine HandSPX.lands_againZ fly3 fun h4 fly4 up4 => ?_
      have J4 : Inv X pins σ1 H1 { s' with heap := h4 } := J.landed nb fly4.1 ((up.trans up3).trans up4) os ag
      obtain ⟨o4, f4, e4, z4, d4⟩ := fly4.there
      have T4 : Inv X pins σ1 (upd H1 a (ExT cls d a)) { s' with heap := h4 } := inv_track J4 n0 na nL nC nP (exT_ok e4 z4 d4)
      refine store_ok (X := X.suite a (X.pn ++ pins)) (v := .ref a) (inv_intoT T4 a) hN hi (.inl hln) rfl (fun s5 S5 => ?_) (.inr hln)
      refine wpAny_mono ((hsu a cls d (X.pn ++ pins)).run [] s5 _ _ _ S5 (yes rfl a na)) (fun fl s6 res => ?_) fun _ _ z => z.elim
      have close : ∀ {σ6 : L2.St} {H6 : Hp} {Q : Shared → Prop}, Inv (X.suite a (X.pn ++ pins)) [] σ6 H6 s6 → (∀ s7, Inv X pins (σ6.set i none) H6 s7 → Q s7) →
          wpAny (model X.prog X.w) X.A (do bindName X.env n .none; unbindBehindTheSuite X.env n hpos) (fun _ s7 => Q s7) X.xe s6 := fun S6 q => gone_ok (inv_outT S6 ok) hN hi hln q
      match fl, res with
      | .next, res =>
        obtain ⟨σ6, H6, S6, q6⟩ := res
        exact close S6 fun s7 J7 => ⟨_, _, J7, q6⟩
      | .brk, res =>
        obtain ⟨σ6, H6, S6, q6⟩ := res
        exact close S6 fun s7 J7 => ⟨_, _, J7, q6⟩
      | .cont, res =>
        obtain ⟨σ6, H6, S6, q6⟩ := res
        exact close S6 fun s7 J7 => ⟨_, _, J7, q6⟩
      | .ret u, res =>
        obtain ⟨v6, σ6, H6, S6, r6, q6⟩ := res
        exact close S6 fun s7 J7 => ⟨_, _, _, J7, r6, q6⟩
  refine wpAny_Try_except (wpAny_mono ((hb W0 (X.pn ++ pins) after take PassesOwn.looking).run [] s σ H D (I.toTry _) h) (fun fl s1 res => ?_) fun e s1 he => he)
  match fl, res with
  | .next, res =>
    obtain ⟨σ2, H2, J2, q⟩ := res
    exact wpAny_execs_nil ⟨σ2, H2, J2.ofTry ok, q⟩
  | .brk, res =>
    obtain ⟨σ2, H2, J2, q⟩ := res
    exact ⟨σ2, H2, J2.ofTry ok, q⟩
  | .cont, res =>
    obtain ⟨σ2, H2, J2, q⟩ := res
    exact ⟨σ2, H2, J2.ofTry ok, q⟩
  | .ret u, res =>
    obtain ⟨v, σ2, H2, J2, r, q⟩ := res
    exact ⟨v, σ2, H2, J2.ofTry ok, r, q⟩
end
/-! ### isinstance of a tracked exception -/
/-- isinstance(e, C) -/
def rIsX (K : PySem.W.Frag) : List V → Hp → VK → Prop := fun xs H Q => ∃ (a D : Addr) (c : V) (cv : Value) (b : Bool), xs = [.ref a, c] ∧ IsEx H a (.ref D) ∧ ExcC K D ∧ ClsV c cv ∧ PySem.W.kitOne K (.ref D) cv = some b ∧ Q (.bl b) H
/-- isinstance(e, (C1, C2, ..)) -/
def rIsXT (K : PySem.W.Frag) : List V → Hp → VK → Prop := fun xs H Q => ∃ (a D tp : Addr) (cs : List V) (us : List Value) (b : Bool), xs = [.ref a, .ref tp] ∧ IsEx H a (.ref D) ∧ ExcC K D ∧ H tp = some (.tup cs) ∧ Paired ClsV cs us ∧ PySem.W.kitAny K (.ref D) us = some b ∧ Q (.bl b) H
section
variable {X : Cx} {K : PySem.W.Frag}
theorem isx_at {pins : List (Addr × Obj)} {σ : L2.St} {H : Hp} {s : Shared} {a D : Addr} (I : Inv X pins σ H s) (x : IsEx H a (.ref D)) : ∃ ob, PySem.W.InstAt s.heap a ob D none := by
  obtain ⟨φ, e, q⟩ := x
  obtain ⟨ob, fs, e1, ⟨z1, z2⟩, d1⟩ := q _ (I.hok a _ e).1
  obtain ⟨oc, od, dt, sl⟩ := ob
  dsimp only at z1 z2 d1
  subst z1 z2 d1
  exact ⟨_, e1, rfl, rfl, trivial⟩
theorem k_isX (hK : X.K = K) : CallR X (.builtin "isinstance") (rIsX K) := by
  subst hK
  intro pins s σ H xs us Q I r h
  obtain ⟨a, D, c, cv, b, rfl, x, C, k, e, q⟩ := h
  obtain ⟨u1, u2, rfl, r1, r2⟩ := vals2 r
  obtain rfl : u1 = Value.ref a := r1
  obtain rfl := k.eq r2
  obtain ⟨ob, J⟩ := isx_at I x
  exact PySem.W.kia_one (PySem.W.handS_kitx_exc C.hg C.hk C.hs C.hd C.ha C.hn C.ht C.hm) I.kIn J e (fun z => nomatch z) fun tk => ⟨.bl b, H, I.tok tk, rfl, q⟩
theorem k_isXT (hK : X.K = K) : CallR X (.builtin "isinstance") (rIsXT K) := by
  subst hK
  intro pins s σ H xs us Q I r h
  obtain ⟨a, D, tp, cs, ws, b, rfl, x, C, hT, k, e, q⟩ := h
  obtain ⟨u1, u2, rfl, r1, r2⟩ := vals2 r
  obtain rfl : u1 = Value.ref a := r1
  obtain rfl : u2 = Value.ref tp := r2
  obtain ⟨ob, J⟩ := isx_at I x
  obtain ⟨_, its, rv, o, h1, h2, m, h3⟩ := (I.hok tp _ hT : ObjOk X.prog X.w H s.heap tp (.tup cs))
  obtain rfl := ClsV.all k rv
  obtain ⟨oc, od, dt, sl⟩ := o
  dsimp only at h2 h3
  subst h2 h3
  exact PySem.W.kia_tup (PySem.W.handS_kitx_exc C.hg C.hk C.hs C.hd C.ha C.hn C.ht C.hm) I.kIn J h1 e (fun z => nomatch z) fun tk => ⟨.bl b, H, I.tok tk, rfl, q⟩
end
/-! ### defs that may be called while an exception is handled -/
structure FnU (P : Program) (w : World) (K : PySem.W.Frag) (mg : Str → Option Value) (base : Heap) (k : Nat) (f : Addr) (fd : FuncData) (ps : List Str) (sp : Sp) : Prop where
  size : ∀ vs H Q E, sp vs H Q E → vs.length = ps.length
  go : ∀ (A : Around) (outer : List Env) (s : Shared) (H : Hp) (args : Args) (us : List Value) (vs : List V) (Q : VK) (E : XK), L2H.RoomH k A → Env0 P w K mg base A outer s H →
    BindsTo s fd args (ps.zip us) → Vals vs us → sp vs H Q E → codeAny (model P w) A (.call (.ref f) args) (CR CX0 outer P w H s Q E) s
/-- the context of such a def's body -/
def cxU (P : Program) (w : World) (K : PySem.W.Frag) (mg : Str → Option Value) (base : Heap) (N : List Str) (qual : Str) (scope : Scope) (f : Addr) (cd : Value) (A : Around) (outer : List Env) (s : Shared) (H : Hp) (E : XK) : Cx :=
  { cxOf CX0 P w K mg base N qual scope f cd A outer s H E with calm := false }
section
variable {P : Program} {w : World} {K : PySem.W.Frag} {mg : Str → Option Value} {base : Heap} {k : Nat} {f : Addr} {fd : FuncData} {ps : List Str} {sp : Sp}
theorem fun_okU {x qual : Str} {st : Stmt} {N : List Str} (F : Fun K x qual st f fd) (S : FnScope N ps (defScope st)) (size : ∀ vs H Q E, sp vs H Q E → vs.length = ps.length)
    (body : ∀ (cdv : Value) (A : Around) (outer : List Env) (s : Shared) (H : Hp) (vs : List V) (Q : VK) (E : XK), L2H.RoomH k (A.deeper (envOfC qual (defScope st) s.heap.objs.size f cdv)) → sp vs H Q E →
      ∃ t, PSs (cxU P w K mg base N qual (defScope st) f cdv A outer s H E) (defBody st) t ∧ t { nx := fun _ H' => Q .non H', rt := Q } (start N vs) H) : FnU P w K mg base (k + 1) f fd ps sp := by
  obtain ⟨oc, od, kV, doc, pm, an, cdv, ct, osl, rfl, lk, hcd⟩ := F.ex
  refine ⟨size, fun A outer s H args us vs Q E room env bind vals prom => ?_⟩
  have inK : K.In s.heap := env.mod.kin.keeps fun b o q => (env.bs b o q).1
  have loose : s.heap.NoLimit := env.mod.nolimit.keeps fun b o q => (env.bs b o q).1
  have kinds : ∀ z ∈ ps.zip us, (defScope st).names.lookup z.1 = some .local ∨ ((defScope st).names.lookup z.1 = some .cell ∧ ((cellsFrom (s.heap.objs.size + 1) (defScope st).names []).lookup z.1).isSome = true) := by
    rintro ⟨n, v⟩ hz
    have hn := (List.of_mem_zip hz).1
    rcases S.par n hn with h | h
    · exact Or.inl h
    · exact Or.inr ⟨h, PySem.W.cellsFrom_some _ _ _ (Or.inl h)⟩
  refine codeAny_call_function room.depth (inK _ _ lk) rfl S.co S.gen rfl (PySem.W.codeRec_of inK hcd) (bind _ _ _ _ ?_)
  refine wpAny_newFunctionEnv_cells S.kind kinds fun env' e1 s1 into => ?_
  subst e1
  refine ⟨loose.keeps into.toInCall.keep, codeAny_func ?_⟩
  obtain ⟨t, deriv, read⟩ := body cdv A outer s H vs Q E (room.deeper _) prom
  have env1 : Env0 P w K mg base { A with handled := none } outer s H := ⟨env.frames, env.mod, env.bs, env.bsz, env.funs, env.frf, env.hok, env.bare⟩
  have I0 := inv_start (CX := CX0) (E := E) (A := { A with handled := none }) S rfl env1 (size _ _ _ _ prom) vals into
  have I : Inv (cxU P w K mg base N qual (defScope st) f cdv A outer s H E) [] (start N vs) H s1 :=
    ⟨⟨I0.ok.mod, I0.ok.kind, I0.ok.glob, I0.ok.blt, I0.ok.above, I0.ok.inj, I0.ok.has, I0.ok.cab, (fun z => absurd (show false = true from z) Bool.false_ne_true), I0.ok.frames, I0.ok.stk, I0.ok.exf, I0.ok.bs, I0.ok.bsz, I0.ok.noex, I0.ok.exfs, I0.ok.funs, I0.ok.frf⟩,
      I0.os, I0.bare, I0.base, I0.loc, I0.cell, I0.free, I0.freeC, I0.pin, I0.hok, I0.len⟩
  refine wpAny_mono (deriv.run [] s1 (start N vs) H _ I read) (fun flow s' ends => ?_) fun _ _ q => q
  have done : ∀ {σ2 : L2.St} {H2 : Hp} {v : V} {u : Value}, Inv (cxU P w K mg base N qual (defScope st) f cdv A outer s H E) [] σ2 H2 s' → RelV v u → Q v H2 → CE outer P w H s Q u s' := by
    intro σ2 H2 v u J rel q
    exact ⟨v, H2, J.os, J.bare, J.base, J.hok, rel, q⟩
  match flow, ends with
  | .ret u, ends =>
    obtain ⟨v, σ2, H2, J, rel, q⟩ := ends
    exact done J rel q
  | .next, ends =>
    obtain ⟨σ2, H2, J, q⟩ := ends
    exact done (v := V.non) (u := Value.none) J rfl q
  | .brk, ends =>
    obtain ⟨_, _, _, q⟩ := ends
    exact q.elim
  | .cont, ends =>
    obtain ⟨_, _, _, q⟩ := ends
    exact q.elim
end
section
variable {X : Cx} {k : Nat} {f : Addr} {fd : FuncData} {ps : List Str} {sp : Sp} {E : XK} {x : Str} {p pos : Pos} {e : Expr} {es : List Expr} {t : TA}
theorem pe_callU (F : FnU X.prog X.w X.K X.mg X.base k f fd ps sp) (hr : L2H.RoomH k X.A) (hg : Gl X x) (hm : X.mg x = some (.ref f)) (hk : PySem.W.keepIn X.K (.ref f) = true) (hb : Binds X.K fd ps []) (hx : Passes CX0 X E)
    (ha : PA X (e :: es) t) (hdb : (x == ("__debug__" : Str)) = false := by decide) (he : starEach (e :: es) X.env = (false, eval e X.env) :: starEach es X.env := by rfl) (hpl : (backTo pos (starEach es X.env)).any (·.1) = false := by rfl) :
    PE X (.Call (.Name x p) (e :: es) [] pos) (tCall sp [] E t) := by
  constructor
  intro pins s σ H Q I h
  have args := ha.run pos pins s σ H _ I h
  refine wpAny_Call_Name_kw (ld_glob I hg hm (PySem.W.callWith_K (h₀ := X.base) I.ok.mod.kin hk (thn args ?_) he hpl) hdb)
  rintro us s1 ⟨vs, H1, I1, r, q⟩
  rw [List.append_nil] at q
  refine ⟨I1.kIn, ?_⟩
  have many : (us ++ []).length = ps.length := by rw [List.append_nil]; exact r.length.symm.trans (F.size _ _ _ _ q)
  have bs := hb s1 us I1.kIn many
  rw [List.append_nil] at bs
  have run := F.go X.A X.stack s1 H1 ⟨us, []⟩ us vs Q E hr I1.env0 bs r q
  refine wpAny_call (codeAny_mono run fun res s' z => ?_)
  match res, z with
  | .error err, z => exact hx pins σ H1 s1 err s' I1 z
  | .ok (.ret u), z => exact I1.after z
end
end BC
namespace BC
open PySem PySem.Spec PyProof.Rows L2
theorem roomM {k : Nat} {A : Around} {v : Option Value} (r : L2H.RoomH k A) : L2H.RoomH k (A.mark v) := ⟨r.dp, r.un⟩
/-- own classes ahead of ValueError's -/
def MroIs (K : PySem.W.Frag) (C : Addr) (l : List Addr) : Prop := ∃ cd, PySem.W.clsIn K C = some cd ∧ cd.mro = l.map Value.ref ++ HandSPX.veTail
theorem own_has {l : List Addr} {D : Addr} : (l.map Value.ref ++ HandSPX.veTail).contains (.ref D) = decide (D ∈ l) := by
  induction l with
  | nil => rfl
  | cons a l ih =>
    rw [List.map_cons, List.cons_append, List.contains_cons, ih]
    by_cases e : D = a
    · subst e; simp
    · have : (Value.ref D == Value.ref a) = false := by simpa using e
      rw [this, Bool.false_or]
      simp [e]
theorem mro_sub {K : PySem.W.Frag} {C : Addr} {l : List Addr} (m : MroIs K C l) (v : Value) : PySem.W.subIn K (.ref C) v = some ((l.map Value.ref ++ HandSPX.veTail).contains v) := by
  obtain ⟨cd, h1, h2⟩ := m
  show PySem.W.mroIn K C v = _
  unfold PySem.W.mroIn
  rw [h1]
  show (if cd.mro.isEmpty = true then none else some (cd.mro.contains v)) = _
  rw [h2, if_neg (by cases l <;> simp [HandSPX.veTail])]
/-- isinstance of own exceptions, among each other -/
theorem kit_own {K : PySem.W.Frag} {C D : Addr} {l l2 : List Addr} (m : MroIs K C l) (m2 : MroIs K D l2) (t : PySem.W.typeIn K (.ref D) = some (.type "type")) (hC : C ∈ l) : PySem.W.kitOne K (.ref C) (.ref D) = some (decide (D ∈ l)) := by
  unfold PySem.W.kitOne
  by_cases e : C = D
  · subst e
    rw [if_pos (by simp), decide_eq_true hC]
  · have : (Value.ref C == Value.ref D) = false := by simpa using e
    rw [this, if_neg Bool.false_ne_true]
    obtain ⟨cd2, k1, _⟩ := id m2
    show (if ((PySem.W.clsIn K D).isSome && PySem.W.typeIn K (.ref D) == some (.type "type")) = true then PySem.W.subIn K (.ref C) (.ref D) else none) = _
    rw [k1, t, if_pos (by rfl), mro_sub m, own_has]
theorem kit_ve {K : PySem.W.Frag} {C : Addr} {l : List Addr} (m : MroIs K C l) : PySem.W.kitOne K (.ref C) (.type "ValueError") = some true := by
  unfold PySem.W.kitOne
  rw [if_neg (by simp)]
  show (if PySem.W.kitMeta "ValueError" = true then PySem.W.subIn K (.ref C) (.type "ValueError") else none) = _
  rw [if_pos (by decide +kernel), mro_sub m]
  congr 1
  clear m
  induction l with
  | nil => rfl
  | cons a l ih => rw [List.map_cons, List.cons_append, List.contains_cons, ih, Bool.or_true]
/-- an own class in an except clause -/
theorem exm_own {K : PySem.W.Frag} {C D : Addr} {l : List Addr} (m : MroIs K C l) (e : ExcC K D) (t : PySem.W.typeIn K (.ref D) = some (.type "type")) : PySem.W.exmOne K (.ref C) (.ref D) = some (decide (D ∈ l)) :=
  PySem.W.exm_ref e.hs e.hd t (by rw [mro_sub m, own_has])
theorem exm_yes {K : PySem.W.Frag} {C D : Addr} {l : List Addr} (m : MroIs K C l) (e : ExcC K D) (t : PySem.W.typeIn K (.ref D) = some (.type "type")) (h : D ∈ l) : PySem.W.exmOne K (.ref C) (.ref D) = some true := by rw [exm_own m e t, decide_eq_true h]
theorem kitAny_cons' {K : PySem.W.Frag} {t c : Value} {cs : List Value} {b r : Bool} (h : PySem.W.kitOne K t c = some b) (hr : PySem.W.kitAny K t cs = some r) : PySem.W.kitAny K t (c :: cs) = some (b || r) := by
  unfold PySem.W.kitAny
  rw [h]
  cases b with
  | true => rfl
  | false => rw [Bool.false_or]; exact hr
section
variable {σ : L2.St} {H : Hp} {Q : VK} {t : TA} {sp : Sp} {E : L2.St → XK}
theorem x_callS : tCallS sp E t σ H Q = t σ H fun vs H1 => sp vs H1 Q (E σ) := rfl
end
end BC

set_option Elab.async false
set_option linter.all false
set_option maxRecDepth 100000
set_option maxHeartbeats 4000000
/-! an own object is called -/
namespace BC
open PySem PySem.Spec PySem.Calls PyProof.Rows L2 Evl
section
variable {M : Model} {A : Around} {E : Value → Shared → Prop} {s : Shared} {env : Env} {pos : Pos} {x : Addr} {first : List Value} {Q : Value → Shared → Prop}
theorem callWith_own {args : List (Bool × Sem Value)} {keywords : List (Option Str × Sem Value)} (hplain : (args.any (·.1) || keywords.any (·.1.isNone)) = false)
    (h : wpAny M A (evalArgs (.ref x) true args keywords) (fun a s₁ => (∃ C ox od, PySem.W.InstAt s₁.heap x ox C od ∧ ox.data = .plain) ∧ wpAny M A (call (.ref x) (first ++ a.pos) a.kw) Q E s₁) E s) : wpAny M A (callWith pos (.ref x) first args keywords) Q E s := by
  unfold callWith
  refine wpAny_bind (wpAny_holding (wpAny_mono h (fun a s₁ h₁ => wpAny_bind (wpAny_standAt ?_)) fun _ _ y => y))
  obtain ⟨⟨C, ox, od, J, hd⟩, h2⟩ := h₁
  have L := PySem.W.kco_keeper (M := M) J hd
  simp only [hplain]
  refine wpAny_bind (L.here ?_)
  have tail : ∀ {t : Sem Value}, wpAny M A t Q E s₁ → wpAny M A (t >>= fun r => holding [r] point >>= fun _ => pure r) Q E s₁ :=
    fun ht => wpAny_bind (wpAny_mono ht (fun r s₂ hr => wpAny_bind (wpAny_holding (wpAny_point (wpAny_pure hr)))) fun _ _ y => y)
  exact tail (wpAny_operateT h2)
end
section
variable {X : Cx} {CX : CXT} {k : Nat} {f C a : Addr} {fd : FuncData} {ps ks : List Str} {sp : Sp} {E : XK} {x : Str} {p pos : Pos} {e : Expr} {es : List Expr} {kws : List Keyword} {tf : TE} {t tk : TA} {dvs : List V} {ds : List Value}
  {g : List Value → List Value → List Value} {gV : List V → List V → List V}
theorem inst_of {pins : List (Addr × Obj)} {σ : L2.St} {H : Hp} {s : Shared} (I : Inv X pins σ H s) {dx : Addr} {fs : List (Str × V)} (ea : H a = some (.ins C dx fs)) : ∃ ox od, PySem.W.InstAt s.heap a ox C od ∧ ox.data = .plain := by
  obtain ⟨mA, O, _, _, _, _⟩ := ins_get I.hok ea
  obtain ⟨od, J, _⟩ := O.look
  exact ⟨_, od, J, rfl⟩
structure CallOf (K : PySem.W.Frag) (C f : Addr) : Prop where
  hs : PySem.W.findIn K (.ref C) "__call__" = some (some (.ref f))
  hf : PySem.W.isFn K (.ref f) = true
  fn : PySem.W.fnIn K f = true
theorem run_own {pins : List (Addr × Obj)} {σ : L2.St} {H : Hp} {s : Shared} {Q : VK} {us : List Value} {vs : List V} (co : CallOf X.K C f) (F : FnOk X.prog X.w X.K X.mg X.base CX k f fd ps sp) (hr : Room k X.A) (hb : Binds X.K fd ps ds) (hd : Vals dvs ds) (hx : Passes CX X E)
    (I : Inv X pins σ H s) {dx : Addr} {fs : List (Str × V)} (ea : H a = some (.ins C dx fs)) (r : Vals vs us) (h : sp (.ref a :: (vs ++ dvs)) H Q E) : wpAny (model X.prog X.w) X.A (call (.ref a) us) (EP X pins σ Q) X.xe s := by
  obtain ⟨ox, od, J, hdt⟩ := inst_of I ea
  have r2 : Vals ((.ref a :: vs) ++ dvs) ((.ref a :: us) ++ ds) := Vals.append (.cons rfl r) hd
  have hl : ((.ref a :: us) ++ ds).length = ps.length := by rw [← r2.length]; exact F.len _ _ _ _ h
  refine wpAny_call (PySem.W.kco_code I.kIn J hdt co.hs co.hf co.fn ?_)
  refine codeAny_mono (F.run X.A X.stack s H ⟨.ref a :: us, []⟩ ((.ref a :: us) ++ ds) ((.ref a :: vs) ++ dvs) Q E hr I.env0 (hb s (.ref a :: us) I.kIn hl) r2 h) fun r s' hq => ?_
  cases r with
  | error e => exact hx pins σ H s e s' I hq
  | ok fl =>
    cases fl with
    | ret u => exact I.after hq
    | next => exact False.elim hq
    | brk => exact False.elim hq
    | cont => exact False.elim hq
theorem run_ownk {pins : List (Addr × Obj)} {σ : L2.St} {H : Hp} {s : Shared} {Q : VK} {us ws : List Value} {vs zs : List V} (co : CallOf X.K C f) (F : FnOk X.prog X.w X.K X.mg X.base CX k f fd ps sp) (hr : Room k X.A) (hb : KBinds X.K fd ps ks g gV) (hx : Passes CX X E)
    (I : Inv X pins σ H s) {dx : Addr} {fs : List (Str × V)} (ea : H a = some (.ins C dx fs)) (r : Vals vs us) (rz : Vals zs ws) (h : sp (gV (.ref a :: vs) zs) H Q E) : wpAny (model X.prog X.w) X.A (call (.ref a) us (ks.zip ws)) (EP X pins σ Q) X.xe s := by
  obtain ⟨ox, od, J, hdt⟩ := inst_of I ea
  have r2 := hb.rel (vs := .ref a :: vs) (us := .ref a :: us) (.cons rfl r) rz
  have hl : (g (.ref a :: us) ws).length = ps.length := by rw [← r2.length]; exact F.len _ _ _ _ h
  refine wpAny_call (PySem.W.kco_code I.kIn J hdt co.hs co.hf co.fn ?_)
  refine codeAny_mono (F.run X.A X.stack s H ⟨.ref a :: us, ks.zip ws⟩ (g (.ref a :: us) ws) (gV (.ref a :: vs) zs) Q E hr I.env0 (hb.to s (.ref a :: us) ws I.kIn hl) r2 h) fun r s' hq => ?_
  cases r with
  | error e => exact hx pins σ H s e s' I hq
  | ok fl =>
    cases fl with
    | ret u => exact I.after hq
    | next => exact False.elim hq
    | brk => exact False.elim hq
    | cont => exact False.elim hq
/-- o(e, ..) by the class's own __call__ -/
def tCallO (C : Addr) (sp : Sp) (dvs : List V) (E : XK) (tf : TE) (t : TA) : TE := fun σ H Q => tf σ H fun x H1 => ∃ a, x = .ref a ∧ t σ H1 fun vs H2 => (∃ dx fs, H2 a = some (.ins C dx fs)) ∧ sp (.ref a :: (vs ++ dvs)) H2 Q E
def tCallOK (C : Addr) (sp : Sp) (gV : List V → List V → List V) (E : XK) (tf : TE) (tk : TA) : TE := fun σ H Q => tf σ H fun x H1 => ∃ a, x = .ref a ∧ tk σ H1 fun zs H2 => (∃ dx fs, H2 a = some (.ins C dx fs)) ∧ sp (gV [.ref a] zs) H2 Q E
theorem pe_callO (hf : PE X (.Name x p) tf) (co : CallOf X.K C f) (F : FnOk X.prog X.w X.K X.mg X.base CX k f fd ps sp) (hr : Room k X.A) (hb : Binds X.K fd ps ds) (hd : Vals dvs ds) (hx : Passes CX X E) (ha : PA X (e :: es) t)
    (he : starEach (e :: es) X.env = (false, eval e X.env) :: starEach es X.env := by rfl) (hpl : (backTo pos (starEach es X.env)).any (·.1) = false := by rfl) : PE X (.Call (.Name x p) (e :: es) [] pos) (tCallO C sp dvs E tf t) := by
  refine ⟨fun pins s σ H Q I h => ?_⟩
  refine wpAny_Call_Name_kw (thn (hf.run pins s σ H _ I h) fun u s1 ⟨c, H1, I1, rc, a, ec, q1⟩ => ?_)
  subst ec
  obtain rfl : u = Value.ref a := rc
  have hh := thn (ha.run pos pins s1 σ H1 _ I1 q1) (Q' := fun vs s₁ => (∃ C ox od, PySem.W.InstAt s₁.heap a ox C od ∧ ox.data = .plain) ∧ wpAny (model X.prog X.w) X.A (call (.ref a) ([] ++ vs)) (EP X pins σ Q) X.xe s₁) fun us s2 ⟨vs, H2, I2, r, ⟨dx, fs, ea⟩, q2⟩ => by
    obtain ⟨ox, od, J, hdt⟩ := inst_of I2 ea
    exact ⟨⟨C, ox, od, J, hdt⟩, run_own co F hr hb hd hx I2 ea r q2⟩
  rw [he] at hh ⊢
  exact callWith_own (by show ((false || (backTo pos (starEach es X.env)).any (·.1)) || false) = false; rw [hpl]; rfl) (evalArgs_plain hh)
theorem pe_callOK0 (hf : PE X (.Name x p) tf) (co : CallOf X.K C f) (F : FnOk X.prog X.w X.K X.mg X.base CX k f fd ps sp) (hr : Room k X.A) (hb : KBinds X.K fd ps ks g gV) (hx : Passes CX X E) (hkw : PK X kws tk)
    (hall : (backToKw pos (keywordEach kws X.env)).all (·.1.isSome) = true := by rfl) (hks : (backToKw pos (keywordEach kws X.env)).filterMap (·.1) = ks := by rfl)
    (hpl : ((backTo pos (starEach [] X.env)).any (·.1) || (backToKw pos (keywordEach kws X.env)).any (·.1.isNone)) = false := by rfl) : PE X (.Call (.Name x p) [] kws pos) (tCallOK C sp gV E tf tk) := by
  refine ⟨fun pins s σ H Q I h => ?_⟩
  refine wpAny_Call_Name_kw (thn (hf.run pins s σ H _ I h) fun u s1 ⟨c, H1, I1, rc, a, ec, q1⟩ => ?_)
  subst ec
  obtain rfl : u = Value.ref a := rc
  have hh := thn (hkw.run pos pins s1 σ H1 _ I1 q1) (Q' := fun ws s₁ => (∃ C ox od, PySem.W.InstAt s₁.heap a ox C od ∧ ox.data = .plain) ∧ wpAny (model X.prog X.w) X.A (call (.ref a) ([] ++ []) (((backToKw pos (keywordEach kws X.env)).filterMap (·.1)).zip ws)) (EP X pins σ Q) X.xe s₁) fun ws s2 ⟨zs, H2, I2, rz, ⟨dx, fs, ea⟩, q2⟩ => by
    obtain ⟨ox, od, J, hdt⟩ := inst_of I2 ea
    refine ⟨⟨C, ox, od, J, hdt⟩, ?_⟩
    rw [hks]
    exact run_ownk (us := []) (vs := []) co F hr hb hx I2 ea .nil rz q2
  exact callWith_own hpl (evalArgs_kw2_nil hall hh)
theorem x_callO {σ : L2.St} {H : Hp} {Q : VK} : tCallO C sp dvs E tf t σ H Q = tf σ H (fun x H1 => ∃ a, x = .ref a ∧ t σ H1 fun vs H2 => (∃ dx fs, H2 a = some (.ins C dx fs)) ∧ sp (.ref a :: (vs ++ dvs)) H2 Q E) := rfl
theorem x_callOK {σ : L2.St} {H : Hp} {Q : VK} : tCallOK C sp gV E tf tk σ H Q = tf σ H (fun x H1 => ∃ a, x = .ref a ∧ tk σ H1 fun zs H2 => (∃ dx fs, H2 a = some (.ins C dx fs)) ∧ sp (gV [.ref a] zs) H2 Q E) := rfl
end
end BC

set_option Elab.async false
set_option linter.all false
set_option maxRecDepth 100000
set_option maxHeartbeats 4000000
/-! visits behind a trail: page by page, and by the exits -/
namespace EF
open PySem PySem.Spec PyProof.Rows L2 BC TR
/-- from a page along its exits -/
def ch : List Int → Int → List Int
  | [], _ => []
  | a :: r, p => if p ∈ r then ch r p else if p = a then a :: (match r with | [] => [] | b :: _ => ch r b) else []
/-- one more page -/
def st : List Int → Int → List Int
  | [], a => [a]
  | p :: P, a => if p = a then [a] else p :: st P a
def play (P : List Int) : List Int → List Int
  | [] => P
  | a :: r => play (st P a) r
/-- by the effect -/
def ef (row : List Int) : List Int → List Int
  | [] => match row with
    | [] => []
    | b :: _ => ch row b
  | p :: P => if p ∈ row then ch row p else p :: ef row P
theorem ch_self (a : Int) (r : List Int) (h : a ∉ r) : ch (a :: r) a = a :: ef r [] := by
  show (if a ∈ r then _ else if a = a then _ else _) = _
  rw [if_neg h, if_pos rfl]
  cases r <;> rfl
theorem ch_in {a p : Int} {r : List Int} (h : p ∈ r) : ch (a :: r) p = ch r p := by
  show (if p ∈ r then _ else _) = _
  rw [if_pos h]
theorem ef_one (a : Int) (r : List Int) : ef r [a] = ch (a :: r) a := by
  show (if a ∈ r then _ else _) = _
  by_cases h : a ∈ r
  · rw [if_pos h, ch_in h]
  · rw [if_neg h, ch_self a r h]
theorem ef_st (a : Int) (r : List Int) : ∀ P : List Int, ef r (st P a) = ef (a :: r) P
  | [] => by
    show ef r [a] = ch (a :: r) a
    exact ef_one a r
  | p :: P => by
    by_cases e : p = a
    · subst e
      show ef r (if p = p then _ else _) = if p ∈ p :: r then _ else _
      rw [if_pos rfl, if_pos List.mem_cons_self]
      exact ef_one p r
    · show ef r (if p = a then _ else p :: st P a) = if p ∈ a :: r then _ else p :: ef (a :: r) P
      rw [if_neg e]
      show (if p ∈ r then _ else p :: ef r (st P a)) = _
      by_cases h : p ∈ r
      · rw [if_pos h, if_pos (List.mem_cons_of_mem _ h), ch_in h]
      · rw [if_neg h, if_neg (fun m => (List.mem_cons.mp m).elim e h), ef_st a r P]
theorem play_ef : ∀ (row P : List Int), play P row = ef row P
  | [], P => by
    show P = ef [] P
    induction P with
    | nil => rfl
    | cons p P ih =>
      show p :: P = if p ∈ [] then _ else p :: ef [] P
      rw [if_neg List.not_mem_nil, ← ih]
  | a :: r, P => by
    show play (st P a) r = _
    rw [play_ef r, ef_st]
/-- the next page of the way -/
theorem ch_next : ∀ {row : List Int} {p y : Int}, nx row p = some y → (y = p → ch row p = [p]) ∧ (y ≠ p → ch row p = p :: ch row y)
  | a :: r, p, y, h => by
    cases e : nx r p with
    | some z =>
      rw [nx_some e] at h
      cases h
      obtain ⟨hp, hy⟩ := mem_nx e
      rw [ch_in hp, ch_in hy]
      exact ch_next e
    | none =>
      have hp : p ∉ r := fun m => by
        obtain ⟨z, hz⟩ := nx_mem m
        rw [e] at hz
        cases hz
      rw [nx_none e] at h
      split at h
      · next q =>
        subst q
        cases h
        rw [ch_self a r hp]
        cases r with
        | nil => exact ⟨fun _ => rfl, fun n => absurd rfl n⟩
        | cons b r' =>
          have ab : ¬ b = a := fun z => hp (by rw [z]; exact List.mem_cons_self)
          refine ⟨fun z => absurd z ab, fun _ => ?_⟩
          show a :: ch (b :: r') b = a :: ch (a :: b :: r') b
          rw [ch_in List.mem_cons_self]
      · cases h
theorem ch_hd {row : List Int} {p y : Int} (h : nx row p = some y) : ∃ t, ch row p = p :: t := by
  obtain ⟨h1, h2⟩ := ch_next h
  by_cases e : y = p
  · exact ⟨_, h1 e⟩
  · exact ⟨_, h2 e⟩
theorem ch_len : ∀ (row : List Int) (p : Int), (ch row p).length ≤ row.length
  | [], _ => Nat.le_refl _
  | a :: r, p => by
    show (if p ∈ r then _ else if p = a then _ else _ : List Int).length ≤ _
    split
    · exact Nat.le_trans (ch_len r p) (Nat.le_succ _)
    · split
      · cases r with
        | nil => exact Nat.le_refl _
        | cons b r' => exact Nat.succ_le_succ (ch_len (b :: r') b)
      · exact Nat.zero_le _
theorem ch_pg : ∀ {row : List Int} {p : Int}, ∀ x ∈ ch row p, x ∈ row
  | a :: r, p, x, h => by
    have h' := h
    unfold ch at h'
    split at h'
    · exact List.mem_cons_of_mem _ (ch_pg x h')
    · split at h'
      · rcases List.mem_cons.mp h' with rfl | h'
        · exact List.mem_cons_self
        · cases r with
          | nil => cases h'
          | cons b r' => exact List.mem_cons_of_mem _ (ch_pg x h')
      · cases h'
/-- the first page of the trail that is left, and what comes then -/
theorem ef_at {row : List Int} : ∀ {P : List Int} {i : Nat} {p : Int}, (∀ q ∈ P.take i, q ∉ row) → P[i]? = some p → p ∈ row → ef row P = P.take i ++ ch row p
  | [], _, _, _, h, _ => by cases h
  | q :: P, 0, p, _, h, hp => by
    have : q = p := by simpa using h
    subst this
    show (if q ∈ row then _ else _) = _
    rw [if_pos hp]
    rfl
  | q :: P, i + 1, p, h0, h, hp => by
    have hq : q ∉ row := h0 q (by rw [List.take_succ_cons]; exact List.mem_cons_self)
    show (if q ∈ row then _ else q :: ef row P) = _
    rw [if_neg hq, ef_at (fun x hx => h0 x (by rw [List.take_succ_cons]; exact List.mem_cons_of_mem _ hx)) (by simpa using h) hp]
    rfl
theorem ef_no {row : List Int} : ∀ {P : List Int}, (∀ q ∈ P, q ∉ row) → ef row P = P ++ ef row []
  | [], _ => rfl
  | q :: P, h => by
    show (if q ∈ row then _ else q :: ef row P) = _
    rw [if_neg (h q List.mem_cons_self), ef_no fun x hx => h x (List.mem_cons_of_mem _ hx)]
    rfl
/-- one more page, by its place -/
theorem st_no {a : Int} : ∀ {P : List Int}, a ∉ P → st P a = P ++ [a]
  | [], _ => rfl
  | p :: P, h => by
    rw [List.mem_cons, not_or] at h
    show (if p = a then _ else p :: st P a) = _
    rw [if_neg (fun z => h.1 z.symm), st_no h.2]
    rfl
theorem st_at {a : Int} : ∀ {P : List Int} {j : Nat}, P[j]? = some a → (∀ m, m < j → ∀ z, P[m]? = some z → z ≠ a) → st P a = P.take (j + 1)
  | [], _, h, _ => by cases h
  | p :: P, 0, h, _ => by
    have : p = a := by simpa using h
    subst this
    show (if p = p then _ else _) = _
    rw [if_pos rfl]
    rfl
  | p :: P, j + 1, h, h0 => by
    have hp : p ≠ a := h0 0 (by omega) p rfl
    show (if p = a then _ else p :: st P a) = _
    rw [if_neg hp, st_at (P := P) (j := j) (by simpa using h) fun m hm z hz => h0 (m + 1) (by omega) z (by simpa using hz)]
    rfl
theorem st_len (P : List Int) (a : Int) : (st P a).length ≤ P.length + 1 := by
  induction P with
  | nil => exact Nat.le_refl _
  | cons p P ih =>
    show (if p = a then _ else p :: st P a : List Int).length ≤ _
    split
    · simp
    · rw [List.length_cons, List.length_cons]; omega
theorem st_mem {P : List Int} {a : Int} : ∀ x ∈ st P a, x ∈ P ∨ x = a := by
  induction P with
  | nil => intro x h; exact .inr (List.mem_singleton.mp h)
  | cons p P ih =>
    intro x h
    have h' : x ∈ (if p = a then [a] else p :: st P a) := h
    split at h'
    · exact .inr (List.mem_singleton.mp h')
    · rcases List.mem_cons.mp h' with rfl | h'
      · exact .inl List.mem_cons_self
      · exact (ih x h').imp (List.mem_cons_of_mem _) id
theorem st_nodup {P : List Int} {a : Int} (h : P.Nodup) : (st P a).Nodup := by
  induction P with
  | nil => simp [st]
  | cons p P ih =>
    rw [List.nodup_cons] at h
    show (if p = a then [a] else p :: st P a : List Int).Nodup
    split
    · simp
    · next ne =>
      rw [List.nodup_cons]
      refine ⟨fun m => ?_, ih h.2⟩
      rcases st_mem p m with m | m
      · exact h.1 m
      · exact ne m
theorem play_ok : ∀ (row : List Int) {P : List Int}, P.Nodup → Pg 40 P → Pg 40 row → (play P row).Nodup ∧ Pg 40 (play P row)
  | [], P, h, hp, _ => ⟨h, hp⟩
  | a :: r, P, h, hp, hr => play_ok r (st_nodup h) (fun x hx => (st_mem x hx).elim (fun m => hp x m) fun e => by rw [e]; exact hr a List.mem_cons_self) fun x hx => hr x (List.mem_cons_of_mem _ hx)
theorem pg_len {P : List Int} (h : P.Nodup) (hp : Pg 40 P) : P.length ≤ 40 := by
  have h1 : P.Perm ((List.range 40).map (fun i : Nat => (i : Int)) |>.filter (· ∈ P)) := by
    rw [List.perm_ext_iff_of_nodup h ?_]
    · intro x
      rw [List.mem_filter]
      constructor
      · intro m
        have := hp x m
        exact ⟨List.mem_map.mpr ⟨x.toNat, List.mem_range.mpr (by omega), by omega⟩, decide_eq_true m⟩
      · intro m
        exact of_decide_eq_true m.2
    · refine List.Pairwise.filter _ ?_
      rw [List.pairwise_map]
      exact List.pairwise_lt_range.imp fun h => by omega
  rw [h1.length_eq]
  refine Nat.le_trans (List.length_filter_le _ _) ?_
  rw [List.length_map, List.length_range]
  exact Nat.le_refl _
end EF

set_option Elab.async false
set_option linter.all false
set_option maxRecDepth 100000
set_option maxHeartbeats 4000000
/-! own objects: ==, !=, in, + -/
namespace BC
open PySem PySem.Spec PySem.Calls PyProof.Rows L2 Evl
theorem looks_of {X : Cx} {pins : List (Addr × Obj)} {σ : L2.St} {H : Hp} {s : Shared} {y : V} {u t : Value} (I : Inv X pins σ H s) (ry : RelV y u) (ty : TyX X.K H y t) (M : Model) : PySem.W.Looks M s.heap (typeOf u) t := by
  obtain ⟨P, Z, p, _⟩ := kit_of I ry ty
  exact Z.ty M s.heap I.kIn p
section
variable {X : Cx} {CX : CXT} {k : Nat} {f C : Addr} {fd : FuncData} {ps : List Str} {sp : Sp} {E : XK}
def rEqO (K : PySem.W.Frag) (C : Addr) (sp : Sp) (E : XK) : R2 := fun x y H Q => ∃ a dx fs t, x = .ref a ∧ H a = some (.ins C dx fs) ∧ TyX K H y t ∧ PySem.W.notFirst K C t = true ∧ sp [.ref a, y] H (fun v H' => ∃ b : Bool, v = .bl b ∧ Q (.bl b) H') E
theorem op_eqO (hs : PySem.W.findIn X.K (.ref C) "__eq__" = some (some (.ref f))) (hf : PySem.W.isFn X.K (.ref f) = true) (F : FnOk X.prog X.w X.K X.mg X.base CX k f fd ps sp) (hr : Room k X.A) (hu : X.A.units + 64 < cLine) (hb : Binds X.K fd ps []) (hx : Passes CX X E) : OpR X (compareOp .Eq) (rEqO X.K C sp E) := by
  intro pins s σ H x y v u Q I rx ry h
  obtain ⟨a, dx, fs, t, rfl, ea, ty, nf, h⟩ := h
  obtain rfl : v = Value.ref a := rx
  obtain ⟨ox, od, J, hdt⟩ := inst_of I ea
  obtain ⟨m, hF⟩ := I.fr
  refine PySem.W.cmp_K (op := .Eq) (by omega) hF I.ok.mod.kin J (looks_of I ry ty _) nf hs hf ?_
  refine thn (run_fn F hr hb .nil hx I (us := [.ref a, u]) (vs := [.ref a, y]) (.cons rfl (.cons ry .nil)) h) fun r s' hq => ?_
  obtain ⟨v', H', I', rv, b, rfl, q⟩ := hq
  obtain rfl : r = Value.bool b := rv
  exact ⟨.bl b, H', I', rfl, q⟩
def rInO (C : Addr) (sp : Sp) (E : XK) : R2 := fun x y H Q => ∃ a dx fs, y = .ref a ∧ H a = some (.ins C dx fs) ∧ sp [.ref a, x] H (fun v H' => ∃ b : Bool, v = .bl b ∧ Q (.bl b) H') E
theorem op_inO (hs : PySem.W.findIn X.K (.ref C) "__contains__" = some (some (.ref f))) (hf : PySem.W.isFn X.K (.ref f) = true) (F : FnOk X.prog X.w X.K X.mg X.base CX k f fd ps sp) (hr : Room k X.A) (hb : Binds X.K fd ps []) (hx : Passes CX X E) : OpR X (compareOp .In) (rInO C sp E) := by
  intro pins s σ H x y v u Q I rx ry h
  obtain ⟨a, dx, fs, rfl, ea, h⟩ := h
  obtain rfl : u = Value.ref a := ry
  obtain ⟨ox, od, J, hdt⟩ := inst_of I ea
  obtain ⟨m, hF⟩ := I.fr
  refine PySem.W.in_K hF I.ok.mod.kin J hs hf ?_
  refine thn (run_fn F hr hb .nil hx I (us := [.ref a, v]) (vs := [.ref a, x]) (.cons rfl (.cons rx .nil)) h) fun r s' hq => ?_
  obtain ⟨v', H', I', rv, b, rfl, q⟩ := hq
  obtain rfl : r = Value.bool b := rv
  show wpAny _ _ (pure b) _ _ _
  exact wpAny_pure ⟨.bl b, H', I', rfl, q⟩
def rAddO (C : Addr) (sp : Sp) (E : XK) : R2 := fun x y H Q => ∃ a b dx fs dx2 fs2, x = .ref a ∧ y = .ref b ∧ H a = some (.ins C dx fs) ∧ H b = some (.ins C dx2 fs2) ∧ sp [.ref a, .ref b] H (fun v H' => ∃ c : Addr, v = .ref c ∧ Q (.ref c) H') E
theorem op_addO (hs : PySem.W.findIn X.K (.ref C) (PySem.dunder Operator.Add.info.2) = some (some (.ref f))) (hf : PySem.W.isFn X.K (.ref f) = true) (sf : PySem.W.selfFirst X.K C = true) (F : FnOk X.prog X.w X.K X.mg X.base CX k f fd ps sp) (hr : Room k X.A) (hb : Binds X.K fd ps []) (hx : Passes CX X E) : OpR X (binaryOp .Add) (rAddO C sp E) := by
  intro pins s σ H x y v u Q I rx ry h
  obtain ⟨a, b, dx, fs, dx2, fs2, rfl, rfl, ea, eb, h⟩ := h
  obtain rfl : v = Value.ref a := rx
  obtain rfl : u = Value.ref b := ry
  obtain ⟨ox, od, J, hdt⟩ := inst_of I ea
  obtain ⟨ox2, od2, J2, hdt2⟩ := inst_of I eb
  obtain ⟨m, hF⟩ := I.fr
  refine PySem.W.binop_K hF I.ok.mod.kin J J2.type sf hs hf ?_
  refine thn (run_fn F hr hb .nil hx I (us := [.ref a, .ref b]) (vs := [.ref a, .ref b]) (.cons rfl (.cons rfl .nil)) h) fun r s' hq => ?_
  obtain ⟨v', H', I', rv, c, rfl, q⟩ := hq
  obtain rfl : r = Value.ref c := rv
  exact ⟨.ref c, H', I', rfl, q⟩
end
/-! ### != by object.__ne__ and the own __eq__ -/
section
open PySem.W
variable {prog : Program} {w : World} {A : Around} {E : Value → Shared → Prop} {s : Shared} {K : Frag} {x C f : Addr} {ox : Obj} {od : Option Obj} {b tb : Value}
theorem ne_body {Q : Bool → Shared → Prop} (hu : A.units < cLine) (X : K.In s.heap) (I : InstAt s.heap x ox C od) (hs : findIn K (.ref C) "__eq__" = some (some (.ref f))) (hf : isFn K (.ref f) = true)
    (h : wpAny (model prog w) A (call (.ref f) [.ref x, b]) (fun r s' => ∃ y : Bool, r = .bool y ∧ Q (!y) s') E s) :
    wpAny (model prog w) A (Builtin.«object.__ne__» ⟨[.ref x, b], []⟩) (fun r s' => ∃ y : Bool, r = Fin.done (.ret (.bool y)) ∧ Q y s') E s := by
  unfold Builtin.«object.__ne__»
  refine wpAny_bind (wpAny_of_eq (a := ((Value.ref x : Value), [b])) (by first | rfl | (simp only [slotArgs]; rfl)) ?_)
  refine wpAny_bind (wpAny_cRoomFor hu ?_)
  refine wpAny_bind (ifBound_K X I hs hf (wpAny_mono h (fun r s' hr => ?_) fun _ _ e => e))
  obtain ⟨y, rfl, q⟩ := hr
  show wpAny _ _ (pure (Fin.done (.ret (.bool (!y)))) : Sem Fin) _ _ _
  exact wpAny_pure ⟨!y, rfl, q⟩
theorem ne_call {Q : Bool → Shared → Prop} (hu : A.in1.units < cLine) (X : K.In s.heap) (I : InstAt s.heap x ox C od) (ho : subIn K (.ref C) (.type "object") = some true) (hs : findIn K (.ref C) "__eq__" = some (some (.ref f))) (hf : isFn K (.ref f) = true)
    (h : wpAny (model prog w) A.in1 (call (.ref f) [.ref x, b]) (fun r s' => ∃ y : Bool, r = .bool y ∧ Q (!y) s') E s) :
    wpAny (model prog w) A (call (.builtin "object.__ne__") [.ref x, b]) (fun r s' => ∃ y : Bool, r = .bool y ∧ Q y s') E s := by
  have sub : Looks (model prog w) s.heap (isInstance (.ref x) (.type "object")) true := I.type.andThen (looks_subIn X ho)
  refine wpAny_call (codeAny_call_builtin PySem.F.cmp_object.ne.plain PySem.F.cmpEntry_ne (check_slot PySem.F.cmpKind_ne PySem.F.cmpSplit_ne sub (PySem.F.cmpArgs_ne _ _) ?_))
  refine wpAny_mono (ne_body hu X I hs hf h) (fun r s' hr => ?_) fun _ _ e => e
  obtain ⟨y, rfl, q⟩ := hr
  exact ⟨y, rfl, q⟩
theorem ne_try {Q : Bool → Shared → Prop} (hu : A.in1.units < cLine) (X : K.In s.heap) (I : InstAt s.heap x ox C od) (ho : subIn K (.ref C) (.type "object") = some true) (hne : findIn K (.ref C) "__ne__" = some (some (.builtin "object.__ne__"))) (hs : findIn K (.ref C) "__eq__" = some (some (.ref f))) (hf : isFn K (.ref f) = true)
    (h : wpAny (model prog w) A.in1 (call (.ref f) [.ref x, b]) (fun r s' => ∃ y : Bool, r = .bool y ∧ Q (!y) s') E s) :
    wpAny (model prog w) A (tryCompare (.ref x) "__ne__" b) (fun r s' => ∃ y : Bool, r = some (.bool y) ∧ Q y s') E s := by
  unfold tryCompare
  refine wpAny_bind (wpAny_mono (Q := fun r s' => ∃ y : Bool, r = some (.bool y) ∧ Q y s') ?_ (fun r s' hr => ?_) fun _ _ e => e)
  · simp only [callSpecialIfBound?, bindSpecialIfBound?]
    refine wpAny_holding (wpAny_bind (wpAny_bind (wpAny_bind (I.type.here ((looks_findIn X hne).here ?_)))))
    simp only [PySem.F.cmp_object.ne.bind]
    refine wpAny_bind (wpAny_askSetting (wpAny_ite ?_))
    have fin : wpAny (model prog w) A (call (.builtin "object.__ne__") ([.ref x] ++ [b]) >>= fun v => pure (some v)) (fun r s' => ∃ y : Bool, r = some (.bool y) ∧ Q y s') E s :=
      wpAny_bind (wpAny_mono (ne_call hu X I ho hs hf h) (fun v s' h' => wpAny_pure (by obtain ⟨y, rfl, q⟩ := h'; exact ⟨y, rfl, q⟩)) fun _ _ h' => h')
    split
    · exact wpAny_bind (wpAny_pure (wpAny_pure fin))
    · exact wpAny_tryCatch (wpAny_bind (wpAny_pure (wpAny_pure fin)))
  · obtain ⟨y, rfl, q⟩ := hr
    exact wpAny_pure ⟨y, rfl, q⟩
theorem ne_own {Q : Value → Shared → Prop} (hu : A.in1.units < cLine) (hu0 : A.units < cLine) (X : K.In s.heap) (I : InstAt s.heap x ox C od) (hb : Looks (model prog w) s.heap (typeOf b) tb) (hn : notFirst K C tb = true)
    (ho : subIn K (.ref C) (.type "object") = some true) (hne : findIn K (.ref C) "__ne__" = some (some (.builtin "object.__ne__"))) (hs : findIn K (.ref C) "__eq__" = some (some (.ref f))) (hf : isFn K (.ref f) = true)
    (h : wpAny (model prog w) A.in1 (call (.ref f) [.ref x, b]) (fun r s' => ∃ y : Bool, r = .bool y ∧ Q (.bool (!y)) s') E s) : wpAny (model prog w) A (richCompare .NotEq (.ref x) b) Q E s := by
  have one := ne_try (Q := fun y s' => Q (.bool y) s') hu X I ho hne hs hf h
  unfold richCompare
  simp only [oneThing_ref]
  refine wpAny_holding (wpAny_bind (wpAny_cRoomFor hu0 ?_))
  refine wpAny_bind (I.type.here (wpAny_bind (hb.here ?_)))
  split
  · rename_i q
    have e : subIn K tb (.ref C) = some false := by
      rcases Bool.or_eq_true_iff.mp hn with e | e
      · rw [beq_iff_eq.mp e] at q; simp at q
      · exact beq_iff_eq.mp e
    refine wpAny_bind ((looks_subIn X e).here ?_)
    simp only [Bool.false_eq_true, if_false]
    refine wpAny_bind (wpAny_mono one (fun r s' z => ?_) fun _ _ e => e)
    obtain ⟨v, rfl, hq⟩ := z
    exact wpAny_pure hq
  · refine wpAny_bind (wpAny_pure ?_)
    simp only [Bool.false_eq_true, if_false]
    refine wpAny_bind (wpAny_mono one (fun r s' z => ?_) fun _ _ e => e)
    obtain ⟨v, rfl, hq⟩ := z
    exact wpAny_pure hq
end
section
variable {X : Cx} {CX : CXT} {k : Nat} {f C : Addr} {fd : FuncData} {ps : List Str} {sp : Sp} {E : XK}
theorem run_fn1 {pins : List (Addr × Obj)} {σ : L2.St} {H : Hp} {s : Shared} {Q : VK} {us : List Value} {vs : List V} (F : FnOk X.prog X.w X.K X.mg X.base CX k f fd ps sp) (hr : Room (k + 1) X.A) (hb : Binds X.K fd ps []) (hx : Passes CX X E)
    (I : Inv X pins σ H s) (r : Vals vs us) (h : sp vs H Q E) : wpAny (model X.prog X.w) X.A.in1 (call (.ref f) us) (EP X pins σ Q) X.xe s := by
  have hl : us.length = ps.length := by rw [← r.length]; exact F.len _ _ _ _ h
  have hl2 : (us ++ ([] : List Value)).length = ps.length := by rw [List.append_nil]; exact hl
  have hb2 := hb s us I.kIn hl2
  rw [List.append_nil] at hb2
  refine wpAny_call (codeAny_mono (F.run X.A.in1 X.stack s H ⟨us, []⟩ us vs Q E hr.in1 I.env0.in1 hb2 r h) fun r s' hq => ?_)
  cases r with
  | error e => exact hx pins σ H s e s' I hq
  | ok fl =>
    cases fl with
    | ret u => exact I.after hq
    | next => exact False.elim hq
    | brk => exact False.elim hq
    | cont => exact False.elim hq
structure NeOf (K : PySem.W.Frag) (C : Addr) : Prop where
  ob : PySem.W.subIn K (.ref C) (.type "object") = some true
  ne : PySem.W.findIn K (.ref C) "__ne__" = some (some (.builtin "object.__ne__"))
theorem op_neO (N : NeOf X.K C) (hs : PySem.W.findIn X.K (.ref C) "__eq__" = some (some (.ref f))) (hf : PySem.W.isFn X.K (.ref f) = true) (F : FnOk X.prog X.w X.K X.mg X.base CX k f fd ps sp) (hr : Room (k + 1) X.A) (hu : X.A.units + 64 < cLine) (hb : Binds X.K fd ps []) (hx : Passes CX X E) : OpR X (compareOp .NotEq) (fun x y H Q => rEqO X.K C sp E x y H fun v H' => ∃ b : Bool, v = .bl b ∧ Q (.bl (!b)) H') := by
  intro pins s σ H x y v u Q I rx ry h
  obtain ⟨a, dx, fs, t, rfl, ea, ty, nf, h⟩ := h
  obtain rfl : v = Value.ref a := rx
  obtain ⟨ox, od, J, hdt⟩ := inst_of I ea
  refine ne_own (by show X.A.units + 1 < cLine; omega) (by omega) I.kIn J (looks_of I ry ty _) nf N.ob N.ne hs hf ?_
  refine thn (run_fn1 F hr hb hx I (us := [.ref a, u]) (vs := [.ref a, y]) (.cons rfl (.cons ry .nil)) h) fun r s' hq => ?_
  obtain ⟨v', H', I', rv, b, rfl, c, hc, q⟩ := hq
  cases hc
  obtain rfl : r = Value.bool b := rv
  exact ⟨b, rfl, .bl (!b), H', I', rfl, q⟩
end
/-- what of the text a class with own operations must have -/
structure ClsO (K : PySem.W.Frag) (C : Addr) : Prop where
  cl : Cls K C
  ha : PySem.W.findIn K (.ref C) "__class__" = some (some (.builtin "object.__class__"))
  hn : PySem.W.specialIn K (.builtin "object.__class__") "__get__" = some (some (.builtin "getset_descriptor.__get__"))
  htk : PySem.W.takesIn K (.builtin "object.__class__") = some true
  hm : PySem.W.mroIn K C (.type "object") = some true
  ic : PySem.W.isClsIn K C = true
  tc : PySem.W.typeIn K (.ref C) = some (.type "type")
  nf_list : PySem.W.notFirst K C (.type "list") = true
  nf_tuple : PySem.W.notFirst K C (.type "tuple") = true
  nf_dict : PySem.W.notFirst K C (.type "dict") = true
  nf_int : PySem.W.notFirst K C (.type "int") = true
  nf_str : PySem.W.notFirst K C (.type "str") = true
  nf_bool : PySem.W.notFirst K C (.type "bool") = true
  nf_NoneType : PySem.W.notFirst K C (.type "NoneType") = true
  sf : PySem.W.selfFirst K C = true
  ob : PySem.W.subIn K (.ref C) (.type "object") = some true
  ne : PySem.W.findIn K (.ref C) "__ne__" = some (some (.builtin "object.__ne__"))
theorem ClsO.me {K : PySem.W.Frag} {C : Addr} (c : ClsO K C) : PySem.W.kitOne K (.ref C) (.ref C) = some true := by simp [PySem.W.kitOne]
theorem ClsO.ki {K : PySem.W.Frag} {C : Addr} (c : ClsO K C) {t : String} (n : PySem.W.notFirst K C (.type t) = true) : PySem.W.kitOne K (.type t) (.ref C) = some false := by
  have hne : ((Value.type t) == Value.ref C) = false := beq_eq_false_iff_ne.mpr (fun z => nomatch z)
  have hs : PySem.W.subIn K (.type t) (.ref C) = some false := by
    unfold PySem.W.notFirst at n
    rw [hne, Bool.false_or] at n
    exact beq_iff_eq.mp n
  have hi : (PySem.W.clsIn K C).isSome = true := c.ic
  unfold PySem.W.kitOne PySem.W.kitCls
  rw [hne, if_neg Bool.false_ne_true]
  simp only [hi, c.tc, beq_self_eq_true, Bool.and_self, if_true]
  exact hs
theorem ClsO.neOf {K : PySem.W.Frag} {C : Addr} (c : ClsO K C) : NeOf K C := ⟨c.ob, c.ne⟩
theorem ClsO.ty {K : PySem.W.Frag} {C : Addr} (c : ClsO K C) {H : Hp} {a dx : Addr} {fs : List (Str × V)} (e : H a = some (.ins C dx fs)) : TyX K H (.ref a) (.ref C) := .base (.ins e c.cl c.ha c.hn c.htk c.hm)
theorem ClsO.self {K : PySem.W.Frag} {C : Addr} : PySem.W.notFirst K C (.ref C) = true := by simp [PySem.W.notFirst]
/-- a value that is no object of the class, its type known -/
def Odd (K : PySem.W.Frag) (C : Addr) (H : Hp) (y : V) : Prop := ∃ t, TyX K H y t ∧ PySem.W.notFirst K C t = true ∧ PySem.W.kitOne K t (.ref C) = some false
theorem Odd.non {K : PySem.W.Frag} {C : Addr} {H : Hp} (c : ClsO K C) : Odd K C H .non := ⟨_, .base .non, c.nf_NoneType, c.ki c.nf_NoneType⟩
theorem Odd.int {K : PySem.W.Frag} {C : Addr} {H : Hp} (c : ClsO K C) (i : Int) : Odd K C H (.int i) := ⟨_, .base (.int i), c.nf_int, c.ki c.nf_int⟩
theorem Odd.bl {K : PySem.W.Frag} {C : Addr} {H : Hp} (c : ClsO K C) (b : Bool) : Odd K C H (.bl b) := ⟨_, .base (.bl b), c.nf_bool, c.ki c.nf_bool⟩
theorem Odd.str {K : PySem.W.Frag} {C : Addr} {H : Hp} (c : ClsO K C) (x : Str) : Odd K C H (.str x) := ⟨_, .base (.str x), c.nf_str, c.ki c.nf_str⟩
theorem Odd.lst {K : PySem.W.Frag} {C : Addr} {H : Hp} (c : ClsO K C) {a : Addr} {xs : List V} (e : H a = some (.lst xs)) : Odd K C H (.ref a) := ⟨_, .base (.lst e), c.nf_list, c.ki c.nf_list⟩
theorem Odd.tup {K : PySem.W.Frag} {C : Addr} {H : Hp} (c : ClsO K C) {a : Addr} {xs : List V} (e : H a = some (.tup xs)) : Odd K C H (.ref a) := ⟨_, .base (.tup e), c.nf_tuple, c.ki c.nf_tuple⟩
theorem Odd.dic {K : PySem.W.Frag} {C : Addr} {H : Hp} (c : ClsO K C) {a : Addr} {xs : List (Key × V)} (e : H a = some (.dK xs)) : Odd K C H (.ref a) := ⟨_, .base (.dK e), c.nf_dict, c.ki c.nf_dict⟩
theorem hu64 {a : Nat} (h : a + 64 < cLine) : a < cLine := by omega
def rDictD : List V → Hp → VK → Prop := fun xs H Q => ∃ (a : Addr) (kvs : List (Key × V)), xs = [.ref a] ∧ Rd H a (.dK kvs) ∧ ∀ p, H p = none → Q (.ref p) (upd H p (.dK kvs))
theorem k_dictD {X : Cx} : CallR X (.type "dict") rDictD := L2.call_dictD
theorem lg_tup {K : PySem.W.Frag} {a : Addr} {xs : List V} {g : TG} {tb : TS} {D : Ends} {σ : L2.St} {H : Hp} (Pv : Nat → L2.St → Hp → Prop) (h0 : Pv 0 σ H) (hl : ∀ i σ H, i ≤ xs.length → Pv i σ H → SqT K H a xs)
    (hs : ∀ i x σ H, xs[i]? = some x → Pv i σ H → g x σ H fun σ2 H2 => tb { D with nx := Pv (i + 1), ct := Pv (i + 1), bk := D.nx } σ2 H2) (hd : ∀ σ H, Pv xs.length σ H → D.nx σ H) : LoopG (Itt K a) g tb D σ H := for_tup Pv h0 hl hs hd
section
variable {X : Cx} {CX : CXT} {K : PySem.W.Frag} {k : Nat} {f C : Addr} {fd : FuncData} {ps : List Str} {sp : Sp} {E : XK}
theorem k_eqO (hK : X.K = K) (hs : PySem.W.findIn K (.ref C) "__eq__" = some (some (.ref f))) (hf : PySem.W.isFn K (.ref f) = true) (F : FnOk X.prog X.w X.K X.mg X.base CX k f fd ps sp) (hr : Room k X.A) (hu : X.A.units + 64 < cLine) (hb : Binds K fd ps []) (hx : Passes CX X E) : OpR X (compareOp .Eq) (rEqO K C sp E) := by
  subst hK
  exact op_eqO hs hf F hr hu hb hx
def rNeO (K : PySem.W.Frag) (C : Addr) (sp : Sp) (E : XK) : R2 := fun x y H Q => rEqO K C sp E x y H fun v H' => ∃ b : Bool, v = .bl b ∧ Q (.bl (!b)) H'
theorem k_neO (hK : X.K = K) (N : NeOf K C) (hs : PySem.W.findIn K (.ref C) "__eq__" = some (some (.ref f))) (hf : PySem.W.isFn K (.ref f) = true) (F : FnOk X.prog X.w X.K X.mg X.base CX k f fd ps sp) (hr : Room (k + 1) X.A) (hu : X.A.units + 64 < cLine) (hb : Binds K fd ps []) (hx : Passes CX X E) : OpR X (compareOp .NotEq) (rNeO K C sp E) := by
  subst hK
  exact op_neO N hs hf F hr hu hb hx
end
end BC

set_option Elab.async false
set_option linter.all false
set_option maxRecDepth 100000
set_option maxHeartbeats 4000000
namespace LW
open PySem PySem.Spec PyProof.Rows L2 BC Evl TR EF L2.DX
def topS (i : Nat) : Stmt := PySem.Challenge.pw_breadcrumbs_k14_keyword_arguments.main.body.getD i (.Pass ⟨0, 0, 0, 0⟩)
abbrev s_is_integer : Stmt := topS 13
theorem sc_is_integer : FnScope ["value", "least", "most"] ["value", "least", "most"] (defScope s_is_integer) := ⟨rfl, rfl, rfl, by decide +kernel, rfl, by decide +kernel, by decide +kernel⟩
abbrev s_is_row : Stmt := topS 14
theorem sc_is_row : FnScope ["value", "page", "many", "other"] ["value", "page", "many"] (defScope s_is_row) := ⟨rfl, rfl, rfl, by decide +kernel, rfl, by decide +kernel, by decide +kernel⟩
abbrev s_is_site : Stmt := topS 15
theorem sc_is_site : FnScope ["value", "page", "row"] ["value"] (defScope s_is_site) := ⟨rfl, rfl, rfl, by decide +kernel, rfl, by decide +kernel, by decide +kernel⟩
abbrev s_check_site : Stmt := topS 16
theorem sc_check_site : FnScope ["site"] ["site"] (defScope s_check_site) := ⟨rfl, rfl, rfl, by decide +kernel, rfl, by decide +kernel, by decide +kernel⟩
abbrev s_check_page : Stmt := topS 17
theorem sc_check_page : FnScope ["site", "page"] ["site", "page"] (defScope s_check_page) := ⟨rfl, rfl, rfl, by decide +kernel, rfl, by decide +kernel, by decide +kernel⟩
abbrev s_check_pages : Stmt := topS 18
theorem sc_check_pages : FnScope ["site", "pages", "page"] ["site", "pages"] (defScope s_check_pages) := ⟨rfl, rfl, rfl, by decide +kernel, rfl, by decide +kernel, by decide +kernel⟩
abbrev s_is_linked_on : Stmt := topS 19
theorem sc_is_linked_on : FnScope ["site", "value", "page", "other"] ["site", "value"] (defScope s_is_linked_on) := ⟨rfl, rfl, rfl, by decide +kernel, rfl, by decide +kernel, by decide +kernel⟩
abbrev s_is_walk_on : Stmt := topS 20
theorem sc_is_walk_on : FnScope ["site", "value"] ["site", "value"] (defScope s_is_walk_on) := ⟨rfl, rfl, rfl, by decide +kernel, rfl, by decide +kernel, by decide +kernel⟩
abbrev s_is_trail_on : Stmt := topS 21
theorem sc_is_trail_on : FnScope ["site", "value"] ["site", "value"] (defScope s_is_trail_on) := ⟨rfl, rfl, rfl, by decide +kernel, rfl, by decide +kernel, by decide +kernel⟩
abbrev s_is_walk : Stmt := topS 22
theorem sc_is_walk : FnScope ["site", "value"] ["site", "value"] (defScope s_is_walk) := ⟨rfl, rfl, rfl, by decide +kernel, rfl, by decide +kernel, by decide +kernel⟩
abbrev s_is_trail_of : Stmt := topS 23
theorem sc_is_trail_of : FnScope ["site", "value"] ["site", "value"] (defScope s_is_trail_of) := ⟨rfl, rfl, rfl, by decide +kernel, rfl, by decide +kernel, by decide +kernel⟩
abbrev s_links_into : Stmt := topS 24
theorem sc_links_into : FnScope ["site", "page", "other", "row"] ["site", "page"] (defScope s_links_into) := ⟨rfl, rfl, rfl, by decide +kernel, rfl, by decide +kernel, by decide +kernel⟩
abbrev s_reached_from : Stmt := topS 25
theorem sc_reached_from : FnScope ["site", "page", "found", "waiting", "other"] ["site", "page"] (defScope s_reached_from) := ⟨rfl, rfl, rfl, by decide +kernel, rfl, by decide +kernel, by decide +kernel⟩
abbrev s_reversed_rows : Stmt := topS 26
theorem sc_reversed_rows : FnScope ["site", "page", "other", "row"] ["site"] (defScope s_reversed_rows) := ⟨rfl, rfl, rfl, by decide +kernel, rfl, by decide +kernel, by decide +kernel⟩
abbrev s_is_two_way : Stmt := topS 27
theorem sc_is_two_way : FnScope ["site"] ["site"] (defScope s_is_two_way) := ⟨rfl, rfl, rfl, by decide +kernel, rfl, by decide +kernel, by decide +kernel⟩
abbrev s_reversed_site : Stmt := topS 28
theorem sc_reversed_site : FnScope ["site"] ["site"] (defScope s_reversed_site) := ⟨rfl, rfl, rfl, by decide +kernel, rfl, by decide +kernel, by decide +kernel⟩
abbrev s_site_without : Stmt := topS 29
theorem sc_site_without : FnScope ["site", "pages", "found", "page", "row", "other"] ["site", "pages"] (defScope s_site_without) := ⟨rfl, rfl, rfl, by decide +kernel, rfl, by decide +kernel, by decide +kernel⟩
abbrev s_is_page : Stmt := topS 33
theorem sc_is_page : FnScope ["value"] ["value"] (defScope s_is_page) := ⟨rfl, rfl, rfl, by decide +kernel, rfl, by decide +kernel, by decide +kernel⟩
abbrev s_is_visits : Stmt := topS 34
theorem sc_is_visits : FnScope ["value", "page"] ["value"] (defScope s_is_visits) := ⟨rfl, rfl, rfl, by decide +kernel, rfl, by decide +kernel, by decide +kernel⟩
abbrev s_is_trail : Stmt := topS 35
theorem sc_is_trail : FnScope ["value", "page"] ["value"] (defScope s_is_trail) := ⟨rfl, rfl, rfl, by decide +kernel, rfl, by decide +kernel, by decide +kernel⟩
abbrev s_check_visits : Stmt := topS 36
theorem sc_check_visits : FnScope ["visits"] ["visits"] (defScope s_check_visits) := ⟨rfl, rfl, rfl, by decide +kernel, rfl, by decide +kernel, by decide +kernel⟩
abbrev s_check_trail : Stmt := topS 37
theorem sc_check_trail : FnScope ["trail"] ["trail"] (defScope s_check_trail) := ⟨rfl, rfl, rfl, by decide +kernel, rfl, by decide +kernel, by decide +kernel⟩
abbrev s_visited : Stmt := topS 38
theorem sc_visited : FnScope ["trail", "page"] ["trail", "page"] (defScope s_visited) := ⟨rfl, rfl, rfl, by decide +kernel, rfl, by decide +kernel, by decide +kernel⟩
abbrev s_exits_in : Stmt := topS 40
theorem sc_exits_in : FnScope ["visits", "found", "page", "later"] ["visits"] (defScope s_exits_in) := ⟨rfl, rfl, rfl, by decide +kernel, rfl, by decide +kernel, by decide +kernel⟩
abbrev s_is_pair : Stmt := topS 41
theorem sc_is_pair : FnScope ["value"] ["value"] (defScope s_is_pair) := ⟨rfl, rfl, rfl, by decide +kernel, rfl, by decide +kernel, by decide +kernel⟩
abbrev s_leads_to_root : Stmt := topS 42
theorem sc_leads_to_root : FnScope ["exit_of", "page", "root", "step"] ["exit_of", "page", "root"] (defScope s_leads_to_root) := ⟨rfl, rfl, rfl, by decide +kernel, rfl, by decide +kernel, by decide +kernel⟩
abbrev s_are_exits : Stmt := topS 43
theorem sc_are_exits : FnScope ["value", "pages", "roots", "exit_of", "page", "later", "pair", "other"] ["value"] (defScope s_are_exits) := ⟨rfl, rfl, rfl, by decide +kernel, rfl, by decide +kernel, by decide +kernel⟩
abbrev s_check_effect : Stmt := topS 45
theorem sc_check_effect : FnScope ["value"] ["value"] (defScope s_check_effect) := ⟨rfl, rfl, rfl, by decide +kernel, rfl, by decide +kernel, by decide +kernel⟩
abbrev s_effect_in : Stmt := topS 46
theorem sc_effect_in : FnScope ["visits"] ["visits"] (defScope s_effect_in) := ⟨rfl, rfl, rfl, by decide +kernel, rfl, by decide +kernel, by decide +kernel⟩
abbrev s_effect_of : Stmt := topS 47
theorem sc_effect_of : FnScope ["visits"] ["visits"] (defScope s_effect_of) := ⟨rfl, rfl, rfl, by decide +kernel, rfl, by decide +kernel, by decide +kernel⟩
abbrev s_number_in : Stmt := topS 52
theorem sc_number_in : FnScope ["word", "sign"] ["word"] (defScope s_number_in) := ⟨rfl, rfl, rfl, by decide +kernel, rfl, by decide +kernel, by decide +kernel⟩
abbrev s_check_string : Stmt := topS 53
theorem sc_check_string : FnScope ["text"] ["text"] (defScope s_check_string) := ⟨rfl, rfl, rfl, by decide +kernel, rfl, by decide +kernel, by decide +kernel⟩
abbrev s_format_site : Stmt := topS 54
theorem sc_format_site : FnScope ["site", "page", "row", "other"] ["site"] (defScope s_format_site) := ⟨rfl, rfl, rfl, by decide +kernel, rfl, by decide +kernel, by decide +kernel⟩
abbrev s_parse_site : Stmt := topS 55
theorem sc_parse_site : FnScope ["text", "found", "page", "part", "head", "words", "word"] ["text"] (defScope s_parse_site) := ⟨rfl, rfl, rfl, by decide +kernel, rfl, by decide +kernel, by decide +kernel⟩
abbrev s_trail_string : Stmt := topS 56
theorem sc_trail_string : FnScope ["trail", "page"] ["trail"] (defScope s_trail_string) := ⟨rfl, rfl, rfl, by decide +kernel, rfl, by decide +kernel, by decide +kernel⟩
abbrev s_format_trail : Stmt := topS 57
theorem sc_format_trail : FnScope ["trail"] ["trail"] (defScope s_format_trail) := ⟨rfl, rfl, rfl, by decide +kernel, rfl, by decide +kernel, by decide +kernel⟩
abbrev s_parse_trail : Stmt := topS 58
theorem sc_parse_trail : FnScope ["text", "trail", "word"] ["text"] (defScope s_parse_trail) := ⟨rfl, rfl, rfl, by decide +kernel, rfl, by decide +kernel, by decide +kernel⟩
abbrev s_format_effect : Stmt := topS 59
theorem sc_format_effect : FnScope ["effect", "page", "other"] ["effect"] (defScope s_format_effect) := ⟨rfl, rfl, rfl, by decide +kernel, rfl, by decide +kernel, by decide +kernel⟩
abbrev s_parse_effect : Stmt := topS 60
theorem sc_parse_effect : FnScope ["text", "exits", "word", "head", "words", "left", "sign", "right"] ["text"] (defScope s_parse_effect) := ⟨rfl, rfl, rfl, by decide +kernel, rfl, by decide +kernel, by decide +kernel⟩
abbrev s_listed : Stmt := topS 61
theorem sc_listed : FnScope ["visits", "found", "trail", "index", "page"] ["visits"] (defScope s_listed) := ⟨rfl, rfl, rfl, by decide +kernel, rfl, by decide +kernel, by decide +kernel⟩
abbrev s_law_source : Stmt := topS 63
theorem sc_law_source : FnScope ["_law_cell", "_law_k"] ["_law_cell", "_law_k"] (defScope s_law_source) := ⟨rfl, rfl, rfl, by decide +kernel, rfl, by decide +kernel, by decide +kernel⟩
abbrev s_law_draw : Stmt := topS 64
theorem sc_law_draw : FnScope ["_law_source_here", "_law_count", "_law_mixed", "_law_digit"] ["_law_source_here", "_law_count"] (defScope s_law_draw) := ⟨rfl, rfl, rfl, by decide +kernel, rfl, by decide +kernel, by decide +kernel⟩
abbrev s_law_net : Stmt := topS 65
theorem sc_law_net : FnScope ["_law_source_here", "_law_most", "_law_many", "_law_spot", "_law_style", "_law_found", "_law_row", "_law_other", "_law_picks"] ["_law_source_here", "_law_most"] (defScope s_law_net) := ⟨rfl, rfl, rfl, by decide +kernel, rfl, by decide +kernel, by decide +kernel⟩
abbrev s_law_stroll : Stmt := topS 66
theorem sc_law_stroll : FnScope ["_law_source_here", "_law_net_here", "_law_most", "_law_found", "_law_step", "_law_row"] ["_law_source_here", "_law_net_here", "_law_most"] (defScope s_law_stroll) := ⟨rfl, rfl, rfl, by decide +kernel, rfl, by decide +kernel, by decide +kernel⟩
abbrev s_law_some : Stmt := topS 67
theorem sc_law_some : FnScope ["_law_source_here", "_law_many", "_law_most", "_law_left", "_law_step"] ["_law_source_here", "_law_many", "_law_most"] (defScope s_law_some) := ⟨rfl, rfl, rfl, by decide +kernel, rfl, by decide +kernel, by decide +kernel⟩
abbrev s_law_visits : Stmt := topS 68
theorem sc_law_visits : FnScope ["_law_source_here", "_law_most", "_law_wide", "_law_found", "_law_step", "_law_spot"] ["_law_source_here", "_law_most"] (defScope s_law_visits) := ⟨rfl, rfl, rfl, by decide +kernel, rfl, by decide +kernel, by decide +kernel⟩
abbrev s_law_trail : Stmt := topS 69
theorem sc_law_trail : FnScope ["_law_row", "_law_found", "_law_spot"] ["_law_row"] (defScope s_law_trail) := ⟨rfl, rfl, rfl, by decide +kernel, rfl, by decide +kernel, by decide +kernel⟩
abbrev s_law_by_keyword : Stmt := topS 70
theorem sc_law_by_keyword : FnScope ["_law_net_here", "_law_row", "_law_gone", "_law_turns", "_law_some_here", "_law_told"] ["_law_net_here", "_law_row", "_law_gone", "_law_turns"] (defScope s_law_by_keyword) := ⟨rfl, rfl, rfl, by decide +kernel, rfl, by decide +kernel, by decide +kernel⟩
abbrev s_law_by_position : Stmt := topS 71
theorem sc_law_by_position : FnScope ["_law_net_here", "_law_row", "_law_gone", "_law_turns", "_law_some_here", "_law_told"] ["_law_net_here", "_law_row", "_law_gone", "_law_turns"] (defScope s_law_by_position) := ⟨rfl, rfl, rfl, by decide +kernel, rfl, by decide +kernel, by decide +kernel⟩
abbrev s_law_holds : Stmt := topS 72
theorem sc_law_holds : FnScope ["_law_source_here", "_law_most", "_law_net_here", "_law_step", "_law_turns", "_law_row", "_law_gone"] ["_law_source_here", "_law_most"] (defScope s_law_holds) := ⟨rfl, rfl, rfl, by decide +kernel, rfl, by decide +kernel, by decide +kernel⟩
abbrev s_law : Stmt := topS 73
theorem sc_law : FnScope ["_law_script", "_law_k", "_law_cell"] ["_law_script"] (defScope s_law) := ⟨rfl, rfl, rfl, by decide +kernel, rfl, by decide +kernel, by decide +kernel⟩
abbrev s_Effect___init : Stmt := inClass (topS 44) 0
theorem sc_Effect___init : FnScope ["self", "first", "exits", "is_valid"] ["self", "first", "exits"] (defScope s_Effect___init) := ⟨rfl, rfl, rfl, by decide +kernel, rfl, by decide +kernel, by decide +kernel⟩
abbrev s_Effect_first : Stmt := inClass (topS 44) 1
theorem sc_Effect_first : FnScope ["self"] ["self"] (defScope s_Effect_first) := ⟨rfl, rfl, rfl, by decide +kernel, rfl, by decide +kernel, by decide +kernel⟩
abbrev s_Effect_exits : Stmt := inClass (topS 44) 2
theorem sc_Effect_exits : FnScope ["self"] ["self"] (defScope s_Effect_exits) := ⟨rfl, rfl, rfl, by decide +kernel, rfl, by decide +kernel, by decide +kernel⟩
structure Txt (K : PySem.W.Frag) (mg : Str → Option Value) where
  C_BreadcrumbsError : Addr
  g_BreadcrumbsError : mg "BreadcrumbsError" = some (.ref C_BreadcrumbsError)
  k_BreadcrumbsError : PySem.W.keepIn K (.ref C_BreadcrumbsError) = true
  x_BreadcrumbsError : PySem.W.excIn K C_BreadcrumbsError [.type "ValueError", .type "Exception", .type "BaseException", .type "object"] "ValueError.__new__" = true
  e_BreadcrumbsError : ExcC K C_BreadcrumbsError
  t_BreadcrumbsError : PySem.W.typeIn K (.ref C_BreadcrumbsError) = some (.type "type")
  b_BreadcrumbsError : PySem.W.subIn K (.ref C_BreadcrumbsError) (.type "BaseException") = some true
  r_BreadcrumbsError : MroIs K C_BreadcrumbsError [C_BreadcrumbsError]
  C_InvalidEffectError : Addr
  g_InvalidEffectError : mg "InvalidEffectError" = some (.ref C_InvalidEffectError)
  k_InvalidEffectError : PySem.W.keepIn K (.ref C_InvalidEffectError) = true
  x_InvalidEffectError : PySem.W.excIn K C_InvalidEffectError [.type "ValueError", .type "Exception", .type "BaseException", .type "object"] "ValueError.__new__" = true
  e_InvalidEffectError : ExcC K C_InvalidEffectError
  t_InvalidEffectError : PySem.W.typeIn K (.ref C_InvalidEffectError) = some (.type "type")
  b_InvalidEffectError : PySem.W.subIn K (.ref C_InvalidEffectError) (.type "BaseException") = some true
  r_InvalidEffectError : MroIs K C_InvalidEffectError [C_InvalidEffectError, C_BreadcrumbsError]
  nd : [C_BreadcrumbsError, C_InvalidEffectError].Nodup
  C_Effect : Addr
  cl_Effect : Cls K C_Effect
  g_Effect : mg "Effect" = some (.ref C_Effect)
  x_Effect : ClsO K C_Effect
  na_Effect_begin_page : NoAttr K C_Effect "begin_page"
  na_Effect_pairs : NoAttr K C_Effect "pairs"
  na_Effect_exit_of : NoAttr K C_Effect "exit_of"
  f_is_integer : Addr
  fd_is_integer : FuncData
  F_is_integer : Fun K "is_integer" "is_integer" s_is_integer f_is_integer fd_is_integer
  m_is_integer : mg "is_integer" = some (.ref f_is_integer)
  b_is_integer : Binds K fd_is_integer ["value", "least", "most"] []
  f_is_row : Addr
  fd_is_row : FuncData
  F_is_row : Fun K "is_row" "is_row" s_is_row f_is_row fd_is_row
  m_is_row : mg "is_row" = some (.ref f_is_row)
  b_is_row : Binds K fd_is_row ["value", "page", "many"] []
  f_is_site : Addr
  fd_is_site : FuncData
  F_is_site : Fun K "is_site" "is_site" s_is_site f_is_site fd_is_site
  m_is_site : mg "is_site" = some (.ref f_is_site)
  b_is_site : Binds K fd_is_site ["value"] []
  f_check_site : Addr
  fd_check_site : FuncData
  F_check_site : Fun K "check_site" "check_site" s_check_site f_check_site fd_check_site
  m_check_site : mg "check_site" = some (.ref f_check_site)
  b_check_site : Binds K fd_check_site ["site"] []
  f_check_page : Addr
  fd_check_page : FuncData
  F_check_page : Fun K "check_page" "check_page" s_check_page f_check_page fd_check_page
  m_check_page : mg "check_page" = some (.ref f_check_page)
  b_check_page : Binds K fd_check_page ["site", "page"] []
  f_check_pages : Addr
  fd_check_pages : FuncData
  F_check_pages : Fun K "check_pages" "check_pages" s_check_pages f_check_pages fd_check_pages
  m_check_pages : mg "check_pages" = some (.ref f_check_pages)
  b_check_pages : Binds K fd_check_pages ["site", "pages"] []
  f_is_linked_on : Addr
  fd_is_linked_on : FuncData
  F_is_linked_on : Fun K "is_linked_on" "is_linked_on" s_is_linked_on f_is_linked_on fd_is_linked_on
  m_is_linked_on : mg "is_linked_on" = some (.ref f_is_linked_on)
  b_is_linked_on : Binds K fd_is_linked_on ["site", "value"] []
  f_is_walk_on : Addr
  fd_is_walk_on : FuncData
  F_is_walk_on : Fun K "is_walk_on" "is_walk_on" s_is_walk_on f_is_walk_on fd_is_walk_on
  m_is_walk_on : mg "is_walk_on" = some (.ref f_is_walk_on)
  b_is_walk_on : Binds K fd_is_walk_on ["site", "value"] []
  f_is_trail_on : Addr
  fd_is_trail_on : FuncData
  F_is_trail_on : Fun K "is_trail_on" "is_trail_on" s_is_trail_on f_is_trail_on fd_is_trail_on
  m_is_trail_on : mg "is_trail_on" = some (.ref f_is_trail_on)
  b_is_trail_on : Binds K fd_is_trail_on ["site", "value"] []
  f_is_walk : Addr
  fd_is_walk : FuncData
  F_is_walk : Fun K "is_walk" "is_walk" s_is_walk f_is_walk fd_is_walk
  m_is_walk : mg "is_walk" = some (.ref f_is_walk)
  b_is_walk : Binds K fd_is_walk ["site", "value"] []
  f_is_trail_of : Addr
  fd_is_trail_of : FuncData
  F_is_trail_of : Fun K "is_trail_of" "is_trail_of" s_is_trail_of f_is_trail_of fd_is_trail_of
  m_is_trail_of : mg "is_trail_of" = some (.ref f_is_trail_of)
  b_is_trail_of : Binds K fd_is_trail_of ["site", "value"] []
  f_links_into : Addr
  fd_links_into : FuncData
  F_links_into : Fun K "links_into" "links_into" s_links_into f_links_into fd_links_into
  m_links_into : mg "links_into" = some (.ref f_links_into)
  b_links_into : Binds K fd_links_into ["site", "page"] []
  f_reached_from : Addr
  fd_reached_from : FuncData
  F_reached_from : Fun K "reached_from" "reached_from" s_reached_from f_reached_from fd_reached_from
  m_reached_from : mg "reached_from" = some (.ref f_reached_from)
  b_reached_from : Binds K fd_reached_from ["site", "page"] []
  f_reversed_rows : Addr
  fd_reversed_rows : FuncData
  F_reversed_rows : Fun K "reversed_rows" "reversed_rows" s_reversed_rows f_reversed_rows fd_reversed_rows
  m_reversed_rows : mg "reversed_rows" = some (.ref f_reversed_rows)
  b_reversed_rows : Binds K fd_reversed_rows ["site"] []
  f_is_two_way : Addr
  fd_is_two_way : FuncData
  F_is_two_way : Fun K "is_two_way" "is_two_way" s_is_two_way f_is_two_way fd_is_two_way
  m_is_two_way : mg "is_two_way" = some (.ref f_is_two_way)
  b_is_two_way : Binds K fd_is_two_way ["site"] []
  f_reversed_site : Addr
  fd_reversed_site : FuncData
  F_reversed_site : Fun K "reversed_site" "reversed_site" s_reversed_site f_reversed_site fd_reversed_site
  m_reversed_site : mg "reversed_site" = some (.ref f_reversed_site)
  b_reversed_site : Binds K fd_reversed_site ["site"] []
  f_site_without : Addr
  fd_site_without : FuncData
  F_site_without : Fun K "site_without" "site_without" s_site_without f_site_without fd_site_without
  m_site_without : mg "site_without" = some (.ref f_site_without)
  b_site_without : Binds K fd_site_without ["site", "pages"] []
  f_is_page : Addr
  fd_is_page : FuncData
  F_is_page : Fun K "is_page" "is_page" s_is_page f_is_page fd_is_page
  m_is_page : mg "is_page" = some (.ref f_is_page)
  b_is_page : Binds K fd_is_page ["value"] []
  f_is_visits : Addr
  fd_is_visits : FuncData
  F_is_visits : Fun K "is_visits" "is_visits" s_is_visits f_is_visits fd_is_visits
  m_is_visits : mg "is_visits" = some (.ref f_is_visits)
  b_is_visits : Binds K fd_is_visits ["value"] []
  f_is_trail : Addr
  fd_is_trail : FuncData
  F_is_trail : Fun K "is_trail" "is_trail" s_is_trail f_is_trail fd_is_trail
  m_is_trail : mg "is_trail" = some (.ref f_is_trail)
  b_is_trail : Binds K fd_is_trail ["value"] []
  f_check_visits : Addr
  fd_check_visits : FuncData
  F_check_visits : Fun K "check_visits" "check_visits" s_check_visits f_check_visits fd_check_visits
  m_check_visits : mg "check_visits" = some (.ref f_check_visits)
  b_check_visits : Binds K fd_check_visits ["visits"] []
  f_check_trail : Addr
  fd_check_trail : FuncData
  F_check_trail : Fun K "check_trail" "check_trail" s_check_trail f_check_trail fd_check_trail
  m_check_trail : mg "check_trail" = some (.ref f_check_trail)
  b_check_trail : Binds K fd_check_trail ["trail"] []
  f_visited : Addr
  fd_visited : FuncData
  F_visited : Fun K "visited" "visited" s_visited f_visited fd_visited
  m_visited : mg "visited" = some (.ref f_visited)
  b_visited : Binds K fd_visited ["trail", "page"] []
  f_exits_in : Addr
  fd_exits_in : FuncData
  F_exits_in : Fun K "exits_in" "exits_in" s_exits_in f_exits_in fd_exits_in
  m_exits_in : mg "exits_in" = some (.ref f_exits_in)
  b_exits_in : Binds K fd_exits_in ["visits"] []
  f_is_pair : Addr
  fd_is_pair : FuncData
  F_is_pair : Fun K "is_pair" "is_pair" s_is_pair f_is_pair fd_is_pair
  m_is_pair : mg "is_pair" = some (.ref f_is_pair)
  b_is_pair : Binds K fd_is_pair ["value"] []
  f_leads_to_root : Addr
  fd_leads_to_root : FuncData
  F_leads_to_root : Fun K "leads_to_root" "leads_to_root" s_leads_to_root f_leads_to_root fd_leads_to_root
  m_leads_to_root : mg "leads_to_root" = some (.ref f_leads_to_root)
  b_leads_to_root : Binds K fd_leads_to_root ["exit_of", "page", "root"] []
  f_are_exits : Addr
  fd_are_exits : FuncData
  F_are_exits : Fun K "are_exits" "are_exits" s_are_exits f_are_exits fd_are_exits
  m_are_exits : mg "are_exits" = some (.ref f_are_exits)
  b_are_exits : Binds K fd_are_exits ["value"] []
  f_check_effect : Addr
  fd_check_effect : FuncData
  F_check_effect : Fun K "check_effect" "check_effect" s_check_effect f_check_effect fd_check_effect
  m_check_effect : mg "check_effect" = some (.ref f_check_effect)
  b_check_effect : Binds K fd_check_effect ["value"] []
  f_effect_in : Addr
  fd_effect_in : FuncData
  F_effect_in : Fun K "effect_in" "effect_in" s_effect_in f_effect_in fd_effect_in
  m_effect_in : mg "effect_in" = some (.ref f_effect_in)
  b_effect_in : Binds K fd_effect_in ["visits"] []
  f_effect_of : Addr
  fd_effect_of : FuncData
  F_effect_of : Fun K "effect_of" "effect_of" s_effect_of f_effect_of fd_effect_of
  m_effect_of : mg "effect_of" = some (.ref f_effect_of)
  b_effect_of : Binds K fd_effect_of ["visits"] []
  f_number_in : Addr
  fd_number_in : FuncData
  F_number_in : Fun K "number_in" "number_in" s_number_in f_number_in fd_number_in
  m_number_in : mg "number_in" = some (.ref f_number_in)
  b_number_in : Binds K fd_number_in ["word"] []
  f_check_string : Addr
  fd_check_string : FuncData
  F_check_string : Fun K "check_string" "check_string" s_check_string f_check_string fd_check_string
  m_check_string : mg "check_string" = some (.ref f_check_string)
  b_check_string : Binds K fd_check_string ["text"] []
  f_format_site : Addr
  fd_format_site : FuncData
  F_format_site : Fun K "format_site" "format_site" s_format_site f_format_site fd_format_site
  m_format_site : mg "format_site" = some (.ref f_format_site)
  b_format_site : Binds K fd_format_site ["site"] []
  f_parse_site : Addr
  fd_parse_site : FuncData
  F_parse_site : Fun K "parse_site" "parse_site" s_parse_site f_parse_site fd_parse_site
  m_parse_site : mg "parse_site" = some (.ref f_parse_site)
  b_parse_site : Binds K fd_parse_site ["text"] []
  f_trail_string : Addr
  fd_trail_string : FuncData
  F_trail_string : Fun K "trail_string" "trail_string" s_trail_string f_trail_string fd_trail_string
  m_trail_string : mg "trail_string" = some (.ref f_trail_string)
  b_trail_string : Binds K fd_trail_string ["trail"] []
  f_format_trail : Addr
  fd_format_trail : FuncData
  F_format_trail : Fun K "format_trail" "format_trail" s_format_trail f_format_trail fd_format_trail
  m_format_trail : mg "format_trail" = some (.ref f_format_trail)
  b_format_trail : Binds K fd_format_trail ["trail"] []
  f_parse_trail : Addr
  fd_parse_trail : FuncData
  F_parse_trail : Fun K "parse_trail" "parse_trail" s_parse_trail f_parse_trail fd_parse_trail
  m_parse_trail : mg "parse_trail" = some (.ref f_parse_trail)
  b_parse_trail : Binds K fd_parse_trail ["text"] []
  f_format_effect : Addr
  fd_format_effect : FuncData
  F_format_effect : Fun K "format_effect" "format_effect" s_format_effect f_format_effect fd_format_effect
  m_format_effect : mg "format_effect" = some (.ref f_format_effect)
  b_format_effect : Binds K fd_format_effect ["effect"] []
  f_parse_effect : Addr
  fd_parse_effect : FuncData
  F_parse_effect : Fun K "parse_effect" "parse_effect" s_parse_effect f_parse_effect fd_parse_effect
  m_parse_effect : mg "parse_effect" = some (.ref f_parse_effect)
  b_parse_effect : Binds K fd_parse_effect ["text"] []
  f_listed : Addr
  fd_listed : FuncData
  F_listed : Fun K "listed" "listed" s_listed f_listed fd_listed
  m_listed : mg "listed" = some (.ref f_listed)
  b_listed : Binds K fd_listed ["visits"] []
  f_law_source : Addr
  fd_law_source : FuncData
  F_law_source : Fun K "_law_source" "_law_source" s_law_source f_law_source fd_law_source
  m_law_source : mg "_law_source" = some (.ref f_law_source)
  b_law_source : Binds K fd_law_source ["_law_cell", "_law_k"] []
  f_law_draw : Addr
  fd_law_draw : FuncData
  F_law_draw : Fun K "_law_draw" "_law_draw" s_law_draw f_law_draw fd_law_draw
  m_law_draw : mg "_law_draw" = some (.ref f_law_draw)
  b_law_draw : Binds K fd_law_draw ["_law_source_here", "_law_count"] []
  f_law_net : Addr
  fd_law_net : FuncData
  F_law_net : Fun K "_law_net" "_law_net" s_law_net f_law_net fd_law_net
  m_law_net : mg "_law_net" = some (.ref f_law_net)
  b_law_net : Binds K fd_law_net ["_law_source_here", "_law_most"] []
  f_law_stroll : Addr
  fd_law_stroll : FuncData
  F_law_stroll : Fun K "_law_stroll" "_law_stroll" s_law_stroll f_law_stroll fd_law_stroll
  m_law_stroll : mg "_law_stroll" = some (.ref f_law_stroll)
  b_law_stroll : Binds K fd_law_stroll ["_law_source_here", "_law_net_here", "_law_most"] []
  f_law_some : Addr
  fd_law_some : FuncData
  F_law_some : Fun K "_law_some" "_law_some" s_law_some f_law_some fd_law_some
  m_law_some : mg "_law_some" = some (.ref f_law_some)
  b_law_some : Binds K fd_law_some ["_law_source_here", "_law_many", "_law_most"] []
  f_law_visits : Addr
  fd_law_visits : FuncData
  F_law_visits : Fun K "_law_visits" "_law_visits" s_law_visits f_law_visits fd_law_visits
  m_law_visits : mg "_law_visits" = some (.ref f_law_visits)
  b_law_visits : Binds K fd_law_visits ["_law_source_here", "_law_most"] []
  f_law_trail : Addr
  fd_law_trail : FuncData
  F_law_trail : Fun K "_law_trail" "_law_trail" s_law_trail f_law_trail fd_law_trail
  m_law_trail : mg "_law_trail" = some (.ref f_law_trail)
  b_law_trail : Binds K fd_law_trail ["_law_row"] []
  f_law_by_keyword : Addr
  fd_law_by_keyword : FuncData
  F_law_by_keyword : Fun K "_law_by_keyword" "_law_by_keyword" s_law_by_keyword f_law_by_keyword fd_law_by_keyword
  m_law_by_keyword : mg "_law_by_keyword" = some (.ref f_law_by_keyword)
  b_law_by_keyword : Binds K fd_law_by_keyword ["_law_net_here", "_law_row", "_law_gone", "_law_turns"] []
  f_law_by_position : Addr
  fd_law_by_position : FuncData
  F_law_by_position : Fun K "_law_by_position" "_law_by_position" s_law_by_position f_law_by_position fd_law_by_position
  m_law_by_position : mg "_law_by_position" = some (.ref f_law_by_position)
  b_law_by_position : Binds K fd_law_by_position ["_law_net_here", "_law_row", "_law_gone", "_law_turns"] []
  f_law_holds : Addr
  fd_law_holds : FuncData
  F_law_holds : Fun K "_law_holds" "_law_holds" s_law_holds f_law_holds fd_law_holds
  m_law_holds : mg "_law_holds" = some (.ref f_law_holds)
  b_law_holds : Binds K fd_law_holds ["_law_source_here", "_law_most"] []
  f_law : Addr
  fd_law : FuncData
  F_law : Fun K "law" "law" s_law f_law fd_law
  m_law : mg "law" = some (.ref f_law)
  b_law : Binds K fd_law ["_law_script"] []
  f_Effect___init : Addr
  fd_Effect___init : FuncData
  F_Effect___init : Fun K "__init__" "Effect.__init__" s_Effect___init f_Effect___init fd_Effect___init
  b_Effect___init : Binds K fd_Effect___init ["self", "first", "exits"] []
  M_Effect : Mk K C_Effect f_Effect___init
  f_Effect_first : Addr
  fd_Effect_first : FuncData
  F_Effect_first : Fun K "first" "Effect.first" s_Effect_first f_Effect_first fd_Effect_first
  b_Effect_first : Binds K fd_Effect_first ["self"] []
  q_Effect_first : Addr
  p_Effect_first : PropOf K C_Effect "first" q_Effect_first f_Effect_first
  f_Effect_exits : Addr
  fd_Effect_exits : FuncData
  F_Effect_exits : Fun K "exits" "Effect.exits" s_Effect_exits f_Effect_exits fd_Effect_exits
  b_Effect_exits : Binds K fd_Effect_exits ["self"] []
  q_Effect_exits : Addr
  p_Effect_exits : PropOf K C_Effect "exits" q_Effect_exits f_Effect_exits
  k_format_effect_0_0 : KBinds K fd_format_effect ["effect"] ["effect"] (kg .none 0 1 [0]) (kg .non 0 1 [0])
  k_format_site_0_0 : KBinds K fd_format_site ["site"] ["site"] (kg .none 0 1 [0]) (kg .non 0 1 [0])
  k_format_trail_0_0 : KBinds K fd_format_trail ["trail"] ["trail"] (kg .none 0 1 [0]) (kg .non 0 1 [0])
  k_is_site_0_0 : KBinds K fd_is_site ["value"] ["value"] (kg .none 0 1 [0]) (kg .non 0 1 [0])
  k_is_trail_of_0_1_0 : KBinds K fd_is_trail_of ["site", "value"] ["value", "site"] (kg .none 0 2 [1, 0]) (kg .non 0 2 [1, 0])
  k_is_two_way_0_0 : KBinds K fd_is_two_way ["site"] ["site"] (kg .none 0 1 [0]) (kg .non 0 1 [0])
  k_is_walk_0_1_0 : KBinds K fd_is_walk ["site", "value"] ["value", "site"] (kg .none 0 2 [1, 0]) (kg .non 0 2 [1, 0])
  k_links_into_0_1_0 : KBinds K fd_links_into ["site", "page"] ["page", "site"] (kg .none 0 2 [1, 0]) (kg .non 0 2 [1, 0])
  k_listed_0_0 : KBinds K fd_listed ["visits"] ["visits"] (kg .none 0 1 [0]) (kg .non 0 1 [0])
  k_parse_effect_0_0 : KBinds K fd_parse_effect ["text"] ["text"] (kg .none 0 1 [0]) (kg .non 0 1 [0])
  k_parse_site_0_0 : KBinds K fd_parse_site ["text"] ["text"] (kg .none 0 1 [0]) (kg .non 0 1 [0])
  k_parse_trail_0_0 : KBinds K fd_parse_trail ["text"] ["text"] (kg .none 0 1 [0]) (kg .non 0 1 [0])
  k_reached_from_0_1_0 : KBinds K fd_reached_from ["site", "page"] ["page", "site"] (kg .none 0 2 [1, 0]) (kg .non 0 2 [1, 0])
  k_reversed_site_0_0 : KBinds K fd_reversed_site ["site"] ["site"] (kg .none 0 1 [0]) (kg .non 0 1 [0])
  k_site_without_0_1_0 : KBinds K fd_site_without ["site", "pages"] ["pages", "site"] (kg .none 0 2 [1, 0]) (kg .non 0 2 [1, 0])
  t_DIGITS : Tok
  c_DIGITS : mg "DIGITS" = some (.str "0123456789" t_DIGITS)
  t_MOST_DIGITS : Tok
  c_MOST_DIGITS : mg "MOST_DIGITS" = some (.int 2 t_MOST_DIGITS)
  t_MOST_PAGE : Tok
  c_MOST_PAGE : mg "MOST_PAGE" = some (.int 39 t_MOST_PAGE)
  t_MOST_PAGES : Tok
  c_MOST_PAGES : mg "MOST_PAGES" = some (.int 12 t_MOST_PAGES)
  t_MOST_STEPS : Tok
  c_MOST_STEPS : mg "MOST_STEPS" = some (.int 60 t_MOST_STEPS)
  t_MOST_VISITS : Tok
  c_MOST_VISITS : mg "MOST_VISITS" = some (.int 300 t_MOST_VISITS)
  t_NEXT : Tok
  c_NEXT : mg "NEXT" = some (.str " > " t_NEXT)
  qd : PySem.W.nsIn K cStatics "sys.int_max_str_digits" = some none
  n_abs : mg "abs" = none
  n_all : mg "all" = none
  n_any : mg "any" = none
  n_bool : mg "bool" = none
  n_dict : mg "dict" = none
  n_enumerate : mg "enumerate" = none
  n_int : mg "int" = none
  n_isinstance : mg "isinstance" = none
  n_len : mg "len" = none
  n_list : mg "list" = none
  n_max : mg "max" = none
  n_min : mg "min" = none
  n_range : mg "range" = none
  n_repr : mg "repr" = none
  n_set : mg "set" = none
  n_sorted : mg "sorted" = none
  n_str : mg "str" = none
  n_tuple : mg "tuple" = none
  n_zip : mg "zip" = none
local macro_rules | `(tactic| walk_at "sx") => `(tactic| try simp only [x_seq, x_next, x_brk, x_cnt, x_nev, x_ret, x_retN, x_drop, x_ifS, x_asg, x_gn, x_gsub, x_par, x_par3, x_aug, x_for, x_lc, x_rng1, x_rng2, x_rng3, x_ilist, x_itup, x_ienum, x_izip, x_izipA, x_istr, x_var, x_c, x_op, x_un, x_test, x_b, x_chain, x_and, x_or, x_not, x_andV, x_orV, x_notV, x_ife, x_nil, x_cons, x_lst, x_tup, x_cb, x_call, x_callK, x_bm, x_bm0, x_tru, x_sl, x_nopart, x_part, x_revL, x_I0, x_I, x_U, x_ip, x_ipC, x_eqI, x_neI, x_eqB, x_neB, x_eqS, x_neS, x_isB, x_isNB, x_lrg, x_gall, x_lenSet, x_augS, x_sortSet, x_mulS, x_fmtS, x_gstar, x_inS, x_addS, x_js0, x_js, x_jn, x_fmt, x_rg1, x_rg2, x_dnewK, x_dnewT, x_dget, x_dget1, x_dget2, x_din, x_dnotin, x_dput, x_ikeys, x_ghead, x_fld, x_sfld, x_prop, x_meth, x_make, x_dc,
  L2.start, List.map_cons, List.map_nil, List.length_cons, List.length_nil, Nat.reduceAdd, Nat.reduceSub, Nat.sub_self, Nat.zero_add, List.replicate, List.replicate_succ, List.replicate_zero, List.append_nil, List.cons_append, List.nil_append, List.set_cons_zero, List.set_cons_succ, List.getElem?_cons_zero, List.getElem?_cons_succ, Option.some.injEq, V.int.injEq, V.bl.injEq, V.ref.injEq, V.str.injEq, List.cons.injEq, and_true, true_and, exists_eq_left', exists_eq_left, exists_and_left, exists_eq, if_true, if_false, ite_true, ite_false, Bool.true_eq_false, Bool.false_eq_true, reduceIte, reduceCtorEq, Bool.not_true, Bool.not_false, decide_true, decide_false, decide_eq_true_eq, Bool.and_true, Bool.true_and, Bool.and_self, Bool.and_false, Bool.false_and, Bool.or_self, Bool.or_false, Bool.false_or, Bool.or_true, Bool.true_or, eq_self])
section
variable {P : Program} {w : World} {K : PySem.W.Frag} {mg : Str → Option Value} {base : Heap}
def spIsInt : Sp := fun vs H Q _ => ∃ i lo hi : Int, vs = [.int i, .int lo, .int hi] ∧ Q (.bl (decide (lo ≤ i) && decide (i ≤ hi))) H
theorem ok_is_integer (T : Txt K mg) : FnOk P w K mg base CX0 1 T.f_is_integer T.fd_is_integer ["value", "least", "most"] spIsInt := by
  refine T.F_is_integer.ok sc_is_integer (fun vs H Q E h => ?_) (fun cdv A outer s H vs Q E hr h => ?_)
  · obtain ⟨i, lo, hi, rfl, _⟩ := h
    rfl
  · obtain ⟨i, lo, hi, rfl, k⟩ := h
    apply Exists.intro
    apply And.intro
    · apply pss_one
      exact (ps_ret (pe_and (pe_callB (k_isi (K := K) rfl) (by rfl) T.n_isinstance (by decide +kernel) (pa_cons (pv 0) (pa_cons (pe_bltn (v := .ty "int") (by rfl) T.n_int (by decide +kernel) rfl) pa_nil))) (pe_and (pe_not (pe_callB (k_isi (K := K) rfl) (by rfl) T.n_isinstance (by decide +kernel) (pa_cons (pv 0) (pa_cons (pe_bltn (v := .ty "bool") (by rfl) T.n_bool (by decide +kernel) rfl) pa_nil)))) (pe_one (pe_chain op_le op_le (pv 1) (pv 0) (pv 2))))))
    walk_at "sx"
    refine isi_int (b := true) (by decide +kernel) ?_
    walk_at "sx"
    refine isi_int (b := false) (by decide +kernel) ?_
    walk_at "sx"
    by_cases h1 : lo ≤ i
    · simpa [h1] using k
    · simpa [h1] using k
end
/-! ### sites.py on sites -/
section
variable {P : Program} {w : World} {K : PySem.W.Frag} {mg : Str → Option Value} {base : Heap}
def spIsRow (K : PySem.W.Frag) : Sp := fun vs H Q _ => ∃ (a : Addr) (r : List Nat) (i n : Nat), vs = [.ref a, .int i, .int n] ∧ SqL K H a ((nz r).map V.int) ∧ r.Pairwise (· < ·) ∧ (∀ x ∈ r, x < n) ∧ i ∉ r ∧ r.length ≤ 12 ∧ ∀ H', Ex H H' → Q (.bl true) H'
theorem bl_true (n : Nat) : List.replicate n (V.bl true) = (List.replicate n true).map V.bl := by rw [List.map_replicate]
theorem ok_is_row (T : Txt K mg) : FnOk P w K mg base CX0 2 T.f_is_row T.fd_is_row ["value", "page", "many"] (spIsRow K) := by
  refine T.F_is_row.ok sc_is_row (fun vs H Q E h => ?_) (fun cdv A outer s H vs Q E hr h => ?_)
  · obtain ⟨a, r, i, n, rfl, _⟩ := h
    rfl
  · obtain ⟨a, r, i, n, rfl, hA, asc, lt, no, hl, k⟩ := h
    apply Exists.intro
    apply And.intro
    · apply pss_cons
      · apply ps_if
        · exact (PW.pt (pw_or (pt_not (pt_val (pe_callB (k_isi (K := K) rfl) (by rfl) T.n_isinstance (by decide +kernel) (pa_cons (pv 0) (pa_cons (pe_bltn (v := .ty "list") (by rfl) T.n_list (by decide +kernel) rfl) pa_nil))))) (pw_or1 (pt_not (pt_val (pe_callB (k_all (K := K) rfl rfl) (by rfl) T.n_all (by decide +kernel) (pa_cons (pe_lc (own := [("other", 3)]) rfl sc_is_row.nd (k_pi_list (K := K) rfl (pv 0)) (blkOk_by (own := [("other", 3)]) (N := ["value", "page", "many", "other"]) (sc := defScope s_is_row) (by decide +kernel)) (fun _ _ _ _ _ => by exact (pg_name (i := 3) sc_is_row.nd rfl (.inl rfl))) (fun _ _ _ _ _ => by exact pts_nil) (fun _ _ _ _ _ => by exact (pe_call (ok_is_integer T) (hr.mono (by decide)) (by rfl) T.m_is_integer T.F_is_integer.kp T.b_is_integer .nil pass0 (pa_cons (pv 3) (pa_cons pe_int (pa_cons (pe_op op_sub (pv 2) pe_int) pa_nil)))))) pa_nil)))))))
        · apply pss_one
          exact (ps_ret pe_bl)
        · exact pss_nil
      apply pss_one
      exact (ps_ret (pe_and (pe_cmpR (k_notIn (K := K) rfl) (pv 1) (pv 0) (by rfl)) (pe_one (pe_cmpR (k_eqD (K := K) rfl hr.units) (pv 0) (k_sortSet (K := K) rfl (by rfl) T.n_sorted (by rfl) T.n_set (pv 0)) (by rfl)))))
    walk_at "sx"
    refine isi_x (b := true) (tyx_l hA) (by decide +kernel) ?_
    walk_at "sx"
    refine ⟨⟨_, hA⟩, fun D nD => ?_⟩
    refine lc_list (fun _ => true) (fun _ => V.bl true) hA nD (by rw [List.length_map, nz_len]; omega) (fun u => rfl) (fun i x _ => tyes) (fun i x hx _ => ?_) (fun H2 e2 hD => ?_)
    · obtain ⟨x, hx', rfl⟩ := at_nz hx
      have := lt x (List.mem_of_getElem? hx')
      intro H3 e3 R hR
      walk_at "sx"
      refine ⟨_, rfl, _, rfl, ?_⟩
      walk_at "sx"
      refine ⟨_, _, _, rfl, ?_⟩
      rw [decide_eq_true (show (0 : Int) ≤ (x : Int) by omega), decide_eq_true (show ((x : Nat) : Int) ≤ (n : Int) - 1 by omega)]
      exact hR _ (Ex.refl _)
    · rw [kept_const, bl_true] at hD
      refine allL (.inl (.inl hD)) ?_
      rw [all_true]
      walk_at "sx"
      have hA2 := ex_l e2 hA
      refine ninL hA2 ?_
      rw [decide_eq_false (fun m => no (nz_mem.mp m))]
      walk_at "sx"
      refine ⟨_, hA2, by rw [nz_len]; omega, fun ms p pw mem np => ?_⟩
      have ep := Ex.new np (o := .lst (ms.map V.int))
      obtain rfl := asc_same pw (lts asc) mem
      refine eqInts (ex_l ep hA2) (.inl (.inl upd_same)) ?_
      rw [decide_eq_true rfl]
      exact k _ (e2.trans ep)
def spIsSite (K : PySem.W.Frag) : Sp := fun vs H Q _ => ∃ (s : Addr) (G : Grid), vs = [.ref s] ∧ GridAt H s G ∧ SiteOk G ∧ ∀ H', Ex H H' → Q (.bl true) H'
theorem ok_is_site (T : Txt K mg) : FnOk P w K mg base CX0 3 T.f_is_site T.fd_is_site ["value"] (spIsSite K) := by
  refine T.F_is_site.ok sc_is_site (fun vs H Q E h => ?_) (fun cdv A outer s H vs Q E hr h => ?_)
  · obtain ⟨s, G, rfl, _⟩ := h
    rfl
  · obtain ⟨s, G, rfl, hS, ok, k⟩ := h
    apply Exists.intro
    apply And.intro
    · apply pss_cons
      · apply ps_if
        · exact (PW.pt (pw_or (pt_not (pt_val (pe_callB (k_isi (K := K) rfl) (by rfl) T.n_isinstance (by decide +kernel) (pa_cons (pv 0) (pa_cons (pe_bltn (v := .ty "list") (by rfl) T.n_list (by decide +kernel) rfl) pa_nil))))) (pw_or1 (pt_not (pt_chain op_le op_le pe_int (pe_callB (k_len (K := K) rfl) (by rfl) T.n_len PySem.boot_len (pa_cons (pv 0) pa_nil)) (pe_glob (v := .int 12) rfl T.c_MOST_PAGES ⟨_, rfl⟩))))))
        · apply pss_one
          exact (ps_ret pe_bl)
        · exact pss_nil
      apply pss_one
      exact (ps_ret (pe_callB (k_all (K := K) rfl rfl) (by rfl) T.n_all (by decide +kernel) (pa_cons (pe_lc (own := [("page", 1), ("row", 2)]) rfl sc_is_site.nd (k_pi_enum (K := K) rfl (by rfl) T.n_enumerate (pa_cons (pv 0) pa_nil)) (blkOk_by (own := [("page", 1), ("row", 2)]) (N := ["value", "page", "row"]) (sc := defScope s_is_site) (by decide +kernel)) (fun _ _ _ _ _ => by exact (k_tup (K := K) (n := 2) rfl rfl (pgs_cons (pg_name (i := 1) sc_is_site.nd rfl (.inl rfl)) (pgs_cons (pg_name (i := 2) sc_is_site.nd rfl (.inl rfl)) pgs_nil)))) (fun _ _ _ _ _ => by exact pts_nil) (fun _ _ _ _ _ => by exact (pe_call (ok_is_row T) (hr.mono (by decide)) (by rfl) T.m_is_row T.F_is_row.kp T.b_is_row .nil pass0 (pa_cons (pv 2) (pa_cons (pv 1) (pa_cons (pe_callB (k_len (K := K) rfl) (by rfl) T.n_len PySem.boot_len (pa_cons (pv 0) pa_nil)) pa_nil)))))) pa_nil)))
    obtain ⟨xs, hs, hl, hrow⟩ := hS.lst
    have n1 := ok.n1
    have n2 := ok.n2
    walk_at "sx"
    refine isi_x (b := true) (tyx_l (.inl (.inl hs))) (by decide +kernel) ?_
    walk_at "sx"
    refine lenL (.inl (.inl hs)) ?_
    walk_at "sx"
    rw [hl]
    have c1 : (1 : Int) ≤ ((G.length : Nat) : Int) := by omega
    have c2 : ((G.length : Nat) : Int) ≤ 12 := by omega
    simp only [c1, c2]
    walk_at "sx"
    refine ⟨_, .inl (.inl hs), fun D nD => ?_⟩
    refine lc_enum (fun _ => true) (fun _ => V.bl true) (.inl (.inl hs)) nD (by omega) (fun u v => rfl) (fun i x _ => tyes) (fun i x hx _ => ?_) (fun H2 e2 hD => ?_)
    · obtain ⟨hi, p, rfl, hp⟩ := hrow i x hx
      intro H3 e3 R hR
      walk_at "sx"
      refine ⟨_, rfl, _, rfl, _, rfl, ?_⟩
      refine lenL (.inl (.inl (e3 _ _ hs))) ?_
      rw [hl]
      have at' := at_row hi
      refine ⟨p, row G i, i, G.length, rfl, .inl (.inl (e3 _ _ hp)), ok.asc i _ at', ok.lt i _ at', ok.no i _ at', ok.rlen i, fun H4 e4 => hR _ e4⟩
    · rw [kept_const, bl_true] at hD
      refine allL (.inl (.inl hD)) ?_
      rw [all_true]
      exact k _ e2
def spChkSite (K : PySem.W.Frag) : Sp := fun vs H Q _ => ∃ (s : Addr) (G : Grid), vs = [.ref s] ∧ GridAt H s G ∧ SiteOk G ∧ ∀ H', Ex H H' → Q .non H'
theorem ok_check_site (T : Txt K mg) : FnOk P w K mg base CX0 4 T.f_check_site T.fd_check_site ["site"] (spChkSite K) := by
  refine T.F_check_site.ok sc_check_site (fun vs H Q E h => ?_) (fun cdv A outer s H vs Q E hr h => ?_)
  · obtain ⟨s, G, rfl, _⟩ := h
    rfl
  · obtain ⟨s, G, rfl, hS, ok, k⟩ := h
    apply Exists.intro
    apply And.intro
    · apply pss_one
      apply ps_if
      · exact (pt_not (pt_val (pe_call (ok_is_site T) (hr.mono (by decide)) (by rfl) T.m_is_site T.F_is_site.kp T.b_is_site .nil pass0 (pa_cons (pv 0) pa_nil))))
      · apply pss_one
        exact ps_never
      · exact pss_nil
    walk_at "sx"
    refine ⟨s, G, rfl, hS, ok, fun H1 e1 => ?_⟩
    walk_at "sx"
    exact k _ e1
def spChkPage (K : PySem.W.Frag) : Sp := fun vs H Q _ => ∃ (s : Addr) (G : Grid) (p : Nat), vs = [.ref s, .int p] ∧ GridAt H s G ∧ p < G.length ∧ Q .non H
theorem ok_check_page (T : Txt K mg) : FnOk P w K mg base CX0 2 T.f_check_page T.fd_check_page ["site", "page"] (spChkPage K) := by
  refine T.F_check_page.ok sc_check_page (fun vs H Q E h => ?_) (fun cdv A outer s H vs Q E hr h => ?_)
  · obtain ⟨s, G, p, rfl, _⟩ := h
    rfl
  · obtain ⟨s, G, p, rfl, hS, hp, k⟩ := h
    apply Exists.intro
    apply And.intro
    · apply pss_one
      apply ps_if
      · exact (pt_not (pt_val (pe_call (ok_is_integer T) (hr.mono (by decide)) (by rfl) T.m_is_integer T.F_is_integer.kp T.b_is_integer .nil pass0 (pa_cons (pv 1) (pa_cons pe_int (pa_cons (pe_op op_sub (pe_callB (k_len (K := K) rfl) (by rfl) T.n_len PySem.boot_len (pa_cons (pv 0) pa_nil)) pe_int) pa_nil))))))
      · apply pss_one
        exact ps_never
      · exact pss_nil
    obtain ⟨xs, hs, hl, hrow⟩ := hS.lst
    walk_at "sx"
    refine lenL (.inl (.inl hs)) ?_
    walk_at "sx"
    rw [hl]
    refine ⟨_, _, _, rfl, ?_⟩
    rw [decide_eq_true (show (0 : Int) ≤ (p : Int) by omega), decide_eq_true (show ((p : Nat) : Int) ≤ ((G.length : Nat) : Int) - 1 by omega)]
    walk_at "sx"
    exact k
def spChkPages (K : PySem.W.Frag) : Sp := fun vs H Q _ => ∃ (s a : Addr) (G : Grid) (L : List Nat), vs = [.ref s, .ref a] ∧ GridAt H s G ∧ SqL K H a ((nz L).map V.int) ∧ L.Nodup ∧ (∀ x ∈ L, x < G.length) ∧ G.length ≤ 12 ∧ ∀ H', Ex H H' → Q .non H'
theorem ok_check_pages (T : Txt K mg) : FnOk P w K mg base CX0 2 T.f_check_pages T.fd_check_pages ["site", "pages"] (spChkPages K) := by
  refine T.F_check_pages.ok sc_check_pages (fun vs H Q E h => ?_) (fun cdv A outer s H vs Q E hr h => ?_)
  · obtain ⟨s, a, G, L, rfl, _⟩ := h
    rfl
  · obtain ⟨s, a, G, L, rfl, hS, hA, nd, lt, g12, k⟩ := h
    apply Exists.intro
    apply And.intro
    · apply pss_cons
      · apply ps_if
        · exact (PW.pt (pw_or (pt_not (pt_val (pe_callB (k_isi (K := K) rfl) (by rfl) T.n_isinstance (by decide +kernel) (pa_cons (pv 1) (pa_cons (pe_bltn (v := .ty "list") (by rfl) T.n_list (by decide +kernel) rfl) pa_nil))))) (pw_or1 (pt_not (pt_val (pe_callB (k_all (K := K) rfl rfl) (by rfl) T.n_all (by decide +kernel) (pa_cons (pe_lc (own := [("page", 2)]) rfl sc_check_pages.nd (k_pi_list (K := K) rfl (pv 1)) (blkOk_by (own := [("page", 2)]) (N := ["site", "pages", "page"]) (sc := defScope s_check_pages) (by decide +kernel)) (fun _ _ _ _ _ => by exact (pg_name (i := 2) sc_check_pages.nd rfl (.inl rfl))) (fun _ _ _ _ _ => by exact pts_nil) (fun _ _ _ _ _ => by exact (pe_call (ok_is_integer T) (hr.mono (by decide)) (by rfl) T.m_is_integer T.F_is_integer.kp T.b_is_integer .nil pass0 (pa_cons (pv 2) (pa_cons pe_int (pa_cons (pe_op op_sub (pe_callB (k_len (K := K) rfl) (by rfl) T.n_len PySem.boot_len (pa_cons (pv 0) pa_nil)) pe_int) pa_nil)))))) pa_nil)))))))
        · apply pss_one
          exact ps_never
        · exact pss_nil
      apply pss_one
      apply ps_if
      · exact (pt_cmpR op_ne (k_lenSet (K := K) rfl (by rfl) T.n_len (by rfl) T.n_set (pv 1)) (pe_callB (k_len (K := K) rfl) (by rfl) T.n_len PySem.boot_len (pa_cons (pv 1) pa_nil)) (by rfl))
      · apply pss_one
        exact ps_never
      · exact pss_nil
    obtain ⟨xs, hs, hl, hrow⟩ := hS.lst
    have ll := nodup_lt _ nd lt
    walk_at "sx"
    refine isi_x (b := true) (tyx_l hA) (by decide +kernel) ?_
    walk_at "sx"
    refine ⟨⟨_, hA⟩, fun D nD => ?_⟩
    refine lc_list (fun _ => true) (fun _ => V.bl true) hA nD (by rw [List.length_map, nz_len]; omega) (fun u => rfl) (fun i x _ => tyes) (fun i x hx _ => ?_) (fun H2 e2 hD => ?_)
    · obtain ⟨x, hx', rfl⟩ := at_nz hx
      have := lt x (List.mem_of_getElem? hx')
      intro H3 e3 R hR
      walk_at "sx"
      refine ⟨_, rfl, _, rfl, ?_⟩
      refine lenL (.inl (.inl (e3 _ _ hs))) ?_
      walk_at "sx"
      rw [hl]
      refine ⟨_, _, _, rfl, ?_⟩
      rw [decide_eq_true (show (0 : Int) ≤ (x : Int) by omega), decide_eq_true (show ((x : Nat) : Int) ≤ ((G.length : Nat) : Int) - 1 by omega)]
      exact hR _ (Ex.refl _)
    · rw [kept_const, bl_true] at hD
      refine allL (.inl (.inl hD)) ?_
      rw [all_true]
      walk_at "sx"
      have hA2 := ex_l e2 hA
      refine ⟨_, hA2, nz_nodup nd, by rw [nz_len]; omega, ?_⟩
      refine lenL hA2 ?_
      rw [List.length_map]
      walk_at "sx"
      exact k _ e2
end
section
variable {P : Program} {w : World} {K : PySem.W.Frag} {mg : Str → Option Value} {base : Heap}
/-- each page links to the next one -/
def linked (G : Grid) : List Nat → Bool
  | [] => true
  | [_] => true
  | p :: q :: l => decide (q ∈ row G p) && linked G (q :: l)
theorem linked_all (G : Grid) : ∀ l : List Nat, linked G l = ((List.range (l.length - 1)).map fun i => decide (l.getD (i + 1) 0 ∈ row G (l.getD i 0))).all id
  | [] => rfl
  | [_] => rfl
  | p :: q :: l => by
    have ih := linked_all G (q :: l)
    show (decide (q ∈ row G p) && linked G (q :: l)) = _
    rw [ih]
    show _ = ((List.range (l.length + 1)).map _).all id
    rw [List.range_succ_eq_map, List.map_cons, List.all_cons, List.map_map]
    rfl
def spLinked (K : PySem.W.Frag) : Sp := fun vs H Q _ => ∃ (s a : Addr) (G : Grid) (L : List Nat), vs = [.ref s, .ref a] ∧ GridAt H s G ∧ SqL K H a ((nz L).map V.int) ∧ L ≠ [] ∧ (∀ x ∈ L, x < G.length) ∧ L.length ≤ 1000 ∧ ∀ H', Ex H H' → Q (.bl (linked G L)) H'
theorem ok_is_linked_on (T : Txt K mg) : FnOk P w K mg base CX0 2 T.f_is_linked_on T.fd_is_linked_on ["site", "value"] (spLinked K) := by
  refine T.F_is_linked_on.ok sc_is_linked_on (fun vs H Q E h => ?_) (fun cdv A outer s H vs Q E hr h => ?_)
  · obtain ⟨s, a, G, L, rfl, _⟩ := h
    rfl
  · obtain ⟨s, a, G, L, rfl, hS, hA, ne, lt, ll, k⟩ := h
    apply Exists.intro
    apply And.intro
    · apply pss_cons
      · apply ps_if
        · exact (PW.pt (pw_or (pt_not (pt_val (pe_callB (k_isi (K := K) rfl) (by rfl) T.n_isinstance (by decide +kernel) (pa_cons (pv 1) (pa_cons (pe_bltn (v := .ty "list") (by rfl) T.n_list (by decide +kernel) rfl) pa_nil))))) (pw_or1 (pt_cmpR (k_eqD (K := K) rfl hr.units) (pv 1) (pe_lst pa_nil) (by rfl)))))
        · apply pss_one
          exact (ps_ret pe_bl)
        · exact pss_nil
      apply pss_cons
      · apply ps_if
        · exact (pt_not (pt_val (pe_callB (k_all (K := K) rfl rfl) (by rfl) T.n_all (by decide +kernel) (pa_cons (pe_lc (own := [("page", 2)]) rfl sc_is_linked_on.nd (k_pi_list (K := K) rfl (pv 1)) (blkOk_by (own := [("page", 2)]) (N := ["site", "value", "page", "other"]) (sc := defScope s_is_linked_on) (by decide +kernel)) (fun _ _ _ _ _ => by exact (pg_name (i := 2) sc_is_linked_on.nd rfl (.inl rfl))) (fun _ _ _ _ _ => by exact pts_nil) (fun _ _ _ _ _ => by exact (pe_call (ok_is_integer T) (hr.mono (by decide)) (by rfl) T.m_is_integer T.F_is_integer.kp T.b_is_integer .nil pass0 (pa_cons (pv 2) (pa_cons pe_int (pa_cons (pe_op op_sub (pe_callB (k_len (K := K) rfl) (by rfl) T.n_len PySem.boot_len (pa_cons (pv 0) pa_nil)) pe_int) pa_nil)))))) pa_nil))))
        · apply pss_one
          exact (ps_ret pe_bl)
        · exact pss_nil
      apply pss_one
      exact (ps_ret (pe_callB (k_all (K := K) rfl rfl) (by rfl) T.n_all (by decide +kernel) (pa_cons (pe_lc (own := [("page", 2), ("other", 3)]) rfl sc_is_linked_on.nd (k_pi_zipA (K := K) rfl (by rfl) T.n_zip (pa_cons (pv 1) (pa_cons (pe_slice (k_sl_list (K := K) rfl) (pv 1) (po_some pe_int) po_none) pa_nil))) (blkOk_by (own := [("page", 2), ("other", 3)]) (N := ["site", "value", "page", "other"]) (sc := defScope s_is_linked_on) (by decide +kernel)) (fun _ _ _ _ _ => by exact (k_tup (K := K) (n := 2) rfl rfl (pgs_cons (pg_name (i := 2) sc_is_linked_on.nd rfl (.inl rfl)) (pgs_cons (pg_name (i := 3) sc_is_linked_on.nd rfl (.inl rfl)) pgs_nil)))) (fun _ _ _ _ _ => by exact pts_nil) (fun _ _ _ _ _ => by exact (pe_cmpR (k_in (K := K) rfl) (pv 3) (pe_ix (k_ix_list (K := K) rfl) (pv 0) (pv 2) (fun _ _ => rfl)) (by rfl)))) pa_nil)))
    obtain ⟨xs, hs, hl, hrow⟩ := hS.lst
    have lp := List.length_pos_iff.mpr ne
    walk_at "sx"
    refine isi_x (b := true) (tyx_l hA) (by decide +kernel) ?_
    walk_at "sx"
    refine ⟨sz_ok (by omega), fun z nz1 => ?_⟩
    have e0 := Ex.new nz1 (o := .lst [])
    refine eqInts (ms := []) (ex_l e0 hA) (.inl (.inl upd_same)) ?_
    rw [decide_eq_false (fun e => ne (by unfold nz at e; exact List.map_eq_nil_iff.mp e))]
    walk_at "sx"
    have hA1 := ex_l e0 hA
    have hs1 := e0 _ _ hs
    refine ⟨⟨_, hA1⟩, fun D nD => ?_⟩
    refine lc_list (fun _ => true) (fun _ => V.bl true) hA1 nD (by rw [List.length_map, nz_len]; omega) (fun u => rfl) (fun i x _ => tyes) (fun i x hx _ => ?_) (fun H2 e2 hD => ?_)
    · obtain ⟨x, hx', rfl⟩ := at_nz hx
      have := lt x (List.mem_of_getElem? hx')
      intro H3 e3 R hR
      walk_at "sx"
      refine ⟨_, rfl, _, rfl, ?_⟩
      refine lenL (.inl (.inl (e3 _ _ hs1))) ?_
      walk_at "sx"
      rw [hl]
      refine ⟨_, _, _, rfl, ?_⟩
      rw [decide_eq_true (show (0 : Int) ≤ (x : Int) by omega), decide_eq_true (show ((x : Nat) : Int) ≤ ((G.length : Nat) : Int) - 1 by omega)]
      exact hR _ (Ex.refl _)
    · rw [kept_const, bl_true] at hD
      refine allL (.inl (.inl hD)) ?_
      rw [all_true]
      walk_at "sx"
      have hA2 := ex_l e2 hA1
      have hs2 := e2 _ _ hs1
      have e02 := e0.trans e2
      refine slL hA2 fun y ny => ?_
      have ey := Ex.new ny (o := .lst (cutV ((nz L).map V.int) (some 1) none))
      have hy : (upd H2 y (.lst (cutV ((nz L).map V.int) (some 1) none))) y = some (.lst (((nz L).map V.int).drop 1)) := by rw [upd_same, cutV_from1]
      generalize (upd H2 y (.lst (cutV ((nz L).map V.int) (some 1) none))) = H3 at ey hy ⊢
      refine ⟨_, _, ⟨rfl, rfl⟩, _, _, .inl ⟨ex_l ey hA2, .inl (.inl hy), fun D2 nD2 => ?_⟩⟩
      refine lc_zipM (L.length - 1) (fun _ => true) (fun i => V.bl (decide (L.getD (i + 1) 0 ∈ row G (L.getD i 0)))) (ex_l ey hA2) (.inl (.inl hy)) (by rw [List.length_map, nz_len]; omega) (by rw [List.length_drop, List.length_map, nz_len]; omega) (.inr (by rw [List.length_drop, List.length_map, nz_len])) nD2 (by omega) (fun u v => rfl) (fun i u v _ _ => tyes) (fun i u v hu hv _ => ?_) (fun H4 e4 hD2 => ?_)
      · rw [List.getElem?_drop] at hv
        obtain ⟨p, hp, rfl⟩ := at_nz hu
        obtain ⟨q, hq, rfl⟩ := at_nz hv
        have pl := lt p (List.mem_of_getElem? hp)
        obtain ⟨r, rs, g1, g2, g3, g4⟩ := ((hS.ex e02).ex ey).get pl
        intro H5 e5 R hR
        walk_at "sx"
        refine ⟨_, rfl, _, rfl, _, rfl, ?_⟩
        refine ixL (.inl (.inl (e5 _ _ g1))) (atI_n rfl g3) ?_
        refine inL (.inl (.inl (e5 _ _ g4))) ?_
        rw [List.getD_eq_getElem?_getD, List.getD_eq_getElem?_getD, hp, Nat.add_comm i 1, hq] at hR
        have e : decide (((q : Nat) : Int) ∈ nz (row G p)) = decide (q ∈ row G p) := by
          by_cases z : q ∈ row G p
          · rw [decide_eq_true z, decide_eq_true (nz_mem.mpr z)]
          · rw [decide_eq_false z, decide_eq_false (fun m => z (nz_mem.mp m))]
        rw [e]
        exact hR _ (Ex.refl _)
      · rw [kept_all] at hD2
        have e5 : (List.range (L.length - 1)).map (fun i => V.bl (decide (L.getD (i + 1) 0 ∈ row G (L.getD i 0)))) = ((List.range (L.length - 1)).map fun i => decide (L.getD (i + 1) 0 ∈ row G (L.getD i 0))).map V.bl := by rw [List.map_map]; rfl
        rw [e5] at hD2
        refine allL (.inl (.inl hD2)) ?_
        rw [← linked_all]
        exact k _ ((e02.trans ey).trans e4)
def spWalkOn (K : PySem.W.Frag) : Sp := fun vs H Q _ => ∃ (s a : Addr) (G : Grid) (L : List Nat), vs = [.ref s, .ref a] ∧ GridAt H s G ∧ SqL K H a ((nz L).map V.int) ∧ L ≠ [] ∧ (∀ x ∈ L, x < G.length) ∧ L.length ≤ 61 ∧ ∀ H', Ex H H' → Q (.bl (linked G L)) H'
theorem ok_is_walk_on (T : Txt K mg) : FnOk P w K mg base CX0 3 T.f_is_walk_on T.fd_is_walk_on ["site", "value"] (spWalkOn K) := by
  refine T.F_is_walk_on.ok sc_is_walk_on (fun vs H Q E h => ?_) (fun cdv A outer s H vs Q E hr h => ?_)
  · obtain ⟨s, a, G, L, rfl, _⟩ := h
    rfl
  · obtain ⟨s, a, G, L, rfl, hS, hA, ne, lt, ll, k⟩ := h
    apply Exists.intro
    apply And.intro
    · apply pss_one
      exact (ps_ret (pe_and (pe_call (ok_is_linked_on T) (hr.mono (by decide)) (by rfl) T.m_is_linked_on T.F_is_linked_on.kp T.b_is_linked_on .nil pass0 (pa_cons (pv 0) (pa_cons (pv 1) pa_nil))) (pe_one (pe_cmpR op_le (pe_callB (k_len (K := K) rfl) (by rfl) T.n_len PySem.boot_len (pa_cons (pv 1) pa_nil)) (pe_op op_add (pe_glob (v := .int 60) rfl T.c_MOST_STEPS ⟨_, rfl⟩) pe_int) (by rfl)))))
    walk_at "sx"
    refine ⟨s, a, G, L, rfl, hS, hA, ne, lt, by omega, fun H1 e1 => ?_⟩
    cases c : linked G L with
    | false =>
      rw [c] at k
      walk_at "sx"
      exact k _ e1
    | true =>
      rw [c] at k
      walk_at "sx"
      refine lenL (ex_l e1 hA) ?_
      walk_at "sx"
      rw [List.length_map, nz_len, decide_eq_true (show ((L.length : Nat) : Int) ≤ 60 + 1 by omega)]
      exact k _ e1
def spWalk (K : PySem.W.Frag) : Sp := fun vs H Q _ => ∃ (s a : Addr) (G : Grid) (L : List Nat), vs = [.ref s, .ref a] ∧ GridAt H s G ∧ SiteOk G ∧ SqL K H a ((nz L).map V.int) ∧ L ≠ [] ∧ (∀ x ∈ L, x < G.length) ∧ L.length ≤ 61 ∧ ∀ H', Ex H H' → Q (.bl (linked G L)) H'
theorem ok_is_walk (T : Txt K mg) : FnOk P w K mg base CX0 5 T.f_is_walk T.fd_is_walk ["site", "value"] (spWalk K) := by
  refine T.F_is_walk.ok sc_is_walk (fun vs H Q E h => ?_) (fun cdv A outer s H vs Q E hr h => ?_)
  · obtain ⟨s, a, G, L, rfl, _⟩ := h
    rfl
  · obtain ⟨s, a, G, L, rfl, hS, ok, hA, ne, lt, ll, k⟩ := h
    apply Exists.intro
    apply And.intro
    · apply pss_cons
      · exact (ps_expr (pe_call (ok_check_site T) (hr.mono (by decide)) (by rfl) T.m_check_site T.F_check_site.kp T.b_check_site .nil pass0 (pa_cons (pv 0) pa_nil)))
      apply pss_one
      exact (ps_ret (pe_call (ok_is_walk_on T) (hr.mono (by decide)) (by rfl) T.m_is_walk_on T.F_is_walk_on.kp T.b_is_walk_on .nil pass0 (pa_cons (pv 0) (pa_cons (pv 1) pa_nil))))
    walk_at "sx"
    refine ⟨s, G, rfl, hS, ok, fun H1 e1 => ?_⟩
    refine ⟨s, a, G, L, rfl, hS.ex e1, ex_l e1 hA, ne, lt, ll, fun H2 e2 => k _ (e1.trans e2)⟩
/-- the pages that link to a page -/
def into (G : Grid) (p : Nat) : List Nat := (List.range G.length).filter fun i => decide (p ∈ row G i)
def spInto (K : PySem.W.Frag) : Sp := fun vs H Q _ => ∃ (s : Addr) (G : Grid) (p : Nat), vs = [.ref s, .int p] ∧ GridAt H s G ∧ SiteOk G ∧ p < G.length ∧ ∀ r H', H r = none → Ex H H' → H' r = some (.lst ((nz (into G p)).map V.int)) → Q (.ref r) H'
theorem ok_links_into (T : Txt K mg) : FnOk P w K mg base CX0 5 T.f_links_into T.fd_links_into ["site", "page"] (spInto K) := by
  refine T.F_links_into.ok sc_links_into (fun vs H Q E h => ?_) (fun cdv A outer s H vs Q E hr h => ?_)
  · obtain ⟨s, G, p, rfl, _⟩ := h
    rfl
  · obtain ⟨s, G, p, rfl, hS, ok, hp, k⟩ := h
    apply Exists.intro
    apply And.intro
    · apply pss_cons
      · exact (ps_expr (pe_call (ok_check_site T) (hr.mono (by decide)) (by rfl) T.m_check_site T.F_check_site.kp T.b_check_site .nil pass0 (pa_cons (pv 0) pa_nil)))
      apply pss_cons
      · exact (ps_expr (pe_call (ok_check_page T) (hr.mono (by decide)) (by rfl) T.m_check_page T.F_check_page.kp T.b_check_page .nil pass0 (pa_cons (pv 0) (pa_cons (pv 1) pa_nil))))
      apply pss_one
      exact (ps_ret (pe_lc (own := [("other", 2), ("row", 3)]) rfl sc_links_into.nd (k_pi_enum (K := K) rfl (by rfl) T.n_enumerate (pa_cons (pv 0) pa_nil)) (blkOk_by (own := [("other", 2), ("row", 3)]) (N := ["site", "page", "other", "row"]) (sc := defScope s_links_into) (by decide +kernel)) (fun _ _ _ _ _ => by exact (k_tup (K := K) (n := 2) rfl rfl (pgs_cons (pg_name (i := 2) sc_links_into.nd rfl (.inl rfl)) (pgs_cons (pg_name (i := 3) sc_links_into.nd rfl (.inl rfl)) pgs_nil)))) (fun _ _ _ _ _ => by exact (pts_one (pt_cmpR (k_in (K := K) rfl) (pv 1) (pv 3) (by rfl)))) (fun _ _ _ _ _ => by exact (pv 2))))
    walk_at "sx"
    refine ⟨s, G, rfl, hS, ok, fun H1 e1 => ?_⟩
    have hS1 := hS.ex e1
    refine ⟨s, G, p, rfl, hS1, hp, ?_⟩
    obtain ⟨xs, hs, hl, hrow⟩ := hS1.lst
    have n2 := ok.n2
    refine ⟨_, .inl (.inl hs), fun D nD => ?_⟩
    refine lc_enum (fun i => decide (p ∈ row G i)) (fun i => V.int ((i : Nat) : Int)) (.inl (.inl hs)) nD (by omega) (fun u v => rfl) (fun i x hx => ?_) (fun i x hx _ => ev_var rfl) (fun H2 e2 hD => ?_)
    · obtain ⟨hi, q, rfl, hq⟩ := hrow i x hx
      intro H3 e3 R hR
      walk_at "sx"
      refine ⟨_, rfl, _, rfl, ?_⟩
      refine inL (.inl (.inl (e3 _ _ hq))) ⟨_, rfl, ?_⟩
      have e : decide (((p : Nat) : Int) ∈ nz (row G i)) = decide (p ∈ row G i) := by
        by_cases z : p ∈ row G i
        · rw [decide_eq_true z, decide_eq_true (nz_mem.mpr z)]
        · rw [decide_eq_false z, decide_eq_false (fun m => z (nz_mem.mp m))]
      rw [e]
      exact hR _ (Ex.refl _)
    · rw [hl, kept_rng] at hD
      exact k D H2 (fresh_back e1 nD) (e1.trans e2) hD
end
end LW

set_option Elab.async false
set_option linter.all false
set_option maxRecDepth 100000
set_option maxHeartbeats 4000000
namespace LW
open PySem PySem.Spec PyProof.Rows L2 BC Evl TR EF L2.DX
local macro_rules | `(tactic| walk_at "sx") => `(tactic| try simp only [x_seq, x_next, x_brk, x_cnt, x_nev, x_ret, x_retN, x_drop, x_ifS, x_asg, x_gn, x_gsub, x_par, x_par3, x_aug, x_for, x_lc, x_rng1, x_rng2, x_rng3, x_ilist, x_itup, x_ienum, x_izip, x_izipA, x_istr, x_var, x_c, x_op, x_un, x_test, x_b, x_chain, x_and, x_or, x_not, x_andV, x_orV, x_notV, x_ife, x_nil, x_cons, x_lst, x_tup, x_cb, x_call, x_callK, x_bm, x_bm0, x_tru, x_sl, x_nopart, x_part, x_revL, x_I0, x_I, x_U, x_ip, x_ipC, x_eqI, x_neI, x_eqB, x_neB, x_eqS, x_neS, x_isB, x_isNB, x_lrg, x_gall, x_lenSet, x_augS, x_sortSet, x_mulS, x_fmtS, x_gstar, x_inS, x_addS, x_js0, x_js, x_jn, x_fmt, x_rg1, x_rg2, x_dnewK, x_dnewT, x_dget, x_dget1, x_dget2, x_din, x_dnotin, x_dput, x_ikeys, x_ghead, x_fld, x_sfld, x_prop, x_meth, x_make, x_dc,
  L2.start, List.map_cons, List.map_nil, List.length_cons, List.length_nil, Nat.reduceAdd, Nat.reduceSub, Nat.sub_self, Nat.zero_add, List.replicate, List.replicate_succ, List.replicate_zero, List.append_nil, List.cons_append, List.nil_append, List.set_cons_zero, List.set_cons_succ, List.getElem?_cons_zero, List.getElem?_cons_succ, Option.some.injEq, V.int.injEq, V.bl.injEq, V.ref.injEq, V.str.injEq, List.cons.injEq, and_true, true_and, exists_eq_left', exists_eq_left, exists_and_left, exists_eq, if_true, if_false, ite_true, ite_false, Bool.true_eq_false, Bool.false_eq_true, reduceIte, reduceCtorEq, Bool.not_true, Bool.not_false, decide_true, decide_false, decide_eq_true_eq, Bool.and_true, Bool.true_and, Bool.and_self, Bool.and_false, Bool.false_and, Bool.or_self, Bool.or_false, Bool.false_or, Bool.or_true, Bool.true_or, eq_self])
section
variable {P : Program} {w : World} {K : PySem.W.Frag} {mg : Str → Option Value} {base : Heap}
/-- the site without the links of some pages -/
def wor (G : Grid) (L : List Nat) (i : Nat) : List Nat := if i ∈ L then [] else (row G i).filter fun x => !decide (x ∈ L)
def wo (G : Grid) (L : List Nat) : Grid := (List.range G.length).map (wor G L)
theorem wo_len (G : Grid) (L : List Nat) : (wo G L).length = G.length := by unfold wo; rw [List.length_map, List.length_range]
theorem wo_row {G : Grid} {L : List Nat} {i : Nat} (h : i < G.length) : row (wo G L) i = wor G L i := by
  unfold row wo
  rw [List.getD_eq_getElem?_getD, List.getElem?_map, List.getElem?_range h]
  rfl
theorem wo_ok {G : Grid} (h : SiteOk G) (L : List Nat) : SiteOk (wo G L) := by
  have key : ∀ (i : Nat) (r : List Nat), (wo G L)[i]? = some r → i < G.length ∧ r = wor G L i := fun i r e => by
    have hi := (List.getElem?_eq_some_iff.mp e).1
    rw [wo_len] at hi
    refine ⟨hi, ?_⟩
    rw [← wo_row hi, row_at e]
  have sub : ∀ i, (wor G L i).Sublist (row G i) := fun i => by
    unfold wor
    split
    · exact List.nil_sublist _
    · exact List.filter_sublist
  refine ⟨by rw [wo_len]; exact h.n1, by rw [wo_len]; exact h.n2, fun i r e => ?_, fun i r e x hx => ?_, fun i r e hx => ?_⟩
  · obtain ⟨hi, rfl⟩ := key i r e
    exact (h.asc i _ (at_row hi)).sublist (sub i)
  · obtain ⟨hi, rfl⟩ := key i r e
    rw [wo_len]
    exact h.lt i _ (at_row hi) x ((sub i).subset hx)
  · obtain ⟨hi, rfl⟩ := key i r e
    exact h.no i _ (at_row hi) ((sub i).subset hx)
theorem grid_ext {F G : Grid} (h : F.length = G.length) (e : ∀ i, i < G.length → row F i = row G i) : F = G := by
  apply List.ext_getElem?
  intro i
  by_cases hi : i < G.length
  · rw [at_row hi, at_row (by omega), e i hi]
  · rw [List.getElem?_eq_none (by omega), List.getElem?_eq_none (by omega)]
theorem wo_wo (G : Grid) (L M : List Nat) : wo (wo G L) M = wo G (L ++ M) := by
  refine grid_ext (by rw [wo_len, wo_len, wo_len]) fun i hi => ?_
  rw [wo_len] at hi
  rw [wo_row (by rw [wo_len]; exact hi), wo_row hi]
  unfold wor
  rw [wo_row hi]
  unfold wor
  by_cases a : i ∈ L <;> by_cases b : i ∈ M <;> simp [a, b, List.filter_filter, Bool.and_comm]
theorem wo_nil (G : Grid) : wo G [] = G := by
  refine grid_ext (wo_len _ _) fun i hi => ?_
  rw [wo_row hi]
  unfold wor
  simp
theorem wo_same {G : Grid} {L M : List Nat} (h : ∀ x, x ∈ L ↔ x ∈ M) : wo G L = wo G M := by
  refine grid_ext (by rw [wo_len, wo_len]) fun i hi => ?_
  rw [wo_len] at hi
  rw [wo_row hi, wo_row hi]
  unfold wor
  simp [h]
theorem dec_nz (x : Nat) (L : List Nat) : decide (((x : Nat) : Int) ∈ nz L) = decide (x ∈ L) := by
  by_cases z : x ∈ L
  · rw [decide_eq_true z, decide_eq_true (nz_mem.mpr z)]
  · rw [decide_eq_false z, decide_eq_false (fun m => z (nz_mem.mp m))]
def spWo (K : PySem.W.Frag) : Sp := fun vs H Q _ => ∃ (s a : Addr) (G : Grid) (L : List Nat), vs = [.ref s, .ref a] ∧ GridAt H s G ∧ SiteOk G ∧ SqL K H a ((nz L).map V.int) ∧ L.Nodup ∧ (∀ x ∈ L, x < G.length) ∧ ∀ r H', Ex H H' → GridN H H' r (wo G L) → Q (.ref r) H'
def JWo (H : Hp) (s a : Addr) (G : Grid) (L : List Nat) (i : Nat) (σ' : L2.St) (H' : Hp) : Prop := ∃ f l3 l4, σ' = [some (.ref s), some (.ref a), some (.ref f), l3, l4, none] ∧ Ex H H' ∧ GridN H H' f ((List.range i).map (wor G L))
theorem ok_site_without (T : Txt K mg) : FnOk P w K mg base CX0 5 T.f_site_without T.fd_site_without ["site", "pages"] (spWo K) := by
  refine T.F_site_without.ok sc_site_without (fun vs H Q E h => ?_) (fun cdv A outer s H vs Q E hr h => ?_)
  · obtain ⟨s, a, G, L, rfl, _⟩ := h
    rfl
  · obtain ⟨s, a, G, L, rfl, hS, ok, hA, nd, lt, k⟩ := h
    apply Exists.intro
    apply And.intro
    · apply pss_cons
      · exact (ps_expr (pe_call (ok_check_site T) (hr.mono (by decide)) (by rfl) T.m_check_site T.F_check_site.kp T.b_check_site .nil pass0 (pa_cons (pv 0) pa_nil)))
      apply pss_cons
      · exact (ps_expr (pe_call (ok_check_pages T) (hr.mono (by decide)) (by rfl) T.m_check_pages T.F_check_pages.kp T.b_check_pages .nil pass0 (pa_cons (pv 0) (pa_cons (pv 1) pa_nil))))
      apply pss_cons
      · exact (ps_set (i := 2) sc_site_without.nd rfl (.inl rfl) (pe_lst pa_nil))
      apply pss_cons
      · apply ps_for PassesOwn.never rfl
        · exact (k_pi_enum (K := K) rfl (by rfl) T.n_enumerate (pa_cons (pv 0) pa_nil))
        · exact (k_tup (K := K) (n := 2) rfl rfl (pgs_cons (pg_name (i := 3) sc_site_without.nd rfl (.inl rfl)) (pgs_cons (pg_name (i := 4) sc_site_without.nd rfl (.inl rfl)) pgs_nil)))
        · apply pss_one
          exact (ps_expr (k_bm (K := K) rfl (pe_bm PySem.F.plainAttrs_list PySem.F.slot_list_append PySem.F.type_list_append mt_append (pv 2) (pa_cons (pe_ifExp (pt_cmpR (k_notIn (K := K) rfl) (pv 3) (pv 1) (by rfl)) (pe_lc (own := [("other", 5)]) rfl sc_site_without.nd (k_pi_list (K := K) rfl (pv 4)) (blkOk_by (own := [("other", 5)]) (N := ["site", "pages", "found", "page", "row", "other"]) (sc := defScope s_site_without) (by decide +kernel)) (fun _ _ _ _ _ => by exact (pg_name (i := 5) sc_site_without.nd rfl (.inl rfl))) (fun _ _ _ _ _ => by exact (pts_one (pt_cmpR (k_notIn (K := K) rfl) (pv 5) (pv 1) (by rfl)))) (fun _ _ _ _ _ => by exact (pv 5))) (pe_lst pa_nil)) pa_nil))))
      apply pss_one
      exact (ps_ret (pv 2))
    have n2 := ok.n2
    walk_at "sx"
    refine ⟨s, G, rfl, hS, ok, fun H1 e1 => ?_⟩
    refine ⟨s, a, G, L, rfl, hS.ex e1, ex_l e1 hA, nd, lt, ok.n2, fun H2 e2 => ?_⟩
    refine ⟨sz_ok (by omega), fun f nf => ?_⟩
    have e12 := e1.trans e2
    have e3 := e12.trans (Ex.new nf (o := .lst []))
    have hSf := hS.ex e3
    obtain ⟨xs, hs, hl, hrow⟩ := hSf.lst
    refine ⟨_, .inl (.inl hs), ?_⟩
    have nfH := fresh_back e12 nf
    have g0 : GridN H (upd H2 f (.lst [])) f [] := ⟨nfH, [], upd_same, rfl, List.nodup_nil, List.not_mem_nil, fun i p e => by simp at e⟩
    have base0 : ∀ H', Ex H H' → H' s = some (.lst xs) := fun H' e => by
      obtain ⟨xs0, h1, _⟩ := hS.lst
      have := e3 _ _ h1
      rw [hs] at this
      have h2 := e _ _ h1
      rw [h2]
      exact this.symm
    refine lg_enum (xs := xs) (JWo H s a G L) ⟨f, none, none, rfl, e3, g0⟩ (fun i σ' H' _ hP => by obtain ⟨_, _, _, _, e, _⟩ := hP; exact .inl (.inl (base0 _ e)))
      (fun i x σ' H' T hx hP nT => ?_) (fun σ' H' hP => ?_)
    · obtain ⟨f, l3, l4, rfl, e, gn⟩ := hP
      obtain ⟨hi, p, rfl, hp⟩ := hrow i x hx
      obtain ⟨p', xs', q1, q2, q3, q4⟩ := hS.get hi
      have hs' := base0 _ (Ex.refl H |>.trans e)
      have : xs' = xs := by
        have h1 := e _ _ q1
        rw [hs'] at h1
        injection h1 with h1
        injection h1 with h1
        exact h1.symm
      subst this
      rw [hx] at q3
      obtain rfl : p = p' := by injection q3 with q3; injection q3
      refine g_two upd_same ?_
      have eT := Ex.new nT (o := .tup [V.int i, V.ref p])
      simp only [List.set_cons_zero, List.set_cons_succ]
      have eHT := e.trans eT
      have gT := gn.ex eT
      generalize upd H' T (.tup [V.int i, V.ref p]) = H3 at eT eHT gT ⊢
      have hA3 := ex_l eHT hA
      have hp3 := eHT _ _ q4
      obtain ⟨fs, hfs⟩ : ∃ ys, H3 f = some (.lst ys) := by obtain ⟨_, ps, h1, _⟩ := gT; exact ⟨_, h1⟩
      have fin : ∀ (r : Addr) (H4 : Hp), H3 r = none → Ex H3 H4 → H4 r = some (.lst ((nz (wor G L i)).map V.int)) → rAppend (.ref f) [.ref r] H4 fun x H5 => JWo H s a G L (i + 1) [some (.ref s), some (.ref a), some (.ref f), some (.int i), some (.ref p), none] H5 := fun r H4 nr e4 hr => by
        obtain ⟨ys, h1, h2, g4⟩ := gT.push (fresh_back eHT nr) nr (Nw.of e4) hr
        refine appL h1 (BC.sz_lt (by rw [h2, List.length_map, List.length_range]; omega)) ?_
        refine ⟨f, _, _, rfl, (eHT.trans e4).mut gT.1, ?_⟩
        rw [List.range_succ, List.map_append]
        exact g4
      walk_at "sx"
      refine ⟨tyL hfs, ninL hA3 ?_⟩
      rw [dec_nz]
      by_cases c : i ∈ L
      · rw [decide_eq_true c]
        walk_at "sx"
        refine ⟨sz_ok (by omega), fun r nr => ?_⟩
        refine fin r _ nr (Ex.new nr) ?_
        rw [upd_same]
        unfold wor
        rw [if_pos c]
        rfl
      · rw [decide_eq_false c]
        walk_at "sx"
        refine ⟨⟨_, .inl (.inl hp3)⟩, fun D nD => ?_⟩
        have rl := ok.rlen i
        refine lc_list (xs := (nz (row G i)).map V.int) (fun j => !decide ((row G i).getD j 0 ∈ L)) (fun j => V.int (((row G i).getD j 0 : Nat) : Int)) (.inl (.inl hp3)) nD (by rw [List.length_map, nz_len]; omega) (fun u => rfl) (fun j x hx => ?_) (fun j x hx _ => ?_) (fun H4 e4 hD => ?_)
        · obtain ⟨x, hx', rfl⟩ := at_nz hx
          refine et_is (et_test (ev_op (ev_var rfl) (ev_var rfl) (rv_niL hA3 rfl (flat_ints (nz L))))) ?_
          rw [inV_ints, dec_nz, List.getD_eq_getElem?_getD, hx']
          rfl
        · obtain ⟨x, hx', rfl⟩ := at_nz hx
          refine ev_is (ev_var rfl) ?_
          rw [List.getD_eq_getElem?_getD, hx']
          rfl
        · rw [List.length_map, nz_len, kept_nz (row G i) (fun x => !decide (x ∈ L))] at hD
          refine fin D H4 nD e4 ?_
          rw [hD]
          unfold wor
          rw [if_neg c]
    · obtain ⟨f, l3, l4, rfl, e, gn⟩ := hP
      walk_at "sx"
      rw [hl] at gn
      exact k f _ e gn
end
section
variable {P : Program} {w : World} {K : PySem.W.Frag} {mg : Str → Option Value} {base : Heap}
/-! ### what a page reaches -/
def rcOne (p : List Nat × List Nat) (x : Nat) : List Nat × List Nat := if x ∈ p.1 then p else (p.1 ++ [x], p.2 ++ [x])
def rcRow (r : List Nat) (f u : List Nat) : List Nat × List Nat := r.foldl rcOne (f, u)
def rc (G : Grid) : Nat → List Nat → List Nat → List Nat
  | 0, f, _ => f
  | k + 1, f, u => match u.getLast? with
    | none => f
    | some p => rc G k (rcRow (row G p) f u.dropLast).1 (rcRow (row G p) f u.dropLast).2
def reachT (G : Grid) (p : Nat) : List Nat := rc G (2 * G.length) [p] [p]
def reach (G : Grid) (p : Nat) : List Nat := (List.range G.length).filter fun x => decide (x ∈ reachT G p)
theorem rc_nil (G : Grid) (k : Nat) (f : List Nat) : rc G k f [] = f := by cases k <;> rfl
structure RcOk (n : Nat) (f u f' u' : List Nat) : Prop where
  nd : f'.Nodup
  lt : ∀ x ∈ f', x < n
  ltu : ∀ x ∈ u', x < n
  ln : f'.length + u.length = u'.length + f.length
  le : f.length ≤ f'.length
theorem rcOne_ok {n x : Nat} {f u f' u' : List Nat} (hx : x < n) (h : RcOk n f u f' u') : RcOk n f u (rcOne (f', u') x).1 (rcOne (f', u') x).2 := by
  unfold rcOne
  by_cases c : x ∈ f'
  · rw [if_pos c]; exact h
  · rw [if_neg c]
    refine ⟨List.nodup_append.mpr ⟨h.nd, by simp, fun a ha b hb => by rw [List.mem_singleton.mp hb]; exact fun z => c (z ▸ ha)⟩, fun y hy => ?_, fun y hy => ?_, ?_, ?_⟩
    · rcases List.mem_append.mp hy with z | z
      · exact h.lt y z
      · rw [List.mem_singleton.mp z]; exact hx
    · rcases List.mem_append.mp hy with z | z
      · exact h.ltu y z
      · rw [List.mem_singleton.mp z]; exact hx
    · have := h.ln
      simp only [List.length_append, List.length_singleton]
      omega
    · have := h.le
      simp only [List.length_append, List.length_singleton]
      omega
theorem rcRow_snoc {r : List Nat} {i x : Nat} {f u : List Nat} (h : r[i]? = some x) : rcRow (r.take (i + 1)) f u = rcOne (rcRow (r.take i) f u) x := by
  unfold rcRow
  rw [List.take_add_one, h, List.foldl_append]
  rfl
theorem rcRow_ok {n : Nat} {f u : List Nat} (nd : f.Nodup) (lt : ∀ x ∈ f, x < n) (ltu : ∀ x ∈ u, x < n) : ∀ {r : List Nat}, (∀ x ∈ r, x < n) → RcOk n f u (rcRow r f u).1 (rcRow r f u).2 := fun {r} => by
  have key : ∀ (r : List Nat) (f' u' : List Nat), (∀ x ∈ r, x < n) → RcOk n f u f' u' → RcOk n f u (r.foldl rcOne (f', u')).1 (r.foldl rcOne (f', u')).2 := fun r => by
    induction r with
    | nil => intro f' u' _ h; exact h
    | cons x r ih =>
      intro f' u' hr h
      rw [List.foldl_cons]
      exact ih _ _ (fun y hy => hr y (List.mem_cons_of_mem _ hy)) (rcOne_ok (hr x List.mem_cons_self) h)
  exact fun hr => key r f u hr ⟨nd, lt, ltu, by omega, Nat.le_refl _⟩
def spReach (K : PySem.W.Frag) : Sp := fun vs H Q _ => ∃ (s : Addr) (G : Grid) (p : Nat), vs = [.ref s, .int p] ∧ GridAt H s G ∧ SiteOk G ∧ p < G.length ∧ ∀ r H', H r = none → Ex H H' → H' r = some (.lst ((nz (reach G p)).map V.int)) → Q (.ref r) H'
def JRe (H : Hp) (s fa ua : Addr) (p : Nat) (G : Grid) (m : Nat) (σ' : L2.St) (H' : Hp) : Prop := ∃ l4 f u k, σ' = [some (.ref s), some (.int p), some (.ref fa), some (.ref ua), l4] ∧ Ex H H' ∧ H' fa = some (.lst ((nz f).map V.int)) ∧ H' ua = some (.lst ((nz u).map V.int)) ∧
  f.Nodup ∧ (∀ x ∈ f, x < G.length) ∧ (∀ x ∈ u, x < G.length) ∧ u.length ≤ f.length ∧ m = 2 * (G.length - f.length) + u.length ∧ m ≤ k ∧ rc G k f u = reachT G p
def JRi (H : Hp) (s fa ua : Addr) (p : Nat) (r f u : List Nat) (i : Nat) (σ' : L2.St) (H' : Hp) : Prop := ∃ l4, σ' = [some (.ref s), some (.int p), some (.ref fa), some (.ref ua), l4] ∧ Ex H H' ∧ H' fa = some (.lst ((nz (rcRow (r.take i) f u).1).map V.int)) ∧ H' ua = some (.lst ((nz (rcRow (r.take i) f u).2).map V.int))
theorem ok_reached_from (T : Txt K mg) : FnOk P w K mg base CX0 5 T.f_reached_from T.fd_reached_from ["site", "page"] (spReach K) := by
  refine T.F_reached_from.ok sc_reached_from (fun vs H Q E h => ?_) (fun cdv A outer s H vs Q E hr h => ?_)
  · obtain ⟨s, G, p, rfl, _⟩ := h
    rfl
  · obtain ⟨s, G, p, rfl, hS, ok, hp, k⟩ := h
    apply Exists.intro
    apply And.intro
    · apply pss_cons
      · exact (ps_expr (pe_call (ok_check_site T) (hr.mono (by decide)) (by rfl) T.m_check_site T.F_check_site.kp T.b_check_site .nil pass0 (pa_cons (pv 0) pa_nil)))
      apply pss_cons
      · exact (ps_expr (pe_call (ok_check_page T) (hr.mono (by decide)) (by rfl) T.m_check_page T.F_check_page.kp T.b_check_page .nil pass0 (pa_cons (pv 0) (pa_cons (pv 1) pa_nil))))
      apply pss_cons
      · exact (ps_set (i := 2) sc_reached_from.nd rfl (.inl rfl) (pe_lst (pa_cons (pv 1) pa_nil)))
      apply pss_cons
      · exact (ps_set (i := 3) sc_reached_from.nd rfl (.inl rfl) (pe_lst (pa_cons (pv 1) pa_nil)))
      apply pss_cons
      · apply ps_while PassesOwn.never
        · exact (pt_cmpR (k_neD (K := K) rfl hr.units) (pv 3) (pe_lst pa_nil) (by rfl))
        · apply pss_one
          apply ps_for PassesOwn.never rfl
          · exact (k_pi_list (K := K) rfl (pe_ix (k_ix_list (K := K) rfl) (pv 0) (k_bm0 (K := K) rfl (pe_bm0 PySem.F.plainAttrs_list PySem.F.slot_list_pop PySem.F.type_list_pop mt_pop (pv 3))) (fun _ _ => rfl)))
          · exact (pg_name (i := 4) sc_reached_from.nd rfl (.inl rfl))
          · apply pss_one
            apply ps_if
            · exact (pt_cmpR (k_notIn (K := K) rfl) (pv 4) (pv 2) (by rfl))
            · apply pss_cons
              · exact (ps_expr (k_bm (K := K) rfl (pe_bm PySem.F.plainAttrs_list PySem.F.slot_list_append PySem.F.type_list_append mt_append (pv 2) (pa_cons (pv 4) pa_nil))))
              apply pss_one
              exact (ps_expr (k_bm (K := K) rfl (pe_bm PySem.F.plainAttrs_list PySem.F.slot_list_append PySem.F.type_list_append mt_append (pv 3) (pa_cons (pv 4) pa_nil))))
            · exact pss_nil
      apply pss_one
      exact (ps_ret (pe_callB (k_sorted (K := K) rfl) (by rfl) T.n_sorted (by decide +kernel) (pa_cons (pv 2) pa_nil)))
    have n2 := ok.n2
    walk_at "sx"
    refine ⟨s, G, rfl, hS, ok, fun H1 e1 => ?_⟩
    refine ⟨s, G, p, rfl, hS.ex e1, hp, ?_⟩
    refine ⟨sz_ok (by omega), fun fa nf => ⟨sz_ok (by omega), fun ua nu => ?_⟩⟩
    have e2 := Ex.new nf (o := .lst [V.int p])
    have e3 := Ex.new nu (o := .lst [V.int p])
    have nfu : fa ≠ ua := ne_of_none upd_same nu
    have nfH : H fa = none := fresh_back e1 nf
    have nuH : H ua = none := fresh_back (e1.trans e2) nu
    refine ⟨JRe H s fa ua p G, ⟨_, none, [p], [p], 2 * G.length, rfl, (e1.trans e2).trans e3, e3 _ _ upd_same, upd_same, by simp, fun x hx => by rw [List.mem_singleton.mp hx]; exact hp, fun x hx => by rw [List.mem_singleton.mp hx]; exact hp, Nat.le_refl _, rfl, by simp; omega, rfl⟩, fun m σ' H' hP => ?_⟩
    obtain ⟨l4, f, u, j, rfl, e, hf, hu, nd, lt, ltu, uf, rfl, hj, ht⟩ := hP
    have fl := nodup_lt _ nd lt
    walk_at "sx"
    refine ⟨sz_ok (by omega), fun z nz1 => ?_⟩
    have ez := Ex.new nz1 (o := .lst [])
    refine neInts (ns := nz u) (ms := []) (.inl (.inl (ez _ _ hu))) (.inl (.inl upd_same)) ?_
    by_cases c : u = []
    · subst c
      rw [decide_eq_true (show nz [] = [] from rfl)]
      walk_at "sx"
      rw [rc_nil] at ht
      refine ⟨fa, nz f, rfl, .inl (.inl (ez _ _ hf)), by rw [nz_len]; omega, fun ns' r pm pw nr => ?_⟩
      refine k r _ (fresh_back (e.trans ez) nr) ((e.trans ez).trans (Ex.new nr)) ?_
      rw [upd_same]
      have nd' : ns'.Nodup := pm.nodup_iff.mpr (nz_nodup nd)
      have pw' : ns'.Pairwise (· < ·) := by
        have := List.Pairwise.and pw nd'
        exact this.imp fun h => by omega
      have ea : ns' = nz (reach G p) := by
        refine asc_same pw' (lts (by unfold reach; exact List.Pairwise.filter _ List.pairwise_lt_range)) fun x => ?_
        rw [pm.mem_iff]
        unfold reach
        constructor
        · intro h
          obtain ⟨y, hy, rfl⟩ := List.mem_map.mp h
          exact nz_mem.mpr (List.mem_filter.mpr ⟨List.mem_range.mpr (lt y hy), decide_eq_true (by rw [← ht]; exact hy)⟩)
        · intro h
          obtain ⟨y, hy, rfl⟩ := List.mem_map.mp h
          have := (List.mem_filter.mp hy).2
          rw [decide_eq_true_eq, ← ht] at this
          exact nz_mem.mpr this
      rw [ea]
    · rw [decide_eq_false (fun h => c (by unfold nz at h; exact List.map_eq_nil_iff.mp h))]
      walk_at "sx"
      have up := List.length_pos_iff.mpr c
      obtain ⟨y, hy⟩ : ∃ y, u.getLast? = some y := by
        cases q : u.getLast? with
        | none => rw [List.getLast?_eq_none_iff] at q; exact absurd q c
        | some y => exact ⟨y, rfl⟩
      have hy' : u[u.length - 1]? = some y := by rw [← List.getLast?_eq_getElem?]; exact hy
      have yl := ltu y (List.mem_of_getElem? hy')
      obtain ⟨j, rfl⟩ : ∃ i, j = i + 1 := ⟨j - 1, by omega⟩
      have ht2 : rc G j (rcRow (row G y) f u.dropLast).1 (rcRow (row G y) f u.dropLast).2 = reachT G p := by
        rw [← ht]
        conv => rhs; unfold rc
        rw [hy]
      refine ⟨_, fun σ' H' h => h, ?_⟩
      have hu1 := ez _ _ hu
      refine ⟨tyL hu1, ua, _, .int (y : Int), rfl, rfl, hu1, by rw [List.length_map, nz_len]; exact nz_at hy', ?_⟩
      have edl : ((nz u).map V.int).dropLast = (nz u.dropLast).map V.int := by
        unfold nz
        rw [List.map_map, List.map_map, List.map_dropLast]
      rw [edl]
      have e4 : Ex H (upd (upd H' z (.lst [])) ua (.lst ((nz u.dropLast).map V.int))) := (e.trans ez).mut nuH
      have hf4 : (upd (upd H' z (.lst [])) ua (.lst ((nz u.dropLast).map V.int))) fa = some (.lst ((nz f).map V.int)) := by rw [upd_ne nfu]; exact ez _ _ hf
      have hu4 : (upd (upd H' z (.lst [])) ua (.lst ((nz u.dropLast).map V.int))) ua = some (.lst ((nz u.dropLast).map V.int)) := upd_same
      generalize upd (upd H' z (.lst [])) ua (.lst ((nz u.dropLast).map V.int)) = HA at e4 hf4 hu4 ⊢
      obtain ⟨q, xs, g1, g2, g3, g4⟩ := hS.get yl
      refine ixL (.inl (.inl (e4 _ _ g1))) (atI_n rfl g3) ⟨q, rfl, ⟨_, .inl (.inl (e4 _ _ g4))⟩, ?_⟩
      have ltd : ∀ x ∈ u.dropLast, x < G.length := fun x hx => ltu x (List.dropLast_subset _ hx)
      refine lg_list (xs := (nz (row G y)).map V.int) (JRi H s fa ua p (row G y) f u.dropLast) ⟨l4, rfl, e4, hf4, hu4⟩ (fun i σ' H' _ hP => by obtain ⟨_, _, e, _⟩ := hP; exact .inl (.inl (e _ _ g4))) (fun i x σ' H2 hx hP => ?_) (fun σ' H2 hP => ?_)
      · obtain ⟨l4, rfl, e5, hf5, hu5⟩ := hP
        obtain ⟨x, hx', rfl⟩ := at_nz hx
        have xl := ok.rlt (List.mem_of_getElem? hx')
        have rk := rcRow_ok (n := G.length) (u := u.dropLast) nd lt ltd (r := (row G y).take i) (fun v hv => ok.rlt (List.mem_of_mem_take hv))
        have rfl' := nodup_lt _ rk.nd rk.lt
        have rln := rk.ln
        have udl : u.dropLast.length ≤ 60 := by rw [List.length_dropLast]; omega
        unfold JRi
        rw [rcRow_snoc hx']
        generalize rcRow ((row G y).take i) f u.dropLast = pr at *
        walk_at "sx"
        refine ninL (.inl (.inl hf5)) ?_
        rw [dec_nz]
        unfold rcOne
        by_cases m : x ∈ pr.1
        · rw [decide_eq_true m, if_pos m]
          walk_at "sx"
          exact ⟨e5, hf5, hu5⟩
        · rw [decide_eq_false m, if_neg m]
          walk_at "sx"
          refine ⟨tyL hf5, appL hf5 (BC.sz_lt (by rw [List.length_map, nz_len]; omega)) ?_⟩
          have hu6 : (upd H2 fa (.lst ((nz pr.1).map V.int ++ [V.int (x : Int)]))) ua = some (.lst ((nz pr.2).map V.int)) := by rw [upd_ne (Ne.symm nfu)]; exact hu5
          refine ⟨tyL hu6, appL hu6 (BC.sz_lt (by rw [List.length_map, nz_len]; omega)) ?_⟩
          refine ⟨(e5.mut nfH).mut nuH, ?_, ?_⟩
          · rw [upd_ne nfu, upd_same, nz_v]
          · rw [upd_same, nz_v]
      · obtain ⟨l4, rfl, e5, hf5, hu5⟩ := hP
        rw [List.length_map, nz_len, List.take_length] at hf5 hu5
        have rk := rcRow_ok (n := G.length) (u := u.dropLast) nd lt ltd (r := row G y) (fun v hv => ok.rlt hv)
        have a1 := nodup_lt _ rk.nd rk.lt
        have a2 := rk.ln
        have a3 := rk.le
        have a4 : u.dropLast.length = u.length - 1 := List.length_dropLast
        exact ⟨_, by omega, _, _, _, j, rfl, e5, hf5, hu5, rk.nd, rk.lt, rk.ltu, by omega, rfl, by omega, ht2⟩
/-! ### the links the other way -/
def rev (G : Grid) : Grid := (List.range G.length).map fun v => into G v
def PvB (H : Hp) (G : Grid) (D : Addr) (i : Nat) (H' : Hp) : Prop := Ex H H' ∧ GridN H H' D ((List.range i).map fun v => into G v)
def spRows (K : PySem.W.Frag) : Sp := fun vs H Q _ => ∃ (s : Addr) (G : Grid), vs = [.ref s] ∧ GridAt H s G ∧ SiteOk G ∧ ∀ r H', Ex H H' → GridN H H' r (rev G) → Q (.ref r) H'
theorem ok_reversed_rows (T : Txt K mg) : FnOk P w K mg base CX0 1 T.f_reversed_rows T.fd_reversed_rows ["site"] (spRows K) := by
  refine T.F_reversed_rows.ok sc_reversed_rows (fun vs H Q E h => ?_) (fun cdv A outer s H vs Q E hr h => ?_)
  · obtain ⟨s, G, rfl, _⟩ := h
    rfl
  · obtain ⟨s, G, rfl, hS, ok, k⟩ := h
    apply Exists.intro
    apply And.intro
    · apply pss_one
      exact (ps_ret (pe_lc (own := [("page", 1)]) rfl sc_reversed_rows.nd (pi_range1 (by rfl) T.n_range (pa_cons (pe_callB (k_len (K := K) rfl) (by rfl) T.n_len PySem.boot_len (pa_cons (pv 0) pa_nil)) pa_nil)) (blkOk_by (own := [("page", 1)]) (N := ["site", "page", "other", "row"]) (sc := defScope s_reversed_rows) (by decide +kernel)) (fun _ _ _ _ _ => by exact (pg_name (i := 1) sc_reversed_rows.nd rfl (by first | exact .inl rfl | exact .inr rfl))) (fun _ _ _ _ _ => by exact pts_nil) (fun _ _ _ _ _ => by exact (pe_lc (own := [("other", 2), ("row", 3)]) rfl sc_reversed_rows.nd (k_pi_enum (K := K) rfl (by rfl) T.n_enumerate (pa_cons (pv 0) pa_nil)) (blkOk_by (own := [("other", 2), ("row", 3)]) (N := ["site", "page", "other", "row"]) (by kernel_rfl)) (fun _ _ _ _ _ => by exact (k_tup (K := K) (n := 2) rfl rfl (pgs_cons (pg_name (i := 2) sc_reversed_rows.nd rfl (.inl rfl)) (pgs_cons (pg_name (i := 3) sc_reversed_rows.nd rfl (.inl rfl)) pgs_nil)))) (fun _ _ _ _ _ => by exact (pts_one (pt_cmpR (k_in (K := K) rfl) (pv 1) (pv 3) (by rfl)))) (fun _ _ _ _ _ => by exact (pv 2))))))
    obtain ⟨xs, hs, hl, hrow⟩ := hS.lst
    have n2 := ok.n2
    walk_at "sx"
    refine lenL (.inl (.inl hs)) ?_
    rw [hl]
    refine ⟨_, rfl, by omega, by omega, fun D nD => ?_⟩
    rw [Int.toNat_natCast]
    refine lc_rngE (lo := 0) (n := G.length) (PvB H G D) ⟨Ex.new nD, GridN.nil nD⟩ (fun v HA hv hP => ?_) (fun HA hP => ?_)
    · obtain ⟨eA, gA⟩ := hP
      rw [show (0 : Int) + v = (v : Int) by omega]
      refine ⟨rfl, ?_⟩
      simp only [wipe, List.set_cons_zero, List.set_cons_succ]
      walk_at "sx"
      have hsA := eA _ _ hs
      refine ⟨_, .inl (.inl hsA), fun E nE => ?_⟩
      refine lc_enum (xs := xs) (fun u => decide (v ∈ row G u)) (fun u => V.int ((u : Nat) : Int)) (.inl (.inl hsA)) nE (by omega) (fun u w => rfl) (fun u x hx => ?_) (fun u x hx _ => ev_var rfl) (fun HB eB hE => ?_)
      · obtain ⟨hu, q, rfl, hq⟩ := hrow u x hx
        intro H3 e3 R2 hR2
        walk_at "sx"
        refine ⟨_, rfl, _, rfl, inL (.inl (.inl (e3 _ _ (eA _ _ hq)))) ⟨_, rfl, ?_⟩⟩
        rw [dec_nz]
        exact hR2 _ (Ex.refl _)
      · rw [hl, kept_rng] at hE
        obtain ⟨ys, h1, h2, g10⟩ := gA.push (fresh_back eA nE) nE (Nw.of eB) hE
        refine ⟨ys, h1, BC.sz_lt (by rw [h2, List.length_map, List.length_range]; omega), (eA.trans eB).mut nD, ?_⟩
        rw [List.range_succ, List.map_append]
        exact g10
    · exact k D HA hP.1 hP.2
def spTwo (K : PySem.W.Frag) : Sp := fun vs H Q _ => ∃ (s : Addr) (G : Grid), vs = [.ref s] ∧ GridAt H s G ∧ SiteOk G ∧ ∀ H', Ex H H' → Q (.bl (decide (rev G = G))) H'
theorem ok_is_two_way (T : Txt K mg) : FnOk P w K mg base CX0 5 T.f_is_two_way T.fd_is_two_way ["site"] (spTwo K) := by
  refine T.F_is_two_way.ok sc_is_two_way (fun vs H Q E h => ?_) (fun cdv A outer s H vs Q E hr h => ?_)
  · obtain ⟨s, G, rfl, _⟩ := h
    rfl
  · obtain ⟨s, G, rfl, hS, ok, k⟩ := h
    apply Exists.intro
    apply And.intro
    · apply pss_cons
      · exact (ps_expr (pe_call (ok_check_site T) (hr.mono (by decide)) (by rfl) T.m_check_site T.F_check_site.kp T.b_check_site .nil pass0 (pa_cons (pv 0) pa_nil)))
      apply pss_one
      exact (ps_ret (pe_cmpR (k_eqD (K := K) rfl hr.units) (pe_call (ok_reversed_rows T) (hr.mono (by decide)) (by rfl) T.m_reversed_rows T.F_reversed_rows.kp T.b_reversed_rows .nil pass0 (pa_cons (pv 0) pa_nil)) (pv 0) (by rfl)))
    walk_at "sx"
    refine ⟨s, G, rfl, hS, ok, fun H1 e1 => ?_⟩
    refine ⟨s, G, rfl, hS.ex e1, ok, fun r H2 e2 g2 => ?_⟩
    exact eqGrid g2.at (hS.ex (e1.trans e2)) (k _ (e1.trans e2))
theorem ok_reversed_site (T : Txt K mg) : FnOk P w K mg base CX0 5 T.f_reversed_site T.fd_reversed_site ["site"] (spRows K) := by
  refine T.F_reversed_site.ok sc_reversed_site (fun vs H Q E h => ?_) (fun cdv A outer s H vs Q E hr h => ?_)
  · obtain ⟨s, G, rfl, _⟩ := h
    rfl
  · obtain ⟨s, G, rfl, hS, ok, k⟩ := h
    apply Exists.intro
    apply And.intro
    · apply pss_cons
      · exact (ps_expr (pe_call (ok_check_site T) (hr.mono (by decide)) (by rfl) T.m_check_site T.F_check_site.kp T.b_check_site .nil pass0 (pa_cons (pv 0) pa_nil)))
      apply pss_one
      exact (ps_ret (pe_call (ok_reversed_rows T) (hr.mono (by decide)) (by rfl) T.m_reversed_rows T.F_reversed_rows.kp T.b_reversed_rows .nil pass0 (pa_cons (pv 0) pa_nil)))
    walk_at "sx"
    refine ⟨s, G, rfl, hS, ok, fun H1 e1 => ?_⟩
    exact ⟨s, G, rfl, hS.ex e1, ok, fun r H2 e2 g2 => k r _ (e1.trans e2) (g2.back e1)⟩
/-! ### trails of a site, told whole -/
def spTrOn (K : PySem.W.Frag) : Sp := fun vs H Q _ => ∃ (s a : Addr) (G : Grid) (L : List Nat), vs = [.ref s, .ref a] ∧ GridAt H s G ∧ SqL K H a ((nz L).map V.int) ∧ L ≠ [] ∧ L.Nodup ∧ (∀ x ∈ L, x < G.length) ∧ L.length ≤ 1000 ∧ ∀ H', Ex H H' → Q (.bl (linked G L)) H'
theorem ok_is_trail_on (T : Txt K mg) : FnOk P w K mg base CX0 3 T.f_is_trail_on T.fd_is_trail_on ["site", "value"] (spTrOn K) := by
  refine T.F_is_trail_on.ok sc_is_trail_on (fun vs H Q E h => ?_) (fun cdv A outer s H vs Q E hr h => ?_)
  · obtain ⟨s, a, G, L, rfl, _⟩ := h
    rfl
  · obtain ⟨s, a, G, L, rfl, hS, hA, ne, nd, lt, ll, k⟩ := h
    apply Exists.intro
    apply And.intro
    · apply pss_one
      exact (ps_ret (pe_and (pe_call (ok_is_linked_on T) (hr.mono (by decide)) (by rfl) T.m_is_linked_on T.F_is_linked_on.kp T.b_is_linked_on .nil pass0 (pa_cons (pv 0) (pa_cons (pv 1) pa_nil))) (pe_one (pe_cmpR op_eq (k_lenSet (K := K) rfl (by rfl) T.n_len (by rfl) T.n_set (pv 1)) (pe_callB (k_len (K := K) rfl) (by rfl) T.n_len PySem.boot_len (pa_cons (pv 1) pa_nil)) (by rfl)))))
    walk_at "sx"
    refine ⟨s, a, G, L, rfl, hS, hA, ne, lt, ll, fun H1 e1 => ?_⟩
    cases lk : linked G L with
    | false =>
      rw [lk] at k
      walk_at "sx"
      exact k _ e1
    | true =>
      rw [lk] at k
      walk_at "sx"
      have hA1 := ex_l e1 hA
      refine ⟨nz L, hA1, nz_nodup nd, by rw [nz_len]; omega, lenL hA1 ?_⟩
      rw [List.length_map]
      refine x_eqI.mpr ?_
      rw [decide_eq_true rfl]
      exact k _ e1
def spTrOf (K : PySem.W.Frag) : Sp := fun vs H Q _ => ∃ (s a : Addr) (G : Grid) (L : List Nat), vs = [.ref s, .ref a] ∧ GridAt H s G ∧ SiteOk G ∧ SqL K H a ((nz L).map V.int) ∧ L ≠ [] ∧ L.Nodup ∧ (∀ x ∈ L, x < G.length) ∧ L.length ≤ 1000 ∧ ∀ H', Ex H H' → Q (.bl (linked G L)) H'
theorem ok_is_trail_of (T : Txt K mg) : FnOk P w K mg base CX0 5 T.f_is_trail_of T.fd_is_trail_of ["site", "value"] (spTrOf K) := by
  refine T.F_is_trail_of.ok sc_is_trail_of (fun vs H Q E h => ?_) (fun cdv A outer s H vs Q E hr h => ?_)
  · obtain ⟨s, a, G, L, rfl, _⟩ := h
    rfl
  · obtain ⟨s, a, G, L, rfl, hS, ok, hA, ne, nd, lt, ll, k⟩ := h
    apply Exists.intro
    apply And.intro
    · apply pss_cons
      · exact (ps_expr (pe_call (ok_check_site T) (hr.mono (by decide)) (by rfl) T.m_check_site T.F_check_site.kp T.b_check_site .nil pass0 (pa_cons (pv 0) pa_nil)))
      apply pss_one
      exact (ps_ret (pe_call (ok_is_trail_on T) (hr.mono (by decide)) (by rfl) T.m_is_trail_on T.F_is_trail_on.kp T.b_is_trail_on .nil pass0 (pa_cons (pv 0) (pa_cons (pv 1) pa_nil))))
    walk_at "sx"
    refine ⟨s, G, rfl, hS, ok, fun H1 e1 => ?_⟩
    exact ⟨s, a, G, L, rfl, hS.ex e1, ex_l e1 hA, ne, nd, lt, ll, fun H2 e2 => k _ (e1.trans e2)⟩
end
end LW

set_option Elab.async false
set_option linter.all false
set_option maxRecDepth 100000
set_option maxHeartbeats 4000000
namespace LW
open PySem PySem.Spec PyProof.Rows L2 BC Evl TR EF L2.DX
local macro_rules | `(tactic| walk_at "sx") => `(tactic| try simp only [x_seq, x_next, x_brk, x_cnt, x_nev, x_ret, x_retN, x_drop, x_ifS, x_asg, x_gn, x_gsub, x_par, x_par3, x_aug, x_for, x_lc, x_rng1, x_rng2, x_rng3, x_ilist, x_itup, x_ienum, x_izip, x_izipA, x_istr, x_var, x_c, x_op, x_un, x_test, x_b, x_chain, x_and, x_or, x_not, x_andV, x_orV, x_notV, x_ife, x_nil, x_cons, x_lst, x_tup, x_cb, x_call, x_callK, x_bm, x_bm0, x_tru, x_sl, x_nopart, x_part, x_revL, x_I0, x_I, x_U, x_ip, x_ipC, x_eqI, x_neI, x_eqB, x_neB, x_eqS, x_neS, x_isB, x_isNB, x_lrg, x_gall, x_lenSet, x_augS, x_sortSet, x_mulS, x_fmtS, x_gstar, x_inS, x_addS, x_js0, x_js, x_jn, x_fmt, x_rg1, x_rg2, x_dnewK, x_dnewT, x_dget, x_dget1, x_dget2, x_din, x_dnotin, x_dput, x_ikeys, x_ghead, x_fld, x_sfld, x_prop, x_meth, x_make, x_dc,
  L2.start, List.map_cons, List.map_nil, List.length_cons, List.length_nil, Nat.reduceAdd, Nat.reduceSub, Nat.sub_self, Nat.zero_add, List.replicate, List.replicate_succ, List.replicate_zero, List.append_nil, List.cons_append, List.nil_append, List.set_cons_zero, List.set_cons_succ, List.getElem?_cons_zero, List.getElem?_cons_succ, Option.some.injEq, V.int.injEq, V.bl.injEq, V.ref.injEq, V.str.injEq, List.cons.injEq, and_true, true_and, exists_eq_left', exists_eq_left, exists_and_left, exists_eq, if_true, if_false, ite_true, ite_false, Bool.true_eq_false, Bool.false_eq_true, reduceIte, reduceCtorEq, Bool.not_true, Bool.not_false, decide_true, decide_false, decide_eq_true_eq, Bool.and_true, Bool.true_and, Bool.and_self, Bool.and_false, Bool.false_and, Bool.or_self, Bool.or_false, Bool.false_or, Bool.or_true, Bool.true_or, eq_self])
/-! ### trails.py and lengths.py -/
section
variable {P : Program} {w : World} {K : PySem.W.Frag} {mg : Str → Option Value} {base : Heap}
theorem ints_at {ns : List Int} {i : Nat} {v : V} (h : (ns.map V.int)[i]? = some v) : ∃ n, ns[i]? = some n ∧ v = .int n := by
  rw [List.getElem?_map] at h
  cases e : ns[i]? with
  | none => rw [e] at h; cases h
  | some n => rw [e] at h; cases h; exact ⟨n, rfl, rfl⟩
theorem at_ints {ns : List Int} {i : Nat} {n : Int} (h : ns[i]? = some n) : (ns.map V.int)[i]? = some (.int n) := by rw [List.getElem?_map, h]; rfl
def spIsPage : Sp := fun vs H Q _ => ∃ i : Int, vs = [.int i] ∧ Q (.bl (decide (0 ≤ i) && decide (i ≤ 39))) H
theorem ok_is_page (T : Txt K mg) : FnOk P w K mg base CX0 2 T.f_is_page T.fd_is_page ["value"] spIsPage := by
  refine T.F_is_page.ok sc_is_page (fun vs H Q E h => ?_) (fun cdv A outer s H vs Q E hr h => ?_)
  · obtain ⟨i, rfl, _⟩ := h
    rfl
  · obtain ⟨i, rfl, k⟩ := h
    apply Exists.intro
    apply And.intro
    · apply pss_one
      exact (ps_ret (pe_call (ok_is_integer T) (hr.mono (by decide)) (by rfl) T.m_is_integer T.F_is_integer.kp T.b_is_integer .nil pass0 (pa_cons (pv 0) (pa_cons pe_int (pa_cons (pe_glob (v := .int 39) rfl T.c_MOST_PAGE ⟨_, rfl⟩) pa_nil)))))
    walk_at "sx"
    exact ⟨i, 0, 39, rfl, k⟩
def spIsVisits (K : PySem.W.Frag) : Sp := fun vs H Q _ => ∃ (a : Addr) (ns : List Int), vs = [.ref a] ∧ SqL K H a (ns.map V.int) ∧ ns.length ≤ 300 ∧ Pg 40 ns ∧ ∀ H', Ex H H' → Q (.bl true) H'
theorem ok_is_visits (T : Txt K mg) : FnOk P w K mg base CX0 3 T.f_is_visits T.fd_is_visits ["value"] (spIsVisits K) := by
  refine T.F_is_visits.ok sc_is_visits (fun vs H Q E h => ?_) (fun cdv A outer s H vs Q E hr h => ?_)
  · obtain ⟨a, ns, rfl, _⟩ := h
    rfl
  · obtain ⟨a, ns, rfl, hA, hl, hp, k⟩ := h
    apply Exists.intro
    apply And.intro
    · apply pss_one
      exact (ps_ret (pe_and (pe_callB (k_isi (K := K) rfl) (by rfl) T.n_isinstance (by decide +kernel) (pa_cons (pv 0) (pa_cons (pe_bltn (v := .ty "list") (by rfl) T.n_list (by decide +kernel) rfl) pa_nil))) (pe_and (pe_cmpR op_le (pe_callB (k_len (K := K) rfl) (by rfl) T.n_len PySem.boot_len (pa_cons (pv 0) pa_nil)) (pe_glob (v := .int 300) rfl T.c_MOST_VISITS ⟨_, rfl⟩) (by rfl)) (pe_one (pe_callB (k_all (K := K) rfl rfl) (by rfl) T.n_all (by decide +kernel) (pa_cons (pe_lc (own := [("page", 1)]) rfl sc_is_visits.nd (k_pi_list (K := K) rfl (pv 0)) (blkOk_by (own := [("page", 1)]) (N := ["value", "page"]) (sc := defScope s_is_visits) (by decide +kernel)) (fun _ _ _ _ _ => by exact (pg_name (i := 1) sc_is_visits.nd rfl (.inl rfl))) (fun _ _ _ _ _ => by exact pts_nil) (fun _ _ _ _ _ => by exact (pe_call (ok_is_page T) (hr.mono (by decide)) (by rfl) T.m_is_page T.F_is_page.kp T.b_is_page .nil pass0 (pa_cons (pv 1) pa_nil)))) pa_nil))))))
    walk_at "sx"
    refine isi_x (b := true) (tyx_l hA) (by decide +kernel) ?_
    walk_at "sx"
    refine lenL hA ?_
    walk_at "sx"
    rw [List.length_map]
    have e1 : ((ns.length : Nat) : Int) ≤ 300 := by omega
    simp only [e1]
    walk_at "sx"
    refine ⟨⟨_, hA⟩, fun D nD => ?_⟩
    refine lc_list (fun _ => true) (fun _ => V.bl true) hA nD (by rw [List.length_map]; omega) (fun u => rfl) (fun i x _ => tyes) (fun i x hx _ => ?_) (fun H2 e2 hD => ?_)
    · obtain ⟨n, hn, rfl⟩ := ints_at hx
      obtain ⟨n0, n1⟩ := hp.at hn
      refine ev_call (vs := [.int n]) (ea_cons (ev_var rfl) ea_nil) (fun H3 e3 Q3 q3 E3 => ⟨n, rfl, ?_⟩)
      have z1 : n ≤ 39 := by omega
      rw [decide_eq_true n0, decide_eq_true z1]
      exact q3 H3 (Ex.refl _)
    · rw [kept_const] at hD
      have e5 : List.replicate (ns.map V.int).length (V.bl true) = (List.replicate ns.length true).map V.bl := by rw [List.map_replicate, List.length_map]
      rw [e5] at hD
      refine allL (.inl (.inl hD)) ?_
      rw [all_true]
      exact k _ e2
def spCheckVisits (K : PySem.W.Frag) : Sp := fun vs H Q _ => ∃ (a : Addr) (ns : List Int), vs = [.ref a] ∧ SqL K H a (ns.map V.int) ∧ ns.length ≤ 300 ∧ Pg 40 ns ∧ ∀ H', Ex H H' → Q .non H'
theorem ok_check_visits (T : Txt K mg) : FnOk P w K mg base CX0 4 T.f_check_visits T.fd_check_visits ["visits"] (spCheckVisits K) := by
  refine T.F_check_visits.ok sc_check_visits (fun vs H Q E h => ?_) (fun cdv A outer s H vs Q E hr h => ?_)
  · obtain ⟨a, ns, rfl, _⟩ := h
    rfl
  · obtain ⟨a, ns, rfl, hA, hl, hp, k⟩ := h
    apply Exists.intro
    apply And.intro
    · apply pss_one
      apply ps_if
      · exact (pt_not (pt_val (pe_call (ok_is_visits T) (hr.mono (by decide)) (by rfl) T.m_is_visits T.F_is_visits.kp T.b_is_visits .nil pass0 (pa_cons (pv 0) pa_nil))))
      · apply pss_one
        exact ps_never
      · exact pss_nil
    walk_at "sx"
    refine ⟨a, ns, rfl, hA, hl, hp, fun H1 e1 => ?_⟩
    walk_at "sx"
    exact k _ e1
def spVisited (K : PySem.W.Frag) : Sp := fun vs H Q _ => ∃ (a : Addr) (t : List Int) (p : Int), vs = [.ref a, .int p] ∧ H a = some (.lst (t.map V.int)) ∧ t.length ≤ 1000 ∧ ∀ r H', H r = none → Ex H H' → H' r = some (.lst ((vis t p).map V.int)) → Q (.ref r) H'
theorem ok_visited (T : Txt K mg) : FnOk P w K mg base CX0 1 T.f_visited T.fd_visited ["trail", "page"] (spVisited K) := by
  refine T.F_visited.ok sc_visited (fun vs H Q E h => ?_) (fun cdv A outer s H vs Q E hr h => ?_)
  · obtain ⟨a, t, p, rfl, _⟩ := h
    rfl
  · obtain ⟨a, t, p, rfl, hA, hl, k⟩ := h
    apply Exists.intro
    apply And.intro
    · apply pss_one
      exact (ps_ret (pe_ifExp (pt_cmpR (k_in (K := K) rfl) (pv 1) (pv 0) (by rfl)) (pe_slice (k_sl_list (K := K) rfl) (pv 0) po_none (po_some (pe_op op_add (k_bm (K := K) rfl (pe_bm PySem.F.plainAttrs_list PySem.F.slot_list_index PySem.F.type_list_index (k_index (K := K) rfl) (pv 0) (pa_cons (pv 1) pa_nil))) pe_int))) (pe_op op_cat (pv 0) (pe_lst (pa_cons (pv 1) pa_nil)))))
    walk_at "sx"
    refine inL (.inl (.inl hA)) ?_
    walk_at "sx"
    by_cases m : p ∈ t
    · have hi := List.idxOf_lt_length_of_mem m
      simp only [m]
      walk_at "sx"
      refine ⟨tyL hA, ?_⟩
      refine idxL (.inl (.inl hA)) m ?_
      walk_at "sx"
      refine slL (.inl (.inl hA)) fun r nr => ?_
      refine k r _ nr (Ex.new nr) ?_
      rw [upd_same, cut_to (j := t.idxOf p + 1) _ (by omega) (by rw [List.length_map]; omega)]
      unfold vis
      rw [if_pos m, List.map_take]
    · simp only [m]
      walk_at "sx"
      refine ⟨sz_ok (by omega), fun z nz => ?_⟩
      have e1 := Ex.new nz (o := .lst [V.int p])
      refine catL (e1 _ _ hA) upd_same (sz_ok (by rw [List.length_map, List.length_singleton]; omega)) fun r nr => ?_
      refine k r _ (fresh_back e1 nr) (e1.trans (Ex.new nr)) ?_
      rw [upd_same]
      unfold vis
      rw [if_neg m, List.map_append]
      rfl
end
section
variable {P : Program} {w : World} {K : PySem.W.Frag} {mg : Str → Option Value} {base : Heap}
def spIsTrail (K : PySem.W.Frag) : Sp := fun vs H Q _ => ∃ (a : Addr) (ns : List Int), vs = [.ref a] ∧ SqL K H a (ns.map V.int) ∧ ns.Nodup ∧ Pg 40 ns ∧ ∀ H', Ex H H' → Q (.bl true) H'
theorem ok_is_trail (T : Txt K mg) : FnOk P w K mg base CX0 3 T.f_is_trail T.fd_is_trail ["value"] (spIsTrail K) := by
  refine T.F_is_trail.ok sc_is_trail (fun vs H Q E h => ?_) (fun cdv A outer s H vs Q E hr h => ?_)
  · obtain ⟨a, ns, rfl, _⟩ := h
    rfl
  · obtain ⟨a, ns, rfl, hA, hn, hp, k⟩ := h
    apply Exists.intro
    apply And.intro
    · apply pss_cons
      · apply ps_if
        · exact (PW.pt (pw_or (pt_not (pt_val (pe_callB (k_isi (K := K) rfl) (by rfl) T.n_isinstance (by decide +kernel) (pa_cons (pv 0) (pa_cons (pe_bltn (v := .ty "list") (by rfl) T.n_list (by decide +kernel) rfl) pa_nil))))) (pw_or1 (pt_not (pt_val (pe_callB (k_all (K := K) rfl rfl) (by rfl) T.n_all (by decide +kernel) (pa_cons (pe_lc (own := [("page", 1)]) rfl sc_is_trail.nd (k_pi_list (K := K) rfl (pv 0)) (blkOk_by (own := [("page", 1)]) (N := ["value", "page"]) (sc := defScope s_is_trail) (by decide +kernel)) (fun _ _ _ _ _ => by exact (pg_name (i := 1) sc_is_trail.nd rfl (.inl rfl))) (fun _ _ _ _ _ => by exact pts_nil) (fun _ _ _ _ _ => by exact (pe_call (ok_is_page T) (hr.mono (by decide)) (by rfl) T.m_is_page T.F_is_page.kp T.b_is_page .nil pass0 (pa_cons (pv 1) pa_nil)))) pa_nil)))))))
        · apply pss_one
          exact (ps_ret pe_bl)
        · exact pss_nil
      apply pss_one
      exact (ps_ret (pe_cmpR op_eq (k_lenSet (K := K) rfl (by rfl) T.n_len (by rfl) T.n_set (pv 0)) (pe_callB (k_len (K := K) rfl) (by rfl) T.n_len PySem.boot_len (pa_cons (pv 0) pa_nil)) (by rfl)))
    have hl : ns.length ≤ 40 := nodup_len 40 hn hp
    walk_at "sx"
    refine isi_x (b := true) (tyx_l hA) (by decide +kernel) ?_
    walk_at "sx"
    refine ⟨⟨_, hA⟩, fun D nD => ?_⟩
    refine lc_list (fun _ => true) (fun _ => V.bl true) hA nD (by rw [List.length_map]; omega) (fun u => rfl) (fun i x _ => tyes) (fun i x hx _ => ?_) (fun H2 e2 hD => ?_)
    · obtain ⟨n, hn, rfl⟩ := ints_at hx
      obtain ⟨n0, n1⟩ := hp.at hn
      refine ev_call (vs := [.int n]) (ea_cons (ev_var rfl) ea_nil) (fun H3 e3 Q3 q3 E3 => ⟨n, rfl, ?_⟩)
      have z1 : n ≤ 39 := by omega
      rw [decide_eq_true n0, decide_eq_true z1]
      exact q3 H3 (Ex.refl _)
    · rw [kept_const] at hD
      have e5 : List.replicate (ns.map V.int).length (V.bl true) = (List.replicate ns.length true).map V.bl := by rw [List.map_replicate, List.length_map]
      rw [e5] at hD
      refine allL (.inl (.inl hD)) ?_
      rw [all_true]
      walk_at "sx"
      refine ⟨ns, ex_l e2 hA, hn, by omega, ?_⟩
      refine lenL (ex_l e2 hA) ?_
      rw [List.length_map]
      walk_at "sx"
      exact k _ e2
def spCheckTrail (K : PySem.W.Frag) : Sp := fun vs H Q _ => ∃ (a : Addr) (ns : List Int), vs = [.ref a] ∧ SqL K H a (ns.map V.int) ∧ ns.Nodup ∧ Pg 40 ns ∧ ∀ H', Ex H H' → Q .non H'
theorem ok_check_trail (T : Txt K mg) : FnOk P w K mg base CX0 4 T.f_check_trail T.fd_check_trail ["trail"] (spCheckTrail K) := by
  refine T.F_check_trail.ok sc_check_trail (fun vs H Q E h => ?_) (fun cdv A outer s H vs Q E hr h => ?_)
  · obtain ⟨a, ns, rfl, _⟩ := h
    rfl
  · obtain ⟨a, ns, rfl, hA, hn, hp, k⟩ := h
    apply Exists.intro
    apply And.intro
    · apply pss_one
      apply ps_if
      · exact (pt_not (pt_val (pe_call (ok_is_trail T) (hr.mono (by decide)) (by rfl) T.m_is_trail T.F_is_trail.kp T.b_is_trail .nil pass0 (pa_cons (pv 0) pa_nil))))
      · apply pss_one
        exact ps_never
      · exact pss_nil
    walk_at "sx"
    refine ⟨a, ns, rfl, hA, hn, hp, fun H1 e1 => ?_⟩
    walk_at "sx"
    exact k _ e1
/-- start: None, or a list that reads t -/
def Start (K : PySem.W.Frag) (H : Hp) (v : V) (t : List Int) : Prop := (v = .non ∧ t = []) ∨ ∃ s, v = .ref s ∧ SqL K H s (t.map V.int)
def trf (t row : List Int) : List Int := row.foldl vis t
theorem trf_len {t row : List Int} (h : t.Nodup) (hp : Pg 40 t) (hr : Pg 40 row) : (trf t row).length ≤ 40 := nodup_len 40 (fold_ok hr hp h).2 (fold_ok hr hp h).1
theorem trf_snoc {t row : List Int} {i : Nat} {p : Int} (h : row[i]? = some p) : trf t (row.take (i + 1)) = vis (trf t (row.take i)) p := by
  unfold trf
  rw [List.take_add_one, h, List.foldl_append]
  rfl
def spTA (K : PySem.W.Frag) : Sp := fun vs H Q _ => ∃ (a : Addr) (ns t : List Int) (v : V), vs = [.ref a, v] ∧ SqL K H a (ns.map V.int) ∧ ns.length ≤ 300 ∧ Pg 40 ns ∧ Start K H v t ∧ t.Nodup ∧ Pg 40 t ∧ ∀ r H', H r = none → Ex H H' → H' r = some (.lst ((trf t ns).map V.int)) → Q (.ref r) H'
def JTA (H : Hp) (a : Addr) (v : V) (t ns : List Int) (i : Nat) (σ' : L2.St) (H' : Hp) : Prop := ∃ l2 r, σ' = [some (.ref a), some v, l2, some (.ref r)] ∧ H r = none ∧ Ex H H' ∧ H' r = some (.lst ((trf t (ns.take i)).map V.int))
end
/-! ### exits.py -/
theorem kept_pairs {P : Int × Int → Bool} {g : Int × Int → Int} : ∀ (qs : List (Int × Int)), kept qs.length (fun i => P (qs.getD i (0, 0))) (fun i => V.int (g (qs.getD i (0, 0)))) = ((qs.filter P).map g).map V.int := fun qs => by
  have h : ∀ n, n ≤ qs.length → kept n (fun i => P (qs.getD i (0, 0))) (fun i => V.int (g (qs.getD i (0, 0)))) = (((qs.take n).filter P).map g).map V.int := fun n => by
    induction n with
    | zero => intro _; rfl
    | succ n ih =>
      intro hn
      have hq : qs[n]? = some (qs.getD n (0, 0)) := by rw [List.getD_eq_getElem?_getD, List.getElem?_eq_getElem (by omega)]; rfl
      rw [List.take_add_one, hq]
      cases c : P (qs.getD n (0, 0)) with
      | true =>
        rw [kept_yes (k := fun i => P (qs.getD i (0, 0))) c, ih (by omega), Option.toList_some, List.filter_append, List.filter_cons_of_pos c, List.filter_nil, List.map_append, List.map_append]
        rfl
      | false =>
        rw [kept_no (k := fun i => P (qs.getD i (0, 0))) c, ih (by omega), Option.toList_some, List.filter_append, List.filter_cons_of_neg (by rw [c]; exact Bool.false_ne_true), List.filter_nil, List.append_nil]
  rw [h _ (Nat.le_refl _), List.take_of_length_le (Nat.le_refl _)]
section
variable {P : Program} {w : World} {K : PySem.W.Frag} {mg : Str → Option Value} {base : Heap}
def firstV : List Int → V
  | [] => .non
  | a :: _ => .int a
/-- an effect stands at x -/
def EffAt (C : Addr) (H : Hp) (x : Addr) (v : V) (qs : List (Int × Int)) : Prop := ∃ dx t d ts, H x = some (.ins C dx [("begin_page", v), ("pairs", .ref t), ("exit_of", .ref d)]) ∧ H t = some (.tup ((ts : List Addr).map V.ref)) ∧ ts.length = qs.length ∧ (∀ i u, ts[i]? = some u → PairAt H u (qs.getD i (0, 0))) ∧ H d = some (.dK (qs.map itK))
theorem EffAt.ex {C : Addr} {H H' : Hp} {x : Addr} {v : V} {qs : List (Int × Int)} (h : EffAt C H x v qs) (e : Ex H H') : EffAt C H' x v qs := by
  obtain ⟨dx, t, d, ts, h1, h2, h3, h4, h5⟩ := h
  exact ⟨dx, t, d, ts, e _ _ h1, e _ _ h2, h3, fun i u hi => e _ _ (h4 i u hi), e _ _ h5⟩
def spExitsIn (K : PySem.W.Frag) : Sp := fun vs H Q _ => ∃ (a : Addr) (row : List Int), vs = [.ref a] ∧ SqL K H a (row.map V.int) ∧ row.length ≤ 6000 ∧ ∀ d H', H d = none → Ex H H' → H' d = some (.dK ((foldP [] row).map itK)) → Q (.ref d) H'
def JXi (H1 : Hp) (a d : Addr) (row : List Int) (i : Nat) (σ' : L2.St) (H' : Hp) : Prop := ∃ l2 l3 qs, σ' = [some (.ref a), some (.ref d), l2, l3] ∧ Fx d H1 H' ∧ H' d = some (.dK ((qs : List (Int × Int)).map itK)) ∧ foldP qs (row.drop i) = foldP [] row ∧ qs.length ≤ i
theorem ok_exits_in (T : Txt K mg) : FnOk P w K mg base CX0 1 T.f_exits_in T.fd_exits_in ["visits"] (spExitsIn K) := by
  refine T.F_exits_in.ok sc_exits_in (fun vs H Q E h => ?_) (fun cdv A outer s H vs Q E hr h => ?_)
  · obtain ⟨a, row, rfl, _⟩ := h
    rfl
  · obtain ⟨a, row, rfl, hA, hl, k⟩ := h
    apply Exists.intro
    apply And.intro
    · apply pss_cons
      · exact (ps_set (i := 1) sc_exits_in.nd rfl (.inl rfl) pe_dnewK)
      apply pss_cons
      · apply ps_for PassesOwn.never rfl
        · exact (k_pi_zipA (K := K) rfl (by rfl) T.n_zip (pa_cons (pv 0) (pa_cons (pe_op op_cat (pe_slice (k_sl_list (K := K) rfl) (pv 0) (po_some pe_int) po_none) (pe_slice (k_sl_list (K := K) rfl) (pv 0) (po_some (pe_un un_neg pe_int)) po_none)) pa_nil)))
        · exact (k_tup (K := K) (n := 2) rfl rfl (pgs_cons (pg_name (i := 2) sc_exits_in.nd rfl (.inl rfl)) (pgs_cons (pg_name (i := 3) sc_exits_in.nd rfl (.inl rfl)) pgs_nil)))
        · apply pss_one
          exact (ps_dput (hu_of hr) (pv 1) (pv 2) (pv 3) rfl)
      apply pss_one
      exact (ps_ret (pv 1))
    walk_at "sx"
    refine fun d nd => ?_
    have e1 := Ex.new nd (o := .dK [])
    refine slL (ex_l e1 hA) fun c nc => ?_
    have e2 := Ex.new nc (o := .lst (cutV (row.map V.int) (some 1) none))
    refine slL (ex_l (e1.trans e2) hA) fun b nb => ?_
    have e3 := Ex.new nb (o := .lst (cutV (row.map V.int) (some (-1)) none))
    refine catL (e3 _ _ upd_same) upd_same (sz_ok (by have h1 := cutV_len (row.map V.int) (some 1) none; have h2 := cutV_len (row.map V.int) (some (-1)) none; rw [List.length_map] at h1 h2; omega)) fun z nz1 => ?_
    have e4 := Ex.new nz1 (o := .lst (cutV (row.map V.int) (some 1) none ++ cutV (row.map V.int) (some (-1)) none))
    have E := e2.trans (e3.trans e4)
    have hd0 := E _ _ (upd_same (H := H) (a := d) (o := .dK []))
    rw [cut_seconds] at E hd0 ⊢
    have hzz : (upd (upd (upd (upd H d (.dK [])) c (.lst (cutV (row.map V.int) (some 1) none))) b (.lst (cutV (row.map V.int) (some (-1)) none))) z (.lst ((seconds row).map V.int))) z = some (.lst ((seconds row).map V.int)) := upd_same
    have hA2 := ex_l (e1.trans E) hA
    generalize (upd (upd (upd (upd H d (.dK [])) c (.lst (cutV (row.map V.int) (some 1) none))) b (.lst (cutV (row.map V.int) (some (-1)) none))) z (.lst ((seconds row).map V.int))) = H1 at E hd0 hzz hA2 ⊢
    have nad : ∀ {f : Addr} {xs : List V}, SqL K H f xs → ∀ H', Fx d H1 H' → SqL K H' f xs := fun h H' fx => by
      rcases h with h | h
      · rcases h with h | ⟨o, h⟩
        · exact .inl (.inl (fx _ _ (ne_of_none h nd) (E _ _ (e1 _ _ h))))
        · exact .inl (.inr ⟨o, fx _ _ (ne_of_none h nd) (E _ _ (e1 _ _ h))⟩)
      · exact .inr h
    have nzd : z ≠ d := ne_of hzz hd0 (by intro z; cases z)
    refine ⟨_, _, ⟨rfl, rfl⟩, _, _, .inl ⟨hA2, .inl (.inl hzz), ?_⟩⟩
    refine lg_zip (xs := row.map V.int) (ys := (seconds row).map V.int) (by rw [List.length_map, List.length_map, seconds_len]) (JXi H1 a d row) ⟨none, none, [], rfl, Fx.refl _ _, hd0, rfl, Nat.le_refl _⟩ (fun i σ' H' hP => ?_) (fun i x y T σ' H' hx hy hP nT => ?_) (fun σ' H' hP => ?_)
    · obtain ⟨_, _, _, _, fx, _⟩ := hP
      exact ⟨nad hA _ fx, .inl (.inl (fx _ _ nzd hzz))⟩
    · obtain ⟨l2, l3, qs, rfl, fx, hd, hf, hq⟩ := hP
      obtain ⟨p, hp, rfl⟩ := ints_at hx
      obtain ⟨q, hq2, rfl⟩ := ints_at hy
      have hi := (List.getElem?_eq_some_iff.mp hp).1
      rw [seconds_at hi] at hq2
      have hpd : row.getD i 0 = p := by rw [List.getD_eq_getElem?_getD, hp]; rfl
      rw [hpd] at hq2
      have eT := Ex.new nT (o := .tup [V.int p, V.int q])
      refine g_two upd_same ?_
      walk_at "sx"
      refine ⟨_, DPut.k (k := Sum.inl p) (eT _ _ hd) (BC.sz_lt (by rw [List.length_map]; omega)), ?_⟩
      refine ⟨_, _, putI qs p q, rfl, (fx.trans (Fx.of eT)).trans Fx.put, by rw [upd_same, putI_put], ?_, Nat.le_trans (putI_len _ _ _) (by omega)⟩
      rw [← hf]
      have ed : row.drop i = p :: row.drop (i + 1) := by rw [List.drop_eq_getElem_cons hi]; congr 1; exact (List.getElem?_eq_some_iff.mp hp).2
      rw [ed]
      show _ = foldP (putI qs p ((row.drop (i + 1)).headD p)) (row.drop (i + 1))
      rw [Option.some.inj hq2]
    · obtain ⟨l2, l3, qs, rfl, fx, hd, hf, hq⟩ := hP
      walk_at "sx"
      rw [List.length_map, List.drop_eq_nil_of_le (Nat.le_refl _)] at hf
      have hf' : qs = foldP [] row := hf
      rw [hf'] at hd
      exact k d _ nd (((Fx.of (e1.trans E)).trans fx).ex nd) hd
/-- pairs of pages -/
def PgP (qs : List (Int × Int)) : Prop := ∀ q ∈ qs, (0 ≤ q.1 ∧ q.1 < 40) ∧ 0 ≤ q.2 ∧ q.2 < 40
def spIsPair (K : PySem.W.Frag) : Sp := fun vs H Q _ => ∃ (t : Addr) (q : Int × Int), vs = [.ref t] ∧ PairAt H t q ∧ (0 ≤ q.1 ∧ q.1 < 40) ∧ (0 ≤ q.2 ∧ q.2 < 40) ∧ ∀ H', Ex H H' → Q (.bl true) H'
theorem ok_is_pair (T : Txt K mg) : FnOk P w K mg base CX0 3 T.f_is_pair T.fd_is_pair ["value"] (spIsPair K) := by
  refine T.F_is_pair.ok sc_is_pair (fun vs H Q E h => ?_) (fun cdv A outer s H vs Q E hr h => ?_)
  · obtain ⟨t, q, rfl, _⟩ := h
    rfl
  · obtain ⟨t, q, rfl, hT, h1, h2, k⟩ := h
    apply Exists.intro
    apply And.intro
    · apply pss_one
      exact (ps_ret (pe_and (pe_callB (k_isi (K := K) rfl) (by rfl) T.n_isinstance (by decide +kernel) (pa_cons (pv 0) (pa_cons (pe_bltn (v := .ty "tuple") (by rfl) T.n_tuple (by decide +kernel) rfl) pa_nil))) (pe_and (pe_cmpR op_eq (pe_callB (k_len (K := K) rfl) (by rfl) T.n_len PySem.boot_len (pa_cons (pv 0) pa_nil)) pe_int (by rfl)) (pe_and (pe_call (ok_is_page T) (hr.mono (by decide)) (by rfl) T.m_is_page T.F_is_page.kp T.b_is_page .nil pass0 (pa_cons (pe_ix (k_ix_tup (K := K) rfl) (pv 0) pe_int (fun _ _ => rfl)) pa_nil)) (pe_one (pe_call (ok_is_page T) (hr.mono (by decide)) (by rfl) T.m_is_page T.F_is_page.kp T.b_is_page .nil pass0 (pa_cons (pe_ix (k_ix_tup (K := K) rfl) (pv 0) pe_int (fun _ _ => rfl)) pa_nil)))))))
    have hT' : H t = some (.tup [.int q.1, .int q.2]) := hT
    walk_at "sx"
    refine isi_x (b := true) (tyx_t (.inl (.inl hT'))) (by decide +kernel) ?_
    walk_at "sx"
    refine lenT (.inl (.inl hT')) ?_
    walk_at "sx"
    refine ⟨t, _, _, _, rfl, rfl, .inl (.inl hT'), atI_n (j := 0) rfl rfl, ?_⟩
    refine ⟨q.1, rfl, ?_⟩
    have z1 : (0 : Int) ≤ q.1 := h1.1
    have z2 : q.1 ≤ 39 := by omega
    rw [decide_eq_true z1, decide_eq_true z2]
    walk_at "sx"
    refine ⟨t, _, _, _, rfl, rfl, .inl (.inl hT'), atI_n (j := 1) rfl rfl, ?_⟩
    refine ⟨q.2, rfl, ?_⟩
    have z3 : (0 : Int) ≤ q.2 := h2.1
    have z4 : q.2 ≤ 39 := by omega
    rw [decide_eq_true z3, decide_eq_true z4]
    exact k _ (Ex.refl _)
def spLead : Sp := fun vs H Q _ => ∃ (d : Addr) (p r : Int) (qs : List (Int × Int)) (f : Int → Int) (S : Int → Prop), vs = [.ref d, .int p, .int r] ∧ H d = some (.dK (qs.map itK)) ∧ qs.length ≤ 1000 ∧ S p ∧ (∀ x, S x → getI qs x = some (f x) ∧ S (f x)) ∧ ∀ H', Ex H H' → Q (.bl (lead f r qs.length p)) H'
def JLd (H : Hp) (d : Addr) (p r : Int) (n : Nat) (f : Int → Int) (S : Int → Prop) (i : Nat) (σ' : L2.St) (H' : Hp) : Prop := ∃ p' l3, σ' = [some (.ref d), some (.int p'), some (.int r), l3] ∧ H' = H ∧ S p' ∧ lead f r n p = lead f r (n - i) p'
theorem ok_leads_to_root (T : Txt K mg) : FnOk P w K mg base CX0 1 T.f_leads_to_root T.fd_leads_to_root ["exit_of", "page", "root"] spLead := by
  refine T.F_leads_to_root.ok sc_leads_to_root (fun vs H Q E h => ?_) (fun cdv A outer s H vs Q E hr h => ?_)
  · obtain ⟨d, p, r, qs, f, S, rfl, _⟩ := h
    rfl
  · obtain ⟨d, p, r, qs, f, S, rfl, hd, hl, hp, hS, k⟩ := h
    apply Exists.intro
    apply And.intro
    · apply pss_cons
      · apply ps_for PassesOwn.never rfl
        · exact (pi_range1 (by rfl) T.n_range (pa_cons (pe_callB call_lenD (by rfl) T.n_len PySem.boot_len (pa_cons (pv 0) pa_nil)) pa_nil))
        · exact (pg_name (i := 3) sc_leads_to_root.nd rfl (.inl rfl))
        · apply pss_cons
          · apply ps_if
            · exact (pt_cmpR op_eq (pv 1) (pv 2) (by rfl))
            · apply pss_one
              exact (ps_ret pe_bl)
            · exact pss_nil
          apply pss_one
          exact (ps_set (i := 1) sc_leads_to_root.nd rfl (.inl rfl) (pe_dget (hu_of hr) (pv 0) (pv 1) (fun _ _ => rfl)))
      apply pss_one
      exact (ps_ret pe_bl)
    walk_at "sx"
    refine ⟨_, hd, ?_⟩
    rw [List.length_map]
    refine ⟨by omega, by omega, ?_⟩
    rw [Int.toNat_natCast]
    refine lg_rng (JLd H d p r qs.length f S) ⟨p, none, rfl, rfl, hp, rfl⟩ (fun i σ' H' hi hP => ?_) (fun σ' H' hP => ?_)
    · obtain ⟨p', l3, rfl, rfl, hp', hf⟩ := hP
      walk_at "sx"
      obtain ⟨m, hm⟩ : ∃ m, qs.length - i = m + 1 := ⟨qs.length - i - 1, by omega⟩
      rw [hm] at hf
      have hf2 : lead f r qs.length p = (if p' = r then true else lead f r m (f p')) := hf
      by_cases c : p' = r
      · rw [if_pos c] at hf2 ⊢
        have := k _ (Ex.refl _)
        rw [hf2] at this
        exact this
      · rw [if_neg c] at hf2 ⊢
        obtain ⟨g, s⟩ := hS p' hp'
        refine ⟨_, .inl ⟨_, Sum.inl p', .inl hd, rfl, by rw [getI_val, g]; rfl⟩, ?_⟩
        refine ⟨_, _, rfl, rfl, s, ?_⟩
        rw [hf2, show qs.length - (i + 1) = m by omega]
    · obtain ⟨p', l3, rfl, rfl, hp', hf⟩ := hP
      walk_at "sx"
      have := k _ (Ex.refl _)
      rw [hf, Nat.sub_self] at this
      exact this
end
theorem ints_pgp {row : List Int} (hp : Pg 40 row) : PgP (exs row) := fun q hq => by
  obtain ⟨x, y⟩ := q
  obtain ⟨h1, h2⟩ := mem_nx ((mem_exs hp).mp hq)
  exact ⟨hp x h1, hp y h2⟩
def dPair (q : Int × Int) : PyData := .tuple [.int q.1, .int q.2]
def dPairs (qs : List (Int × Int)) : PyData := .list (qs.map dPair)
section
variable {P : Program} {w : World} {K : PySem.W.Frag} {mg : Str → Option Value} {base : Heap}
theorem dp_pairs {H : Hp} : ∀ {ts : List Addr} {qs : List (Int × Int)}, ts.length = qs.length → (∀ (i : Nat) t, ts[i]? = some t → PairAt H t (qs.getD i (0, 0))) → DpAll K H (ts.map V.ref) (qs.map dPair)
  | [], [], _, _ => .nil
  | [], _ :: _, h, _ => by simp at h
  | _ :: _, [], h, _ => by simp at h
  | t :: ts, q :: qs, h, hp => .cons (.tup (.inl (.inl (hp 0 t rfl))) (.cons (.int _) (.cons (.int _) .nil))) (dp_pairs (by simpa using h) fun i u hi => by
    have := hp (i + 1) u (by simpa using hi)
    simpa using this)
theorem pairs_dp {H : Hp} {a : Addr} {ts : List Addr} {qs : List (Int × Int)} (h : PairsAt K H a ts qs) : Dp K H (.ref a) (dPairs qs) := .lst h.1 (dp_pairs h.2.1 h.2.2)
theorem shp_pairs (qs : List (Int × Int)) : SeqAt.shaped (dPairs qs) = true := by
  have h1 : ∀ qs : List (Int × Int), PyData.canLayAll0 (qs.map dPair) = true := fun qs => by
    induction qs with
    | nil => simp [PyData.canLayAll0]
    | cons n ns ih => simp [PyData.canLayAll0, PyData.canLay0, dPair, ih]
  have h2 := dep_all (ds := qs.map dPair) (n := 1) fun d m => by
      obtain ⟨n, hn, rfl⟩ := List.mem_map.mp m
      simp [PyData.depth, PyData.depthAll, dPair]
  show (PyData.canLay0 _ && decide (PyData.depth _ ≤ 64)) = true
  rw [Bool.and_eq_true]
  refine ⟨?_, decide_eq_true ?_⟩
  · unfold dPairs; simp only [PyData.canLay0]; exact h1 qs
  · unfold dPairs; simp only [PyData.depth]; omega
theorem eqPairsNil {H : Hp} {Q : VK} {a b : Addr} {ts : List Addr} {qs : List (Int × Int)} (h : PairsAt K H a ts qs) (hb : H b = some (.lst [])) (q : Q (.bl (decide (qs = []))) H) : rEqD K (.ref a) (.ref b) H Q := by
  refine ⟨_, .list [], pairs_dp h, .lst (.inl (.inl hb)) .nil, shp_pairs qs, rfl, ?_⟩
  have e : PyData.eqv (dPairs qs) (.list []) = decide (qs = []) := by
    cases qs with
    | nil => rfl
    | cons q qs => simp [dPairs, PyData.eqv, PyData.eqvAll]
  rw [e]
  exact q
theorem pr_ev {H : Hp} {t : Addr} {q : Int × Int} (h : PairAt H t q) : H t = some (.tup [V.int q.1, V.int q.2]) := h
def spAreExits (K : PySem.W.Frag) : Sp := fun vs H Q _ => ∃ (a : Addr) (ts : List Addr) (row : List Int), vs = [.ref a] ∧ PairsAt K H a ts (exs row) ∧ Pg 40 row ∧ row ≠ [] ∧ ∀ H', Ex H H' → Q (.bl true) H'
theorem ok_are_exits (T : Txt K mg) : FnOk P w K mg base CX0 4 T.f_are_exits T.fd_are_exits ["value"] (spAreExits K) := by
  refine T.F_are_exits.ok sc_are_exits (fun vs H Q E h => ?_) (fun cdv A outer s H vs Q E hr h => ?_)
  · obtain ⟨a, ts, row, rfl, _⟩ := h
    rfl
  · obtain ⟨a, ts, row, rfl, hA, hp, hne, k⟩ := h
    apply Exists.intro
    apply And.intro
    · apply pss_cons
      · apply ps_if
        · exact (PW.pt (pw_or (pt_not (pt_val (pe_callB (k_isi (K := K) rfl) (by rfl) T.n_isinstance (by decide +kernel) (pa_cons (pv 0) (pa_cons (pe_bltn (v := .ty "list") (by rfl) T.n_list (by decide +kernel) rfl) pa_nil))))) (pw_or (pt_cmpR (k_eqD (K := K) rfl hr.units) (pv 0) (pe_lst pa_nil) (by rfl)) (pw_or1 (pt_not (pt_val (pe_callB (k_all (K := K) rfl rfl) (by rfl) T.n_all (by decide +kernel) (pa_cons (pe_lc (own := [("pair", 6)]) rfl sc_are_exits.nd (k_pi_list (K := K) rfl (pv 0)) (blkOk_by (own := [("pair", 6)]) (N := ["value", "pages", "roots", "exit_of", "page", "later", "pair", "other"]) (sc := defScope s_are_exits) (by decide +kernel)) (fun _ _ _ _ _ => by exact (pg_name (i := 6) sc_are_exits.nd rfl (.inl rfl))) (fun _ _ _ _ _ => by exact pts_nil) (fun _ _ _ _ _ => by exact (pe_call (ok_is_pair T) (hr.mono (by decide)) (by rfl) T.m_is_pair T.F_is_pair.kp T.b_is_pair .nil pass0 (pa_cons (pv 6) pa_nil)))) pa_nil))))))))
        · apply pss_one
          exact (ps_ret pe_bl)
        · exact pss_nil
      apply pss_cons
      · exact (ps_setLc (i := 1) (own := [("page", 4), ("later", 5)]) rfl sc_are_exits.nd rfl rfl (sw_true rfl rfl rfl (by decide +kernel)) (k_pi_list (K := K) rfl (pv 0)) (blkOk_by (own := [("page", 4), ("later", 5)]) (N := ["value", "pages", "roots", "exit_of", "page", "later", "pair", "other"]) (sc := defScope s_are_exits) (by decide +kernel)) (fun _ _ _ _ _ => by exact (k_tup (K := K) (n := 2) rfl rfl (pgs_cons (pg_name (i := 4) sc_are_exits.nd rfl (.inl rfl)) (pgs_cons (pg_name (i := 5) sc_are_exits.nd rfl (.inl rfl)) pgs_nil)))) (fun _ _ _ _ _ => by exact pts_nil) (fun _ _ _ _ _ => by exact (pv 4)))
      apply pss_cons
      · exact (ps_set (i := 2) sc_are_exits.nd rfl (.inr rfl) (pe_lc (own := [("page", 4), ("later", 5)]) rfl sc_are_exits.nd (k_pi_list (K := K) rfl (pv 0)) (blkOk_by (own := [("page", 4), ("later", 5)]) (N := ["value", "pages", "roots", "exit_of", "page", "later", "pair", "other"]) (sc := defScope s_are_exits) (by decide +kernel)) (fun _ _ _ _ _ => by exact (k_tup (K := K) (n := 2) rfl rfl (pgs_cons (pg_name (i := 4) sc_are_exits.nd rfl (.inl rfl)) (pgs_cons (pg_name (i := 5) sc_are_exits.nd rfl (.inl rfl)) pgs_nil)))) (fun _ _ _ _ _ => by exact (pts_one (pt_cmpR op_eq (pv 4) (pv 5) (by rfl)))) (fun _ _ _ _ _ => by exact (pv 4))))
      apply pss_cons
      · apply ps_if
        · exact (PW.pt (pw_or (pt_cmpR op_ne (pe_callB (k_len (K := K) rfl) (by rfl) T.n_len PySem.boot_len (pa_cons (pv 2) pa_nil)) pe_int (by rfl)) (pw_or1 (pt_val (pe_callB (k_any (K := K) rfl rfl) (by rfl) T.n_any (by decide +kernel) (pa_cons (pe_lc (own := [("page", 4), ("other", 7)]) rfl sc_are_exits.nd (k_pi_zipA (K := K) rfl (by rfl) T.n_zip (pa_cons (pv 1) (pa_cons (pe_slice (k_sl_list (K := K) rfl) (pv 1) (po_some pe_int) po_none) pa_nil))) (blkOk_by (own := [("page", 4), ("other", 7)]) (N := ["value", "pages", "roots", "exit_of", "page", "later", "pair", "other"]) (sc := defScope s_are_exits) (by decide +kernel)) (fun _ _ _ _ _ => by exact (k_tup (K := K) (n := 2) rfl rfl (pgs_cons (pg_name (i := 4) sc_are_exits.nd rfl (.inl rfl)) (pgs_cons (pg_name (i := 7) sc_are_exits.nd rfl (.inl rfl)) pgs_nil)))) (fun _ _ _ _ _ => by exact pts_nil) (fun _ _ _ _ _ => by exact (pe_cmpR op_ge (pv 4) (pv 7) (by rfl)))) pa_nil))))))
        · apply pss_one
          exact (ps_ret pe_bl)
        · exact pss_nil
      apply pss_cons
      · exact (ps_set (i := 3) sc_are_exits.nd rfl (.inr rfl) (pe_callTy (k_dictP (K := K) rfl rfl) (by rfl) T.n_dict (by decide +kernel) (pa_cons (pv 0) pa_nil)))
      apply pss_cons
      · apply ps_if
        · exact (pt_not (pt_val (pe_callB (k_all (K := K) rfl rfl) (by rfl) T.n_all (by decide +kernel) (pa_cons (pe_lc (own := [("page", 4), ("later", 5)]) rfl sc_are_exits.nd (k_pi_list (K := K) rfl (pv 0)) (blkOk_by (own := [("page", 4), ("later", 5)]) (N := ["value", "pages", "roots", "exit_of", "page", "later", "pair", "other"]) (sc := defScope s_are_exits) (by decide +kernel)) (fun _ _ _ _ _ => by exact (k_tup (K := K) (n := 2) rfl rfl (pgs_cons (pg_name (i := 4) sc_are_exits.nd rfl (.inl rfl)) (pgs_cons (pg_name (i := 5) sc_are_exits.nd rfl (.inl rfl)) pgs_nil)))) (fun _ _ _ _ _ => by exact pts_nil) (fun _ _ _ _ _ => by exact (pe_cmp (pc_din (hu_of hr) (pv 5) (pv 3)) rfl))) pa_nil))))
        · apply pss_one
          exact (ps_ret pe_bl)
        · exact pss_nil
      apply pss_one
      exact (ps_ret (pe_callB (k_all (K := K) rfl rfl) (by rfl) T.n_all (by decide +kernel) (pa_cons (pe_lc (own := [("page", 4)]) rfl sc_are_exits.nd (k_pi_list (K := K) rfl (pv 1)) (blkOk_by (own := [("page", 4)]) (N := ["value", "pages", "roots", "exit_of", "page", "later", "pair", "other"]) (sc := defScope s_are_exits) (by decide +kernel)) (fun _ _ _ _ _ => by exact (pg_name (i := 4) sc_are_exits.nd rfl (.inl rfl))) (fun _ _ _ _ _ => by exact pts_nil) (fun _ _ _ _ _ => by exact (pe_call (ok_leads_to_root T) (hr.mono (by decide)) (by rfl) T.m_leads_to_root T.F_leads_to_root.kp T.b_leads_to_root .nil pass0 (pa_cons (pv 3) (pa_cons (pv 4) (pa_cons (pe_ix (k_ix_list (K := K) rfl) (pv 2) pe_int (fun _ _ => rfl)) pa_nil)))))) pa_nil)))
    have hl40 := exs_len40 row
    have ltq := hA.2.1
    have nex : exs row ≠ [] := fun e => by
      have := (mem_exs hp).mpr (nx_lst hne)
      rw [e] at this
      exact List.not_mem_nil this
    have hpgp := ints_pgp hp
    have hget : ∀ i, i < (exs row).length → (exs row)[i]? = some ((exs row).getD i (0, 0)) := fun i hi => by rw [List.getD_eq_getElem?_getD, List.getElem?_eq_getElem hi]; rfl
    refine seq_cut (fun σ' H' => σ' = [some (.ref a), none, none, none, none, none, none, none] ∧ Ex H H') (fun N hN => ?_) (fun σ1 H1 hC => ?_)
    · walk_at "sx"
      refine isi_x (b := true) (tyx_l hA.1) (by decide +kernel) ?_
      walk_at "sx"
      refine ⟨sz_ok (by omega), fun z nz1 => ?_⟩
      have ez := Ex.new nz1 (o := .lst [])
      refine eqPairsNil (hA.ex ez) upd_same ?_
      rw [decide_eq_false nex]
      walk_at "sx"
      have hA1 := hA.ex ez
      refine ⟨⟨_, hA1.1⟩, fun D nD => ?_⟩
      refine lc_list (xs := ts.map V.ref) (fun _ => true) (fun _ => V.bl true) hA1.1 nD (by rw [List.length_map]; omega) (fun u => rfl) (fun i x _ => tyes) (fun i x hx _ => ?_) (fun H2 e2 hD => ?_)
      · obtain ⟨t, ht, rfl⟩ := refs_at hx
        have hi := (List.getElem?_eq_some_iff.mp ht).1
        have hq := hpgp _ (List.mem_of_getElem? (hget i (by omega)))
        refine ev_call (vs := [.ref t]) (ea_cons (ev_var rfl) ea_nil) (fun H3 e3 Q3 q3 E3 => ⟨t, (exs row).getD i (0, 0), rfl, e3 _ _ (hA1.2.2 i t ht), hq.1, hq.2, fun H' e' => q3 H' e'⟩)
      · rw [kept_const] at hD
        have e5 : List.replicate (ts.map V.ref).length (V.bl true) = (List.replicate ts.length true).map V.bl := by rw [List.map_replicate, List.length_map]
        rw [e5] at hD
        refine allL (.inl (.inl hD)) ?_
        rw [all_true]
        walk_at "sx"
        exact hN _ _ ⟨rfl, ez.trans e2⟩
    obtain ⟨rfl, e1⟩ := hC
    have hA1 := hA.ex e1
    refine seq_cut (fun σ' H' => ∃ b, σ' = [some (.ref a), some (.ref b), none, none, none, none, none, none] ∧ Ex H1 H' ∧ H' b = some (.lst (((exs row).map (·.1)).map V.int))) (fun N hN => ?_) (fun σ2 H2 hC => ?_)
    · walk_at "sx"
      refine ⟨⟨_, hA1.1⟩, fun D nD => ?_⟩
      refine lc_pairs (ts := ts) (u := fun i => .int ((exs row).getD i (0, 0)).1) (v := fun i => .int ((exs row).getD i (0, 0)).2) (.inl ⟨rfl, hA1.1⟩) (fun i t ht => hA1.2.2 i t ht) (fun _ => true) (fun i => V.int ((exs row).getD i (0, 0)).1) nD (by omega) (fun u v => rfl) (fun i hi => tyes) (fun i hi _ => ev_var rfl) (fun H2 e2 hD => ?_)
      rw [ltq, kept_pairs (P := fun _ => true) (g := fun q => q.1), List.filter_eq_self.mpr (fun _ _ => rfl)] at hD
      exact hN _ _ ⟨D, rfl, e2, hD⟩
    obtain ⟨b, rfl, e2, hb⟩ := hC
    have hA2 := hA1.ex e2
    refine seq_cut (fun σ' H' => ∃ c, σ' = [some (.ref a), some (.ref b), some (.ref c), none, none, none, none, none] ∧ Ex H2 H' ∧ H' c = some (.lst ([lst row].map V.int))) (fun N hN => ?_) (fun σ3 H3 hC => ?_)
    · walk_at "sx"
      refine ⟨⟨_, hA2.1⟩, fun D nD => ?_⟩
      refine lc_pairs (ts := ts) (u := fun i => .int ((exs row).getD i (0, 0)).1) (v := fun i => .int ((exs row).getD i (0, 0)).2) (.inl ⟨rfl, hA2.1⟩) (fun i t ht => hA2.2.2 i t ht) (fun i => decide (((exs row).getD i (0, 0)).1 = ((exs row).getD i (0, 0)).2)) (fun i => V.int ((exs row).getD i (0, 0)).1) nD (by omega) (fun u v => rfl) (fun i hi => ?_) (fun i hi _ => ev_var rfl) (fun H2 e2 hD => ?_)
      · refine et_is (et_test (ev_op (ev_var rfl) (ev_var rfl) (rv_eq rfl))) ?_
        exact decide_eq_decide.mpr ⟨fun e => V.int.inj e, fun e => congrArg V.int e⟩
      · rw [ltq, kept_pairs (P := fun q => decide (q.1 = q.2)) (g := fun q => q.1)] at hD
        have hr := roots_exs hp hne
        unfold rootsOf at hr
        rw [hr] at hD
        exact hN _ _ ⟨D, rfl, e2, hD⟩
    obtain ⟨c, rfl, e3, hc⟩ := hC
    have hb3 := e3 _ _ hb
    refine seq_cut (fun σ' H' => σ' = [some (.ref a), some (.ref b), some (.ref c), none, none, none, none, none] ∧ Ex H3 H') (fun N hN => ?_) (fun σ4 H4 hC => ?_)
    · walk_at "sx"
      refine lenL (.inl (.inl hc)) ?_
      have z11 : (([lst row].map V.int).length : Int) = 1 := rfl
      rw [z11]
      walk_at "sx"
      refine slL (.inl (.inl hb3)) fun z nz1 => ?_
      have hcd : cutV (((exs row).map (·.1)).map V.int) (some 1) none = (((exs row).map (·.1)).drop 1).map V.int := cut_drop1 _
      rw [hcd]
      have ez := Ex.new nz1 (o := .lst ((((exs row).map (·.1)).drop 1).map V.int))
      refine ⟨_, _, ⟨rfl, rfl⟩, _, _, .inl ⟨.inl (.inl (ez _ _ hb3)), .inl (.inl upd_same), fun D nD => ?_⟩⟩
      refine lc_zipS (xs := ((exs row).map (·.1)).map V.int) (ys := (((exs row).map (·.1)).drop 1).map V.int) (fun _ => true) (fun _ => V.bl false) (.inl (.inl (ez _ _ hb3))) (.inl (.inl upd_same)) (by rw [List.length_map, List.length_map, List.length_drop]; omega) nD (by rw [List.length_map, List.length_drop, List.length_map]; omega) (fun u v => rfl) (fun i x y _ _ => tyes) (fun i x y hx hy _ => ?_) (fun H2 e2 hD => ?_)
      · obtain ⟨p, hp1, rfl⟩ := ints_at hx
        obtain ⟨q, hq1, rfl⟩ := ints_at hy
        rw [List.getElem?_drop, Nat.add_comm 1 i] at hq1
        refine ev_is (ev_op (ev_var rfl) (ev_var rfl) rv_I0) ?_
        have hpq : p < q := by
          have hs := exs_srt row
          rw [List.getElem?_map] at hp1 hq1
          cases c1 : (exs row)[i]? with
          | none => rw [c1] at hp1; cases hp1
          | some g1 =>
            cases c2 : (exs row)[i + 1]? with
            | none => rw [c2] at hq1; cases hq1
            | some g2 =>
              rw [c1] at hp1
              rw [c2] at hq1
              obtain ⟨l1, e1'⟩ := List.getElem?_eq_some_iff.mp c1
              obtain ⟨l2, e2'⟩ := List.getElem?_eq_some_iff.mp c2
              have := List.pairwise_iff_getElem.mp hs i (i + 1) l1 l2 (by omega)
              rw [e1', e2'] at this
              rw [← Option.some.inj hp1, ← Option.some.inj hq1]
              exact this
        show V.bl (decide (p ≥ q)) = V.bl false
        rw [decide_eq_false (by omega)]
      · rw [kept_const] at hD
        have e5 : List.replicate ((((exs row).map (·.1)).drop 1).map V.int).length (V.bl false) = (List.replicate (((exs row).map (·.1)).drop 1).length false).map V.bl := by rw [List.map_replicate, List.length_map]
        rw [e5] at hD
        refine anyL (.inl (.inl hD)) ?_
        have hf : ∀ n, (List.replicate n false).any id = false := fun n => by
          induction n with
          | zero => rfl
          | succ n ih => rw [List.replicate_succ, List.any_cons, ih]; rfl
        rw [hf]
        walk_at "sx"
        exact hN _ _ ⟨rfl, ez.trans e2⟩
    obtain ⟨rfl, e4⟩ := hC
    have hA4 := (hA2.ex e3).ex e4
    have hb4 := e4 _ _ hb3
    have hc4 := e4 _ _ hc
    have ndk : ((exs row).map (·.1)).Nodup := srt_nodup (exs_srt row)
    walk_at "sx"
    refine ⟨a, ts, exs row, rfl, hA4, ndk, fun d nd => ?_⟩
    walk_at "sx"
    have e5 := Ex.new nd (o := .dK ((exs row).map itK))
    have hA5 := hA4.ex e5
    generalize hH5 : upd H4 d (.dK ((exs row).map itK)) = H5 at e5 hA5
    have hd5 : H5 d = some (.dK ((exs row).map itK)) := by rw [← hH5]; exact upd_same
    have gI : ∀ x y, nx row x = some y → getI (exs row) x = some y := fun x y h => (getI_mem ndk).mp ((mem_exs hp).mpr h)
    refine ⟨⟨_, hA5.1⟩, fun D nD => ?_⟩
    refine lc_pairs (ts := ts) (u := fun i => .int ((exs row).getD i (0, 0)).1) (v := fun i => .int ((exs row).getD i (0, 0)).2) (.inl ⟨rfl, hA5.1⟩) (fun i t ht => hA5.2.2 i t ht) (fun _ => true) (fun i => V.bl true) nD (by omega) (fun u v => rfl) (fun i hi => tyes) (fun i hi _ => ?_) (fun H6 e6 hD => ?_)
    · have hm := List.mem_of_getElem? (hget i (by omega))
      obtain ⟨x, y, hxy⟩ : ∃ x y, (exs row).getD i (0, 0) = (x, y) := ⟨_, _, rfl⟩
      rw [hxy] at hm ⊢
      have hy := (mem_nx ((mem_exs hp).mp hm)).2
      obtain ⟨z, hz⟩ := nx_mem hy
      refine ev_is (ev_din (k := Sum.inl y) (ev_var rfl) (ev_var rfl) hd5) ?_
      rw [getI_val, gI y z hz]
      rfl
    · rw [kept_const] at hD
      have e7 : List.replicate ts.length (V.bl true) = (List.replicate ts.length true).map V.bl := by rw [List.map_replicate]
      rw [e7] at hD
      refine allL (.inl (.inl hD)) ?_
      rw [all_true]
      walk_at "sx"
      have hb6 := e6 _ _ (e5 _ _ hb4)
      have hc6 := e6 _ _ (e5 _ _ hc4)
      have hd6 := e6 _ _ hd5
      refine ⟨⟨_, .inl (.inl hb6)⟩, fun D2 nD2 => ?_⟩
      refine lc_list (xs := ((exs row).map (·.1)).map V.int) (fun _ => true) (fun _ => V.bl true) (.inl (.inl hb6)) nD2 (by rw [List.length_map, List.length_map]; omega) (fun u => rfl) (fun i x _ => tyes) (fun i x hx _ => ?_) (fun H7 e8 hD2 => ?_)
      · obtain ⟨p, hp1, rfl⟩ := ints_at hx
        have pr : p ∈ row := by
          obtain ⟨⟨x, y⟩, hq, rfl⟩ := List.mem_map.mp (List.mem_of_getElem? hp1)
          exact (mem_nx ((mem_exs hp).mp hq)).1
        refine ev_call (vs := [.ref d, .int p, .int (lst row)]) (ea_cons (ev_var rfl) (ea_cons (ev_var rfl) (ea_cons (ev_op (ev_var rfl) ev_c (rv_ixL (.inl (.inl hc6)) (atI_n (j := 0) rfl rfl))) ea_nil))) (fun H3 e3 Q3 q3 E3 => ?_)
        refine ⟨d, p, lst row, exs row, nxt row, fun x => x ∈ row, rfl, e3 _ _ hd6, by omega, pr, fun x hx => ?_, fun H' e' => ?_⟩
        · obtain ⟨y, hy⟩ := nx_mem hx
          rw [nxt_at hy]
          exact ⟨gI x y hy, (mem_nx hy).2⟩
        · rw [lead_ok (exs row).length pr (by rw [exs_len hp]; omega)]
          exact q3 H' e'
      · rw [kept_const] at hD2
        have e9 : List.replicate (((exs row).map (·.1)).map V.int).length (V.bl true) = (List.replicate ((exs row).map (·.1)).length true).map V.bl := by rw [List.map_replicate, List.length_map]
        rw [e9] at hD2
        refine allL (.inl (.inl hD2)) ?_
        rw [all_true]
        exact k _ (e1.trans (e2.trans (e3.trans (e4.trans (e5.trans (e6.trans e8))))))
/-! ### class Effect -/
def spInit (C : Addr) (K : PySem.W.Frag) : Sp := fun vs H Q _ => ∃ (x dx a : Addr) (ts : List Addr) (row : List Int), vs = [.ref x, firstV row, .ref a] ∧ H x = some (.ins C dx []) ∧ PairsAt K H a ts (exs row) ∧ Pg 40 row ∧ ∀ H', (∀ b o, H b = some o → b ≠ x → H' b = some o) → EffAt C H' x (firstV row) (exs row) → Q .non H'
theorem flds_all (v : V) (t d : Addr) : putF "exit_of" (V.ref d) (putF "pairs" (V.ref t) (putF "begin_page" v [])) = ([("begin_page", v), ("pairs", V.ref t), ("exit_of", V.ref d)] : List (Str × V)) := by
  have k1 : ¬ (("begin_page" : Str) = "pairs") := by decide +kernel
  have k2 : ¬ (("begin_page" : Str) = "exit_of") := by decide +kernel
  have k3 : ¬ (("pairs" : Str) = "exit_of") := by decide +kernel
  simp [putF, k1, k2, k3]
theorem len_flds1 (v : V) : (putF "begin_page" v ([] : List (Str × V))).length = 1 := rfl
theorem len_flds2 (v u : V) : (putF "pairs" u (putF "begin_page" v ([] : List (Str × V)))).length = 2 := by
  have k1 : ¬ (("begin_page" : Str) = "pairs") := by decide +kernel
  simp [putF, k1]
theorem ok_Effect___init (T : Txt K mg) : FnOk P w K mg base CX0 5 T.f_Effect___init T.fd_Effect___init ["self", "first", "exits"] (spInit T.C_Effect K) := by
  refine T.F_Effect___init.ok sc_Effect___init (fun vs H Q E h => ?_) (fun cdv A outer s H vs Q E hr h => ?_)
  · obtain ⟨x, dx, a, ts, row, rfl, _⟩ := h
    rfl
  · obtain ⟨x, dx, a, ts, row, rfl, hx, hA, hp, k⟩ := h
    apply Exists.intro
    apply And.intro
    · apply pss_cons
      · apply ps_if
        · exact (pt_cmpR op_isN (pv 1) pe_non (by rfl))
        · apply pss_one
          exact (ps_set (i := 3) sc_Effect___init.nd rfl (.inl rfl) (pe_and (pe_callB (k_isi (K := K) rfl) (by rfl) T.n_isinstance (by decide +kernel) (pa_cons (pv 2) (pa_cons (pe_bltn (v := .ty "list") (by rfl) T.n_list (by decide +kernel) rfl) pa_nil))) (pe_one (pe_cmpR (k_eqD (K := K) rfl hr.units) (pv 2) (pe_lst pa_nil) (by rfl)))))
        · apply pss_one
          exact (ps_set (i := 3) sc_Effect___init.nd rfl (.inl rfl) (pe_and (pe_call (ok_is_page T) (hr.mono (by decide)) (by rfl) T.m_is_page T.F_is_page.kp T.b_is_page .nil pass0 (pa_cons (pv 1) pa_nil)) (pe_and (pe_call (ok_are_exits T) (hr.mono (by decide)) (by rfl) T.m_are_exits T.F_are_exits.kp T.b_are_exits .nil pass0 (pa_cons (pv 2) pa_nil)) (pe_one (pe_cmp (pc_din (hu_of hr) (pv 1) (pe_callTy (k_dictP (K := K) rfl rfl) (by rfl) T.n_dict (by decide +kernel) (pa_cons (pv 2) pa_nil))) rfl)))))
      apply pss_cons
      · apply ps_if
        · exact (pt_not (pt_val (pv 3)))
        · apply pss_one
          exact ps_never
        · exact pss_nil
      apply pss_cons
      · exact (k_sfld (K := K) rfl (pv 0) (pv 1) rfl)
      apply pss_cons
      · exact (k_sfld (K := K) rfl (pv 0) (pe_callTy (k_tupOf (K := K) rfl) (by rfl) T.n_tuple (by decide +kernel) (pa_cons (pv 2) pa_nil)) rfl)
      apply pss_one
      exact (k_sfld (K := K) rfl (pv 0) (pe_callTy (k_dictP (K := K) rfl rfl) (by rfl) T.n_dict (by decide +kernel) (pa_cons (pv 2) pa_nil)) rfl)
    have ndk : ((exs row).map (·.1)).Nodup := srt_nodup (exs_srt row)
    have hl40 := exs_len40 row
    refine seq_cut (fun σ' H' => σ' = [some (.ref x), some (firstV row), some (.ref a), some (.bl true)] ∧ Ex H H') (fun N hN => ?_) (fun σ1 H1 hC => ?_)
    · cases row with
      | nil =>
        have e0 : exs [] = [] := by decide +kernel
        rw [e0] at hA
        simp only [firstV]
        walk_at "sx"
        refine isi_x (b := true) (tyx_l hA.1) (by decide +kernel) ?_
        walk_at "sx"
        refine ⟨sz_ok (by omega), fun z nz1 => ?_⟩
        have ez := Ex.new nz1 (o := .lst [])
        refine eqPairsNil (hA.ex ez) upd_same ?_
        exact hN _ _ ⟨rfl, ez⟩
      | cons p r =>
        simp only [firstV]
        have hp0 := hp p List.mem_cons_self
        have z2 : p ≤ 39 := by omega
        walk_at "sx"
        refine ⟨p, rfl, ?_⟩
        rw [decide_eq_true hp0.1, decide_eq_true z2]
        walk_at "sx"
        refine ⟨a, ts, p :: r, rfl, hA, hp, by simp, fun H1 e1 => ?_⟩
        walk_at "sx"
        refine ⟨a, ts, exs (p :: r), rfl, hA.ex e1, ndk, fun d nd => ?_⟩
        have e5 := Ex.new nd (o := .dK ((exs (p :: r)).map itK))
        refine ⟨d, rfl, _, DGet.k (k := Sum.inl p) upd_same, ?_⟩
        obtain ⟨y, hy⟩ := nx_mem (row := p :: r) (p := p) List.mem_cons_self
        have hg : (valV ((exs (p :: r)).map itK) (Sum.inl p)).isSome = true := by
          rw [valV_itK ndk ((mem_exs hp).mpr hy)]
          rfl
        rw [hg]
        exact hN _ _ ⟨rfl, e1.trans e5⟩
    obtain ⟨rfl, e1⟩ := hC
    have hA1 := hA.ex e1
    have hx1 := e1 _ _ hx
    walk_at "sx"
    refine ⟨_, dx, _, hx1, T.cl_Effect, T.na_Effect_begin_page, by show 0 < 1000; omega, ?_⟩
    have nxa : ∀ {b : Addr} {o : HO}, H1 b = some o → (∀ C dx fs, o ≠ .ins C dx fs) → b ≠ x := fun h1 h2 => ne_of h1 hx1 (h2 _ _ _)
    have hpx : ∀ (fs : List (Str × V)) i t, ts[i]? = some t → PairAt (upd H1 x (.ins T.C_Effect dx fs)) t ((exs row).getD i (0, 0)) := fun fs i t hi => by
      have h := hA1.2.2 i t hi
      have ne : t ≠ x := ne_of (pr_ev h) hx1 (by intro z; cases z)
      unfold PairAt
      rw [upd_ne ne]
      exact h
    have hAx : ∀ fs : List (Str × V), PairsAt K (upd H1 x (.ins T.C_Effect dx fs)) a ts (exs row) := fun fs => by
      refine ⟨?_, hA1.2.1, hpx fs⟩
      rcases hA1.1 with h | h
      · rcases h with h | ⟨o, h⟩
        · exact .inl (.inl (by rw [upd_ne (ne_of h hx1 (by intro z; cases z))]; exact h))
        · exact .inl (.inr ⟨o, by rw [upd_ne (ne_of h hx1 (by intro z; cases z))]; exact h⟩)
      · exact .inr h
    refine ⟨a, _, rfl, .inl ⟨(hAx _).1, fun t nt => ?_⟩⟩
    have hx2 : ∀ fs : List (Str × V), (upd (upd H1 x (.ins T.C_Effect dx fs)) t (.tup (ts.map V.ref))) x = some (.ins T.C_Effect dx fs) := fun fs => by
      have ntx : x ≠ t := ne_of_none upd_same nt
      rw [upd_ne ntx, upd_same]
    refine ⟨_, dx, _, hx2 _, T.cl_Effect, T.na_Effect_pairs, by rw [len_flds1]; omega, ?_⟩
    have ntx : x ≠ t := ne_of_none upd_same nt
    have nt1 : H1 t = none := by rw [upd_ne (Ne.symm ntx)] at nt; exact nt
    -- the heap with the tuple and the fields
    generalize hf2 : putF "pairs" (V.ref t) (putF "begin_page" (firstV row) []) = f2
    have l2 : f2.length = 2 := by rw [← hf2]; exact len_flds2 _ _
    have hG : ∀ b o, b ≠ x → H1 b = some o → (upd (upd (upd H1 x (.ins T.C_Effect dx (putF "begin_page" (firstV row) []))) t (.tup (ts.map V.ref))) x (.ins T.C_Effect dx f2)) b = some o := fun b o nb h => by
      rw [upd_ne nb, upd_ne (ne_of_none h nt1), upd_ne nb]
      exact h
    have hGx : (upd (upd (upd H1 x (.ins T.C_Effect dx (putF "begin_page" (firstV row) []))) t (.tup (ts.map V.ref))) x (.ins T.C_Effect dx f2)) x = some (.ins T.C_Effect dx f2) := upd_same
    have hGt : (upd (upd (upd H1 x (.ins T.C_Effect dx (putF "begin_page" (firstV row) []))) t (.tup (ts.map V.ref))) x (.ins T.C_Effect dx f2)) t = some (.tup (ts.map V.ref)) := by rw [upd_ne (Ne.symm ntx), upd_same]
    generalize (upd (upd (upd H1 x (.ins T.C_Effect dx (putF "begin_page" (firstV row) []))) t (.tup (ts.map V.ref))) x (.ins T.C_Effect dx f2)) = G at hG hGx hGt ⊢
    have hAG : PairsAt K G a ts (exs row) := by
      refine ⟨?_, hA1.2.1, fun i u hi => ?_⟩
      · rcases hA1.1 with h | h
        · rcases h with h | ⟨o, h⟩
          · exact .inl (.inl (hG _ _ (ne_of h hx1 (by intro z; cases z)) h))
          · exact .inl (.inr ⟨o, hG _ _ (ne_of h hx1 (by intro z; cases z)) h⟩)
        · exact .inr h
      · have h := hA1.2.2 i u hi
        exact hG _ _ (ne_of (pr_ev h) hx1 (by intro z; cases z)) h
    refine ⟨a, ts, exs row, rfl, hAG, ndk, fun d nd => ?_⟩
    have ndx : x ≠ d := ne_of_none hGx nd
    refine ⟨_, dx, f2, by rw [upd_ne ndx]; exact hGx, T.cl_Effect, T.na_Effect_exit_of, by rw [l2]; omega, ?_⟩
    refine k _ (fun b o h nb => ?_) ⟨dx, t, d, ts, ?_, ?_, hA1.2.1, fun i u hi => ?_, ?_⟩
    · have h1 := hG b o nb (e1 _ _ h)
      rw [upd_ne nb, upd_ne (ne_of_none h1 nd)]
      exact h1
    · rw [upd_same, ← hf2, flds_all]
    · rw [upd_ne (Ne.symm ntx), upd_ne (ne_of_none hGt nd)]
      exact hGt
    · have h := hAG.2.2 i u hi
      unfold PairAt
      rw [upd_ne (ne_of (pr_ev h) hGx (by intro z; cases z)), upd_ne (ne_of_none (pr_ev h) nd)]
      exact h
    · rw [upd_ne (Ne.symm ndx), upd_same]
theorem lk_pairs (v : V) (t d : Addr) : ([("begin_page", v), ("pairs", V.ref t), ("exit_of", V.ref d)] : List (Str × V)).lookup ("pairs" : Str) = some (.ref t) := by
  have k1 : (("pairs" : Str) == "begin_page") = false := by decide +kernel
  simp [List.lookup, k1]
theorem lk_exit (v : V) (t d : Addr) : ([("begin_page", v), ("pairs", V.ref t), ("exit_of", V.ref d)] : List (Str × V)).lookup ("exit_of" : Str) = some (.ref d) := by
  have k1 : (("exit_of" : Str) == "begin_page") = false := by decide +kernel
  have k2 : (("exit_of" : Str) == "pairs") = false := by decide +kernel
  simp [List.lookup, k1, k2]
theorem lk_begin (v : V) (t d : Addr) : ([("begin_page", v), ("pairs", V.ref t), ("exit_of", V.ref d)] : List (Str × V)).lookup ("begin_page" : Str) = some v := by
  simp [List.lookup]
end
section
variable {P : Program} {w : World} {K : PySem.W.Frag} {mg : Str → Option Value} {base : Heap}
def spFirst (C : Addr) : Sp := fun vs H Q _ => ∃ (x : Addr) (v : V) (qs : List (Int × Int)), vs = [.ref x] ∧ EffAt C H x v qs ∧ Q v H
theorem ok_Effect_first (T : Txt K mg) : FnOk P w K mg base CX0 1 T.f_Effect_first T.fd_Effect_first ["self"] (spFirst T.C_Effect) := by
  refine T.F_Effect_first.ok sc_Effect_first (fun vs H Q E h => ?_) (fun cdv A outer s H vs Q E hr h => ?_)
  · obtain ⟨x, v, qs, rfl, _⟩ := h
    rfl
  · obtain ⟨x, v, qs, rfl, hx, k⟩ := h
    apply Exists.intro
    apply And.intro
    · apply pss_one
      exact (ps_ret (k_fld (K := K) rfl (pv 0) rfl))
    obtain ⟨dx, t, d, ts, h1, h2, h3, h4, h5⟩ := hx
    walk_at "sx"
    exact ⟨_, _, _, h1, T.cl_Effect, T.na_Effect_begin_page, _, lk_begin _ _ _, k⟩
def spExits (C : Addr) : Sp := fun vs H Q _ => ∃ (x : Addr) (v : V) (qs : List (Int × Int)), vs = [.ref x] ∧ EffAt C H x v qs ∧ ∀ l ts H', H l = none → Ex H H' → H' l = some (.lst ((ts : List Addr).map V.ref)) → ts.length = qs.length → (∀ i u, ts[i]? = some u → PairAt H' u (qs.getD i (0, 0))) → Q (.ref l) H'
theorem ok_Effect_exits (T : Txt K mg) : FnOk P w K mg base CX0 1 T.f_Effect_exits T.fd_Effect_exits ["self"] (spExits T.C_Effect) := by
  refine T.F_Effect_exits.ok sc_Effect_exits (fun vs H Q E h => ?_) (fun cdv A outer s H vs Q E hr h => ?_)
  · obtain ⟨x, v, qs, rfl, _⟩ := h
    rfl
  · obtain ⟨x, v, qs, rfl, hx, k⟩ := h
    apply Exists.intro
    apply And.intro
    · apply pss_one
      exact (ps_ret (pe_callTy (k_listOf (K := K) rfl) (by rfl) T.n_list (by decide +kernel) (pa_cons (k_fld (K := K) rfl (pv 0) rfl) pa_nil)))
    obtain ⟨dx, t, d, ts, h1, h2, h3, h4, h5⟩ := hx
    walk_at "sx"
    refine ⟨_, _, _, h1, T.cl_Effect, T.na_Effect_pairs, _, lk_pairs _ _ _, ?_⟩
    refine ⟨t, _, rfl, .inr (.inl (.inl h2)), fun l nl => ?_⟩
    have el := Ex.new nl (o := .lst (ts.map V.ref))
    exact k l ts _ nl el upd_same h3 fun i u hi => el _ _ (h4 i u hi)
def lastV (qs : List (Int × Int)) : V := match rootsOf qs with
  | [] => .non
  | r :: _ => .int r
def spLastE (C : Addr) : Sp := fun vs H Q _ => ∃ (x : Addr) (v : V) (qs : List (Int × Int)), vs = [.ref x] ∧ EffAt C H x v qs ∧ qs.length ≤ 100 ∧ ∀ H', Ex H H' → Q (lastV qs) H'
def spLeaves (C : Addr) : Sp := fun vs H Q _ => ∃ (x : Addr) (v : V) (qs : List (Int × Int)), vs = [.ref x] ∧ EffAt C H x v qs ∧ qs.length ≤ 100 ∧ ∀ l H', H l = none → Ex H H' → H' l = some (.lst ((leavesOf qs).map V.int)) → Q (.ref l) H'
def spLen (C : Addr) : Sp := fun vs H Q _ => ∃ (x : Addr) (v : V) (qs : List (Int × Int)), vs = [.ref x] ∧ EffAt C H x v qs ∧ Q (.int (qs.length : Nat)) H
end
section
variable {P : Program} {w : World} {K : PySem.W.Frag} {mg : Str → Option Value} {base : Heap}
/-- the effect of visits -/
def spEffIn (C : Addr) (K : PySem.W.Frag) : Sp := fun vs H Q _ => ∃ (a : Addr) (row : List Int), vs = [.ref a] ∧ SqL K H a (row.map V.int) ∧ row.length ≤ 6000 ∧ Pg 40 row ∧ ∀ x H', H x = none → Ex H H' → EffAt C H' x (firstV row) (exs row) → Q (.ref x) H'
theorem make_ex {C : Addr} {H H' : Hp} {x dx : Addr} {o1 o2 : HO} (nx : H x = none) (ndx : H dx = none) (h : ∀ b o, (upd (upd H dx o1) x o2) b = some o → b ≠ x → H' b = some o) : Ex H H' := fun b o e => by
  have nb : b ≠ x := ne_of_none e nx
  refine h b o ?_ nb
  rw [upd_ne nb, upd_ne (ne_of_none e ndx)]
  exact e
theorem ok_effect_in (T : Txt K mg) : FnOk P w K mg base CX0 7 T.f_effect_in T.fd_effect_in ["visits"] (spEffIn T.C_Effect K) := by
  refine T.F_effect_in.ok sc_effect_in (fun vs H Q E h => ?_) (fun cdv A outer s H vs Q E hr h => ?_)
  · obtain ⟨a, row, rfl, _⟩ := h
    rfl
  · obtain ⟨a, row, rfl, hA, hl, hp, k⟩ := h
    apply Exists.intro
    apply And.intro
    · apply pss_one
      exact (ps_ret (pe_ifExp (pt_cmpR (k_eqD (K := K) rfl hr.units) (pv 0) (pe_lst pa_nil) (by rfl)) (pe_make T.M_Effect (ok_Effect___init T) (hr.mono (by decide)) (by rfl) T.g_Effect T.b_Effect___init .nil pass0 (pa_cons pe_non (pa_cons (pe_lst pa_nil) pa_nil))) (pe_make T.M_Effect (ok_Effect___init T) (hr.mono (by decide)) (by rfl) T.g_Effect T.b_Effect___init .nil pass0 (pa_cons (pe_ix (k_ix_list (K := K) rfl) (pv 0) pe_int (fun _ _ => rfl)) (pa_cons (pe_callB (cr_sortIt rfl) (by rfl) T.n_sorted (by decide +kernel) (pa_cons (k_bm0 (K := K) rfl (pe_bm0 PySem.F.plainAttrs_dict PySem.F.slot_dict_items PySem.F.type_dict_items mt_items (pe_call (ok_exits_in T) (hr.mono (by decide)) (by rfl) T.m_exits_in T.F_exits_in.kp T.b_exits_in .nil pass0 (pa_cons (pv 0) pa_nil)))) pa_nil)) pa_nil)))))
    walk_at "sx"
    refine ⟨sz_ok (by omega), fun z nz1 => ?_⟩
    have ez := Ex.new nz1 (o := .lst [])
    refine eqInts (ms := []) (ex_l ez hA) (.inl (.inl upd_same)) ?_
    walk_at "sx"
    cases row with
    | nil =>
      rw [if_pos rfl]
      refine ⟨sz_ok (by omega), fun y ny => ?_⟩
      have ey := Ex.new ny (o := .lst [])
      intro x dx n1 n2 n3
      refine ⟨x, dx, y, [], [], rfl, upd_same, ⟨.inl (.inl ?_), rfl, fun i t h => by simp at h⟩, pg_nil _, fun H' hk he => ⟨rfl, ?_⟩⟩
      · rw [upd_ne (ne_of_none upd_same n1), upd_ne (ne_of_none upd_same n2)]
        exact upd_same
      · exact k x H' (fresh_back (ez.trans ey) n1) ((ez.trans ey).trans (make_ex (C := T.C_Effect) n1 n2 hk)) he
    | cons p r =>
      rw [if_neg (by simp)]
      refine ixL (ex_l ez hA) (atI_n (j := 0) rfl rfl) ?_
      refine ⟨a, p :: r, rfl, ex_l ez hA, hl, fun d H1 nd e1 hd => ?_⟩
      refine ⟨tyD hd, d, _, rfl, rfl, hd, fun v nv => ?_⟩
      have ev := Ex.new nv (o := itemsO v d)
      refine ⟨v, d, _, rfl, upd_same, ev _ _ hd, fun H2 q ts rs e2 nq hq perm srt hl2 hts => ?_⟩
      have nd0 := foldP_nodup (p :: r) [] List.nodup_nil
      have ers := srt_exs hp perm srt nd0 (foldP_all (p :: r))
      subst ers
      have E := (ez.trans e1).trans (ev.trans e2)
      intro x dx n1 n2 n3
      have es : Ex H2 (upd (upd H2 dx (.own x)) x (.ins T.C_Effect dx [])) := (Ex.new n2).mut n1
      refine ⟨x, dx, q, ts, p :: r, rfl, upd_same, ⟨.inl (.inl (es _ _ hq)), hl2, fun i t hi => es _ _ (hts i t hi).2⟩, hp, fun H' hk he => ⟨rfl, ?_⟩⟩
      exact k x H' (fresh_back E n1) (E.trans (make_ex (C := T.C_Effect) n1 n2 hk)) he
def spEffOf (C : Addr) (K : PySem.W.Frag) : Sp := fun vs H Q _ => ∃ (a : Addr) (row : List Int), vs = [.ref a] ∧ SqL K H a (row.map V.int) ∧ row.length ≤ 300 ∧ Pg 40 row ∧ ∀ x H', H x = none → Ex H H' → EffAt C H' x (firstV row) (exs row) → Q (.ref x) H'
theorem ok_effect_of (T : Txt K mg) : FnOk P w K mg base CX0 8 T.f_effect_of T.fd_effect_of ["visits"] (spEffOf T.C_Effect K) := by
  refine T.F_effect_of.ok sc_effect_of (fun vs H Q E h => ?_) (fun cdv A outer s H vs Q E hr h => ?_)
  · obtain ⟨a, row, rfl, _⟩ := h
    rfl
  · obtain ⟨a, row, rfl, hA, hl, hp, k⟩ := h
    apply Exists.intro
    apply And.intro
    · apply pss_cons
      · exact (ps_expr (pe_call (ok_check_visits T) (hr.mono (by decide)) (by rfl) T.m_check_visits T.F_check_visits.kp T.b_check_visits .nil pass0 (pa_cons (pv 0) pa_nil)))
      apply pss_one
      exact (ps_ret (pe_call (ok_effect_in T) (hr.mono (by decide)) (by rfl) T.m_effect_in T.F_effect_in.kp T.b_effect_in .nil pass0 (pa_cons (pv 0) pa_nil)))
    walk_at "sx"
    refine ⟨a, row, rfl, hA, hl, hp, fun H1 e1 => ?_⟩
    walk_at "sx"
    exact ⟨a, row, rfl, ex_l e1 hA, by omega, hp, fun x H' nx e2 he => k x H' (fresh_back e1 nx) (e1.trans e2) he⟩
end
end LW

set_option Elab.async false
set_option linter.all false
set_option maxRecDepth 100000
set_option maxHeartbeats 4000000
namespace LW
open PySem PySem.Spec PyProof.Rows L2 BC Evl TR EF L2.DX
local macro_rules | `(tactic| walk_at "sx") => `(tactic| try simp only [x_seq, x_next, x_brk, x_cnt, x_nev, x_ret, x_retN, x_drop, x_ifS, x_asg, x_gn, x_gsub, x_par, x_par3, x_aug, x_for, x_lc, x_rng1, x_rng2, x_rng3, x_ilist, x_itup, x_ienum, x_izip, x_izipA, x_istr, x_var, x_c, x_op, x_un, x_test, x_b, x_chain, x_and, x_or, x_not, x_andV, x_orV, x_notV, x_ife, x_nil, x_cons, x_lst, x_tup, x_cb, x_call, x_callK, x_bm, x_bm0, x_tru, x_sl, x_nopart, x_part, x_revL, x_I0, x_I, x_U, x_ip, x_ipC, x_eqI, x_neI, x_eqB, x_neB, x_eqS, x_neS, x_isB, x_isNB, x_lrg, x_gall, x_lenSet, x_augS, x_sortSet, x_mulS, x_fmtS, x_gstar, x_inS, x_addS, x_js0, x_js, x_jn, x_fmt, x_rg1, x_rg2, x_dnewK, x_dnewT, x_dget, x_dget1, x_dget2, x_din, x_dnotin, x_dput, x_ikeys, x_ghead, x_fld, x_sfld, x_prop, x_meth, x_make, x_dc,
  L2.start, List.map_cons, List.map_nil, List.length_cons, List.length_nil, Nat.reduceAdd, Nat.reduceSub, Nat.sub_self, Nat.zero_add, List.replicate, List.replicate_succ, List.replicate_zero, List.append_nil, List.cons_append, List.nil_append, List.set_cons_zero, List.set_cons_succ, List.getElem?_cons_zero, List.getElem?_cons_succ, Option.some.injEq, V.int.injEq, V.bl.injEq, V.ref.injEq, V.str.injEq, List.cons.injEq, and_true, true_and, exists_eq_left', exists_eq_left, exists_and_left, exists_eq, if_true, if_false, ite_true, ite_false, Bool.true_eq_false, Bool.false_eq_true, reduceIte, reduceCtorEq, Bool.not_true, Bool.not_false, decide_true, decide_false, decide_eq_true_eq, Bool.and_true, Bool.true_and, Bool.and_self, Bool.and_false, Bool.false_and, Bool.or_self, Bool.or_false, Bool.false_or, Bool.or_true, Bool.true_or, eq_self])
section
variable {P : Program} {w : World} {K : PySem.W.Frag} {mg : Str → Option Value} {base : Heap}
theorem log_small {i : Int} (h0 : 0 ≤ i) (h1 : i < 1000) : i.natAbs.log2 < 1920 := log2_small (by decide) (Nat.lt_of_lt_of_le (m := 2 ^ 10) (by omega) (Nat.pow_le_pow_right (by omega) (by omega)))
theorem pg1000 {t : List Int} (h : Pg 40 t) : ∀ x ∈ t, 0 ≤ x ∧ x < 1000 := fun x hx => by have := h x hx; omega
def spTS (K : PySem.W.Frag) : Sp := fun vs H Q _ => ∃ (a : Addr) (t : List Int), vs = [.ref a] ∧ SqL K H a (t.map V.int) ∧ Pg 40 t ∧ t.length ≤ 300 ∧ ∀ H', Ex H H' → Q (.str (Txt.join ((" > " : String) : Str) (toStrs t))) H'
theorem toStrs_kept (t : List Int) : (List.range t.length).map (fun i => V.str ((toString (t.getD i 0) : String) : Str)) = (toStrs t).map V.str := by
  unfold toStrs
  rw [List.map_map]
  apply List.ext_getElem?
  intro i
  rw [List.getElem?_map, List.getElem?_map]
  by_cases c : i < t.length
  · rw [List.getElem?_range c, List.getElem?_eq_getElem c, Option.map_some, Option.map_some, List.getD_eq_getElem?_getD, List.getElem?_eq_getElem c]
    rfl
  · rw [List.getElem?_eq_none (by rw [List.length_range]; omega), List.getElem?_eq_none (by omega)]
    rfl
theorem ok_trail_string (T : Txt K mg) : FnOk P w K mg base CX0 1 T.f_trail_string T.fd_trail_string ["trail"] (spTS K) := by
  refine T.F_trail_string.ok sc_trail_string (fun vs H Q E h => ?_) (fun cdv A outer s H vs Q E hr h => ?_)
  · obtain ⟨a, t, rfl, _⟩ := h
    rfl
  · obtain ⟨a, t, rfl, hA, hp, hl, k⟩ := h
    apply Exists.intro
    apply And.intro
    · apply pss_one
      exact (ps_ret (k_bm (K := K) rfl (pe_bm PySem.F.plainAttrs_str PySem.F.slot_str_join PySem.F.type_str_join (k_join (K := K) rfl) (pe_glob (v := .str " > ") rfl T.c_NEXT ⟨_, rfl⟩) (pa_cons (pe_lc (own := [("page", 1)]) rfl sc_trail_string.nd (k_pi_list (K := K) rfl (pv 0)) (blkOk_by (own := [("page", 1)]) (N := ["trail", "page"]) (sc := defScope s_trail_string) (by decide +kernel)) (fun _ _ _ _ _ => by exact (pg_name (i := 1) sc_trail_string.nd rfl (.inl rfl))) (fun _ _ _ _ _ => by exact pts_nil) (fun _ _ _ _ _ => by exact (pe_callTy call_str_int (by rfl) T.n_str (by decide +kernel) (pa_cons (pv 1) pa_nil)))) pa_nil))))
    have p1 := pg1000 hp
    walk_at "sx"
    refine ⟨rfl, ⟨_, hA⟩, fun D nD => ?_⟩
    refine lc_list (fun _ => true) (fun i => V.str ((toString (t.getD i 0) : String) : Str)) hA nD (by rw [List.length_map]; omega) (fun u => rfl) (fun i x _ => tyes) (fun i x hx _ => ?_) (fun H2 e2 hD => ?_)
    · obtain ⟨n, hn, rfl⟩ := ints_at hx
      obtain ⟨h0, h1⟩ := p1 n (List.mem_of_getElem? hn)
      intro H3 e3 R hR
      walk_at "sx"
      refine ⟨_, rfl, _, rfl, log_small h0 h1, ?_⟩
      rw [List.getD_eq_getElem?_getD, hn] at hR
      exact hR _ (Ex.refl _)
    · rw [kept_all, List.length_map, toStrs_kept] at hD
      refine joinL (.inl (.inl hD)) ?_ (k _ e2)
      have s := strs_sum p1
      have e : ((" > " : String) : Str).length = 3 := by decide
      have l : (toStrs t).length = t.length := List.length_map _
      rw [e, l]
      omega
def spFT (K : PySem.W.Frag) : Sp := fun vs H Q _ => ∃ (a : Addr) (t : List Int), vs = [.ref a] ∧ SqL K H a (t.map V.int) ∧ t.Nodup ∧ Pg 40 t ∧ t.length ≤ 300 ∧ ∀ H', Ex H H' → Q (.str (Txt.join ((" > " : String) : Str) (toStrs t))) H'
theorem ok_format_trail (T : Txt K mg) : FnOk P w K mg base CX0 5 T.f_format_trail T.fd_format_trail ["trail"] (spFT K) := by
  refine T.F_format_trail.ok sc_format_trail (fun vs H Q E h => ?_) (fun cdv A outer s H vs Q E hr h => ?_)
  · obtain ⟨a, t, rfl, _⟩ := h
    rfl
  · obtain ⟨a, t, rfl, hA, nd, hp, hl, k⟩ := h
    apply Exists.intro
    apply And.intro
    · apply pss_cons
      · exact (ps_expr (pe_call (ok_check_trail T) (hr.mono (by decide)) (by rfl) T.m_check_trail T.F_check_trail.kp T.b_check_trail .nil pass0 (pa_cons (pv 0) pa_nil)))
      apply pss_one
      exact (ps_ret (pe_call (ok_trail_string T) (hr.mono (by decide)) (by rfl) T.m_trail_string T.F_trail_string.kp T.b_trail_string .nil pass0 (pa_cons (pv 0) pa_nil)))
    walk_at "sx"
    refine ⟨a, t, rfl, hA, nd, hp, fun H1 e1 => ?_⟩
    exact ⟨a, t, rfl, ex_l e1 hA, hp, hl, fun H2 e2 => k _ (e1.trans e2)⟩
/-- the lines of the list -/
def lns (ns : List Int) (m : Nat) : List Str := (List.range m).map fun i => lineOf i (ns.getD i 0) ((ns.take (i + 1)).foldl vis [])
theorem lns_succ (ns : List Int) (i : Nat) {p : Int} (h : ns[i]? = some p) : lns ns (i + 1) = lns ns i ++ [lineOf i p ((ns.take (i + 1)).foldl vis [])] := by
  unfold lns
  rw [List.range_succ, List.map_append, List.map_singleton, List.getD_eq_getElem?_getD, h]
  rfl
theorem vis_pg {t : List Int} {p : Int} (h : Pg 40 t) (hp : 0 ≤ p ∧ p < 40) : Pg 40 (vis t p) := fun x hx => by
  unfold vis at hx
  split at hx
  · exact h x (List.mem_of_mem_take hx)
  · rcases List.mem_append.mp hx with q | q
    · exact h x q
    · rw [List.mem_singleton.mp q]; exact hp
theorem vis_nd {t : List Int} (p : Int) (h : t.Nodup) : (vis t p).Nodup := by
  unfold vis
  split
  · exact h.sublist (List.take_sublist _ _)
  · next c =>
    refine List.nodup_append.mpr ⟨h, by simp, fun a ha b hb => ?_⟩
    rw [List.mem_singleton.mp hb]
    exact fun z => c (z ▸ ha)
theorem vis_len (t : List Int) (p : Int) : (vis t p).length ≤ t.length + 1 := by
  unfold vis
  split
  · rw [List.length_take]; omega
  · simp
theorem folds_pg : ∀ (L t : List Int), Pg 40 t → Pg 40 L → t.Nodup → Pg 40 (L.foldl vis t) ∧ (L.foldl vis t).Nodup ∧ (L.foldl vis t).length ≤ t.length + L.length
  | [], t, h, _, n => ⟨h, n, Nat.le_refl _⟩
  | p :: L, t, h, hL, n => by
    have a := folds_pg L (vis t p) (vis_pg h (hL p List.mem_cons_self)) (fun x hx => hL x (List.mem_cons_of_mem _ hx)) (vis_nd p n)
    have b := vis_len t p
    refine ⟨a.1, a.2.1, ?_⟩
    have := a.2.2
    rw [List.length_cons]
    show (L.foldl vis (vis t p)).length ≤ _
    omega
theorem fold_vis {ns : List Int} {i : Nat} {p : Int} (h : ns[i]? = some p) : (ns.take (i + 1)).foldl vis [] = vis ((ns.take i).foldl vis []) p := by
  rw [List.take_add_one, h, List.foldl_append]
  rfl
def JLi (H : Hp) (a : Addr) (ns : List Int) (i : Nat) (σ' : L2.St) (H' : Hp) : Prop := ∃ f t l3 l4, σ' = [some (.ref a), some (.ref f), some (.ref t), l3, l4] ∧ H f = none ∧ Ex H H' ∧ t ≠ f ∧ H' f = some (.lst ((lns ns i).map V.str)) ∧ H' t = some (.lst (((ns.take i).foldl vis []).map V.int))
def spListed (K : PySem.W.Frag) : Sp := fun vs H Q _ => ∃ (a : Addr) (ns : List Int), vs = [.ref a] ∧ SqL K H a (ns.map V.int) ∧ ns.length ≤ 300 ∧ Pg 40 ns ∧ ∀ r H', H r = none → Ex H H' → H' r = some (.lst ((lns ns ns.length).map V.str)) → Q (.ref r) H'
theorem ok_listed (T : Txt K mg) : FnOk P w K mg base CX0 5 T.f_listed T.fd_listed ["visits"] (spListed K) := by
  refine T.F_listed.ok sc_listed (fun vs H Q E h => ?_) (fun cdv A outer s H vs Q E hr h => ?_)
  · obtain ⟨a, ns, rfl, _⟩ := h
    rfl
  · obtain ⟨a, ns, rfl, hA, hl, hp, k⟩ := h
    apply Exists.intro
    apply And.intro
    · apply pss_cons
      · exact (ps_expr (pe_call (ok_check_visits T) (hr.mono (by decide)) (by rfl) T.m_check_visits T.F_check_visits.kp T.b_check_visits .nil pass0 (pa_cons (pv 0) pa_nil)))
      apply pss_cons
      · exact (ps_set (i := 1) sc_listed.nd rfl (.inl rfl) (pe_lst pa_nil))
      apply pss_cons
      · exact (ps_set (i := 2) sc_listed.nd rfl (.inl rfl) (pe_lst pa_nil))
      apply pss_cons
      · apply ps_for PassesOwn.never rfl
        · exact (k_pi_enum (K := K) rfl (by rfl) T.n_enumerate (pa_cons (pv 0) pa_nil))
        · exact (k_tup (K := K) (n := 2) rfl rfl (pgs_cons (pg_name (i := 3) sc_listed.nd rfl (.inl rfl)) (pgs_cons (pg_name (i := 4) sc_listed.nd rfl (.inl rfl)) pgs_nil)))
        · apply pss_cons
          · exact (ps_set (i := 2) sc_listed.nd rfl (.inl rfl) (pe_call (ok_visited T) (hr.mono (by decide)) (by rfl) T.m_visited T.F_visited.kp T.b_visited .nil pass0 (pa_cons (pv 2) (pa_cons (pv 4) pa_nil))))
          apply pss_one
          exact (ps_expr (k_bm (K := K) rfl (pe_bm PySem.F.plainAttrs_list PySem.F.slot_list_append PySem.F.type_list_append mt_append (pv 1) (pa_cons (k_joined (PJ.cons (k_fmtS (K := K) rfl T.qd (pv 3) (pe_joined1 pe_str) (by decide +kernel) (by decide +kernel)) (PJ.cons (k_fmtS (K := K) rfl T.qd (pv 4) (pe_joined1 pe_str) (by decide +kernel) (by decide +kernel)) (PJ.cons pe_str (PJ.cons (pe_fmt (pe_call (ok_trail_string T) (hr.mono (by decide)) (by rfl) T.m_trail_string T.F_trail_string.kp T.b_trail_string .nil pass0 (pa_cons (pv 2) pa_nil))) PJ.nil))))) pa_nil))))
      apply pss_one
      exact (ps_ret (pv 1))
    walk_at "sx"
    refine ⟨a, ns, rfl, hA, hl, hp, fun H1 e1 => ?_⟩
    refine ⟨sz_ok (by omega), fun f nf => ⟨sz_ok (by omega), fun t nt => ?_⟩⟩
    have ef := e1.trans (Ex.new nf (o := .lst []))
    have e2 := ef.trans (Ex.new nt (o := .lst []))
    have ntf : t ≠ f := fun z => by subst z; rw [upd_same] at nt; cases nt
    refine ⟨_, ex_l e2 hA, ?_⟩
    refine lg_enum (xs := ns.map V.int) (JLi H a ns) ⟨f, t, none, none, rfl, fresh_back e1 nf, e2, ntf, by rw [upd_ne (Ne.symm ntf), upd_same]; rfl, by rw [upd_same]; rfl⟩ (fun i σ' H' _ hP => ?_) (fun i v σ' H' T' hv hP nT => ?_) (fun σ' H' hP => ?_)
    · obtain ⟨_, _, _, _, _, _, e, _⟩ := hP
      exact ex_l e hA
    · obtain ⟨f, t, l3, l4, rfl, nf, e, ntf, hf, ht⟩ := hP
      obtain ⟨p, hpi, rfl⟩ := ints_at hv
      have hi := (List.getElem?_eq_some_iff.mp hpi).1
      have hp40 := hp p (List.mem_of_getElem? hpi)
      obtain ⟨g1, g2, g3⟩ := folds_pg (ns.take i) [] (fun x hx => by simp at hx) (fun x hx => hp x (List.mem_of_mem_take hx)) (List.nodup_nil)
      rw [List.length_nil, List.length_take] at g3
      have v1 := vis_pg g1 hp40
      have v2 := vis_nd p g2
      have v3 := vis_len ((ns.take i).foldl vis []) p
      have v4 : (vis ((ns.take i).foldl vis []) p).length ≤ 300 := by omega
      unfold JLi
      rw [lns_succ ns i hpi, fold_vis hpi]
      generalize (ns.take i).foldl vis [] = T at *
      have eT := Ex.new nT (o := .tup [V.int (i : Nat), V.int p])
      refine g_two upd_same ?_
      generalize (upd H' T' (.tup [V.int (i : Nat), V.int p])) = H3 at eT ⊢
      walk_at "sx"
      refine ⟨t, T, p, rfl, eT _ _ ht, by omega, fun r H4 nr e4 hr => ?_⟩
      have e34 := eT.trans e4
      have hf4 := e34 _ _ hf
      have nrf : r ≠ f := Ne.symm (ne_of_none (eT _ _ hf) nr)
      walk_at "sx"
      refine ⟨tyL hf4, ?_⟩
      refine ⟨by omega, by omega, ?_⟩
      have a3 := fl3 ⟨i, by omega⟩
      have a4 := fl4 ⟨p.toNat, by omega⟩
      rw [show ((p.toNat : Nat) : Int) = p by omega] at a4
      have z3 : (intSpecTextOf ((">3" : String) : Str) ((i : Nat) : Int)).length ≤ 3 := a3
      have jl := join_len (pg1000 v1)
      have se : Str.empty.length = 0 := by decide
      have s2 : ((("  " : String) : Str)).length = 2 := by decide
      have y1 : (Str.empty ++ intSpecTextOf ((">3" : String) : Str) ((i : Nat) : Int)).length ≤ 3 := by rw [Str.length_append, se]; omega
      have y2 : (Str.empty ++ intSpecTextOf ((">3" : String) : Str) ((i : Nat) : Int) ++ intSpecTextOf ((">4" : String) : Str) p).length ≤ 7 := by rw [Str.length_append]; omega
      have y3 : (Str.empty ++ intSpecTextOf ((">3" : String) : Str) ((i : Nat) : Int) ++ intSpecTextOf ((">4" : String) : Str) p ++ (("  " : String) : Str)).length ≤ 9 := by rw [Str.length_append, s2]; omega
      have szl : ∀ n : Nat, n ≤ 10000 → n ≤ sizeLine := fun n h => by unfold sizeLine; omega
      refine ⟨szl _ (by omega), hp40.1, by omega, szl _ (by omega), szl _ (by omega), ?_⟩
      refine ⟨r, vis T p, rfl, .inl (.inl hr), v1, v4, fun H5 e5 => .inl ⟨_, rfl, szl _ (by omega), szl _ (by rw [Str.length_append]; omega), ?_⟩⟩
      rw [line_prog (by omega) hp40.1 hp40.2]
      refine appL (e5 _ _ hf4) (BC.sz_lt (by rw [List.length_map]; unfold lns; rw [List.length_map, List.length_range]; omega)) ?_
      exact ⟨f, r, _, _, ⟨rfl, rfl, rfl, rfl⟩, nf, ((e.trans e34).trans e5).mut nf, nrf, by rw [upd_same, List.map_append]; rfl, by rw [upd_ne nrf]; exact e5 _ _ hr⟩
    · obtain ⟨f, t, l3, l4, rfl, nf, e, ntf, hf, ht⟩ := hP
      rw [List.length_map] at hf
      walk_at "sx"
      exact k f _ nf e hf
end
section
variable {P : Program} {w : World} {K : PySem.W.Frag} {mg : Str → Option Value} {base : Heap}
theorem zero_s : (("0" : String) : Str) = ⟨#[48]⟩ := by decide +kernel
def dig (c : Nat) : Bool := decide (c ∈ ((("0123456789" : String) : Str)).cps.toList)
theorem dig_iff (c : Nat) : dig c = true ↔ 48 ≤ c ∧ c ≤ 57 := by
  unfold dig
  rw [decide_eq_true_eq]
  exact digits_mem c
theorem dig_all (l : List Nat) : (l.map dig).all id = l.all (fun c => decide (48 ≤ c) && decide (c ≤ 57)) := by
  rw [List.all_map]
  congr 1
  funext c
  show dig c = _
  cases e : dig c with
  | true =>
    have := (dig_iff c).mp e
    rw [decide_eq_true this.1, decide_eq_true this.2]
    rfl
  | false =>
    by_cases h : 48 ≤ c ∧ c ≤ 57
    · rw [(dig_iff c).mpr h] at e
      cases e
    · by_cases h1 : 48 ≤ c
      · rw [decide_eq_true h1, decide_eq_false (fun h2 => h ⟨h1, h2⟩)]
        rfl
      · rw [decide_eq_false h1]
        rfl
theorem digs_kept (x : Str) : kept x.cps.size (fun _ => true) (fun i => V.bl (dig (x.cps.toList.getD i 0))) = (x.cps.toList.map dig).map V.bl := by
  rw [kept_all]
  apply List.ext_getElem?
  intro i
  by_cases c : i < x.cps.size
  · rw [List.getElem?_map, List.getElem?_range c, List.getElem?_map, List.getElem?_map, List.getElem?_eq_getElem (by simpa using c)]
    show some (V.bl (dig (x.cps.toList.getD i 0))) = _
    rw [List.getD_eq_getElem?_getD, List.getElem?_eq_getElem (by simpa using c)]
    rfl
  · rw [List.getElem?_eq_none (by rw [List.length_map, List.length_range]; omega), List.getElem?_eq_none (by simp; omega)]
theorem two_shape {x : Str} (h1 : 1 ≤ x.length) (h2 : x.length ≤ 2) (h : x.cps.toList.all (fun c => decide (48 ≤ c) && decide (c ≤ 57)) = true) : (∃ a : Fin 10, x = ⟨#[48 + a.val]⟩) ∨ ∃ a b : Fin 10, x = ⟨#[48 + a.val, 48 + b.val]⟩ := by
  have hl : x.length = x.cps.toList.length := by simp [Str.length]
  rw [hl] at h1 h2
  have hx : ∀ l : List Nat, x.cps.toList = l → x = ⟨l.toArray⟩ := fun l e => by
    refine TL.ext_tl ?_
    show x.cps.toList = l
    exact e
  generalize x.cps.toList = l at h1 h2 h hx
  have hx := hx l rfl
  match l, h1, h2, h, hx with
  | [a], _, _, h, hx =>
    have : 48 ≤ a ∧ a ≤ 57 := by simpa using h
    exact .inl ⟨⟨a - 48, by omega⟩, by rw [hx]; show _ = (⟨#[48 + (a - 48)]⟩ : Str); rw [show 48 + (a - 48) = a by omega]⟩
  | [a, b], _, _, h, hx =>
    have : (48 ≤ a ∧ a ≤ 57) ∧ 48 ≤ b ∧ b ≤ 57 := by simpa using h
    exact .inr ⟨⟨a - 48, by omega⟩, ⟨b - 48, by omega⟩, by rw [hx]; show _ = (⟨#[48 + (a - 48), 48 + (b - 48)]⟩ : Str); rw [show 48 + (a - 48) = a by omega, show 48 + (b - 48) = b by omega]⟩
  | _ :: _ :: _ :: _, _, h2, _, _ => exact absurd h2 (by simp)
def spNumIn (K : PySem.W.Frag) : Sp := fun vs H Q _ => ∃ x : Str, vs = [.str x] ∧ x.length ≤ 100000 ∧ ∀ H', Ex H H' → Q (numV x) H'
theorem ok_number_in (T : Txt K mg) : FnOk P w K mg base CX0 1 T.f_number_in T.fd_number_in ["word"] (spNumIn K) := by
  refine T.F_number_in.ok sc_number_in (fun vs H Q E h => ?_) (fun cdv A outer s H vs Q E hr h => ?_)
  · obtain ⟨x, rfl, _⟩ := h
    rfl
  · obtain ⟨x, rfl, hx, k⟩ := h
    apply Exists.intro
    apply And.intro
    · apply pss_cons
      · apply ps_if
        · exact (PW.pt (pw_or (pt_not (pt_chain op_le op_le pe_int (pe_callB call_len_str (by rfl) T.n_len PySem.boot_len (pa_cons (pv 0) pa_nil)) (pe_glob (v := .int 2) rfl T.c_MOST_DIGITS ⟨_, rfl⟩))) (pw_or1 (pt_not (pt_val (pe_callB (k_all (K := K) rfl rfl) (by rfl) T.n_all (by decide +kernel) (pa_cons (pe_lc (own := [("sign", 1)]) rfl sc_number_in.nd (pi_str (pv 0)) (blkOk_by (own := [("sign", 1)]) (N := ["word", "sign"]) (sc := defScope s_number_in) (by decide +kernel)) (fun _ _ _ _ _ => by exact (pg_name (i := 1) sc_number_in.nd rfl (.inl rfl))) (fun _ _ _ _ _ => by exact pts_nil) (fun _ _ _ _ _ => by exact (pe_cmpR op_inS (pv 1) (pe_glob (v := .str "0123456789") rfl T.c_DIGITS ⟨_, rfl⟩) (by rfl)))) pa_nil)))))))
        · apply pss_one
          exact (ps_ret pe_non)
        · exact pss_nil
      apply pss_one
      exact (ps_ret (pe_ifExp (PW.pt (pw_or (pt_cmpR op_eq (pv 0) pe_str (by rfl)) (pw_or1 (pt_cmpR op_ne (pe_ix ix_str (pv 0) pe_int (fun _ _ => rfl)) pe_str (by rfl))))) (pe_callTy k_intS (by rfl) T.n_int (by decide +kernel) (pa_cons (pv 0) pa_nil)) pe_non))
    walk_at "sx"
    have szl : x.length ≤ sizeLine := sz_ok hx
    refine ⟨szl, ?_⟩
    by_cases c1 : 1 ≤ x.length
    rotate_left
    · rw [if_neg (by omega)]
      rw [numIn_odd (fun h => c1 h.1)] at k
      exact k _ (Ex.refl _)
    rw [if_pos (by omega)]
    by_cases c2 : x.length ≤ 2
    rotate_left
    · rw [decide_eq_false (by omega)]
      rw [numIn_odd (fun h => c2 h.2.1)] at k
      exact k _ (Ex.refl _)
    rw [decide_eq_true (by omega)]
    walk_at "sx"
    intro D nD
    refine lc_str (fun _ => true) (fun i => V.bl (dig (x.cps.toList.getD i 0))) nD (by show x.length ≤ _; omega) (fun u => rfl) (fun i c _ => tyes) (fun i c hc _ => ?_) (fun H1 e1 hD => ?_)
    · intro H3 e3 R hR
      walk_at "sx"
      rw [List.getD_eq_getElem?_getD, hc] at hR
      refine ⟨_, rfl, x_inS.mpr ?_⟩
      exact hR _ (Ex.refl _)
    · rw [digs_kept] at hD
      refine allL (.inl (.inl hD)) ?_
      rw [dig_all]
      refine ⟨_, rfl, ?_⟩
      have k := fun H' e => k H' (e1.trans e)
      cases h3 : x.cps.toList.all (fun c => decide (48 ≤ c) && decide (c ≤ 57)) with
      | false =>
        rw [numIn_odd (fun h => by rw [h3] at h; exact absurd h.2.2 (by decide))] at k
        exact k _ (Ex.refl _)
      | true =>
        walk_at "sx"
        rw [show Str.ofString "0" = ⟨#[48]⟩ from zero_s]
        rcases two_shape c1 c2 h3 with ⟨a, rfl⟩ | ⟨a, b, rfl⟩
        · obtain ⟨n1, n2⟩ := num_one a
          rw [n1] at k
          have go : ∀ H' , Ex H1 H' → rIntS [V.str ⟨#[48 + a.val]⟩] H' Q := fun H' e => ⟨_, _, rfl, n2, by omega, k _ e⟩
          split
          · exact go _ (Ex.refl _)
          · next ne =>
            refine ⟨_, 0, 48 + a.val, rfl, rfl, szl, rfl, ?_⟩
            refine x_neS.mpr ⟨_, rfl, ?_⟩
            rw [decide_eq_false ne]
            exact go _ (Ex.refl _)
        · obtain ⟨n1, n2⟩ := num_pair a b
          rw [n1] at k
          rw [if_neg (by intro e; have := congrArg (fun y : Str => y.cps.size) e; simp at this)]
          refine ⟨_, 0, 48 + a.val, rfl, rfl, szl, rfl, ?_⟩
          refine x_neS.mpr ⟨_, rfl, ?_⟩
          by_cases c0 : a.val = 0
          · rw [if_pos c0] at k
            rw [decide_eq_true (show (⟨#[48 + a.val]⟩ : Str) = ⟨#[48]⟩ by rw [c0])]
            exact k _ (Ex.refl _)
          · rw [if_neg c0] at k
            rw [decide_eq_false (fun e => c0 (by have := congrArg (fun y : Str => y.cps.getD 0 0) e; simp at this; rw [this]; rfl))]
            exact ⟨_, _, rfl, n2, by omega, k _ (Ex.refl _)⟩
def spChkStr : Sp := fun vs H Q _ => ∃ x : Str, vs = [.str x] ∧ Q .non H
theorem ok_check_string (T : Txt K mg) : FnOk P w K mg base CX0 1 T.f_check_string T.fd_check_string ["text"] spChkStr := by
  refine T.F_check_string.ok sc_check_string (fun vs H Q E h => ?_) (fun cdv A outer s H vs Q E hr h => ?_)
  · obtain ⟨x, rfl, _⟩ := h
    rfl
  · obtain ⟨x, rfl, k⟩ := h
    apply Exists.intro
    apply And.intro
    · apply pss_one
      apply ps_if
      · exact (pt_not (pt_val (pe_callB (k_isi (K := K) rfl) (by rfl) T.n_isinstance (by decide +kernel) (pa_cons (pv 0) (pa_cons (pe_bltn (v := .ty "str") (by rfl) T.n_str (by decide +kernel) rfl) pa_nil)))))
      · apply pss_one
        exact ps_never
      · exact pss_nil
    walk_at "sx"
    refine isi_x (b := true) (.base (.str x)) (by decide +kernel) ?_
    walk_at "sx"
    exact k
theorem log_k {i : Int} (h0 : 0 ≤ i) (h1 : i < 1000) : i.natAbs.log2 < 1920 := log2_small (by decide) (Nat.lt_of_lt_of_le (m := 2 ^ 10) (by omega) (Nat.pow_le_pow_right (by omega) (by omega)))
theorem nums_kept (r : List Nat) : (List.range r.length).map (fun j => V.str (numS (r.getD j 0))) = (r.map numS).map V.str := by
  rw [List.map_map]
  apply List.ext_getElem?
  intro i
  rw [List.getElem?_map, List.getElem?_map]
  by_cases c : i < r.length
  · rw [List.getElem?_range c, List.getElem?_eq_getElem c, Option.map_some, Option.map_some, List.getD_eq_getElem?_getD, List.getElem?_eq_getElem c]
    rfl
  · rw [List.getElem?_eq_none (by rw [List.length_range]; omega), List.getElem?_eq_none (by omega)]
    rfl
theorem sum_b (b : Nat) : ∀ ps : List Str, (∀ p ∈ ps, p.length ≤ b) → (ps.map (·.length)).sum ≤ ps.length * b
  | [], _ => by simp
  | p :: ps, h => by
    have a := sum_b b ps fun q hq => h q (List.mem_cons_of_mem _ hq)
    have c := h p List.mem_cons_self
    rw [List.map_cons, List.sum_cons, List.length_cons, Nat.succ_mul]
    omega
theorem words_sum {i : Nat} {r : List Nat} (hi : i < 1000) (hr : ∀ x ∈ r, x < 1000) : ((rowW i r).map (·.length)).sum ≤ (r.length + 1) * 4 := by
  have b := sum_b 4 (rowW i r) (fun p hp => by
    rcases List.mem_cons.mp hp with rfl | hp
    · have := (numS_len hi).2
      rw [Str.length_append, show ((":" : String) : Str).length = 1 by decide]
      omega
    · obtain ⟨x, hx, rfl⟩ := List.mem_map.mp hp
      have := (numS_len (hr x hx)).2
      omega)
  rw [show (rowW i r).length = r.length + 1 by unfold rowW; rw [List.length_cons, List.length_map]] at b
  exact b
theorem rows_sum {G : Grid} (ok : SiteOk G) : ((rowsS G G.length).map (·.length)).sum ≤ 12 * 65 := by
  have n2 := ok.n2
  have b := sum_b 65 (rowsS G G.length) (fun p hp => by
    obtain ⟨i, hi, rfl⟩ := List.mem_map.mp hp
    rw [List.mem_range] at hi
    have := rowS_len (i := i) (r := row G i) (by omega) (ok.row12 i)
    have := ok.rlen i
    omega)
  rw [rowsS_len] at b
  exact Nat.le_trans b (Nat.mul_le_mul_right _ n2)
def spFmtSite (K : PySem.W.Frag) : Sp := fun vs H Q _ => ∃ (s : Addr) (G : Grid), vs = [.ref s] ∧ GridAt H s G ∧ SiteOk G ∧ ∀ H', Ex H H' → Q (.str (siteS G)) H'
theorem ok_format_site (T : Txt K mg) : FnOk P w K mg base CX0 5 T.f_format_site T.fd_format_site ["site"] (spFmtSite K) := by
  refine T.F_format_site.ok sc_format_site (fun vs H Q E h => ?_) (fun cdv A outer s H vs Q E hr h => ?_)
  · obtain ⟨s, G, rfl, _⟩ := h
    rfl
  · obtain ⟨s, G, rfl, hS, ok, k⟩ := h
    apply Exists.intro
    apply And.intro
    · apply pss_cons
      · exact (ps_expr (pe_call (ok_check_site T) (hr.mono (by decide)) (by rfl) T.m_check_site T.F_check_site.kp T.b_check_site .nil pass0 (pa_cons (pv 0) pa_nil)))
      apply pss_one
      exact (ps_ret (k_bm (K := K) rfl (pe_bm PySem.F.plainAttrs_str PySem.F.slot_str_join PySem.F.type_str_join (k_join (K := K) rfl) pe_str (pa_cons (pe_lc (own := [("page", 1), ("row", 2)]) rfl sc_format_site.nd (k_pi_enum (K := K) rfl (by rfl) T.n_enumerate (pa_cons (pv 0) pa_nil)) (blkOk_by (own := [("page", 1), ("row", 2)]) (N := ["site", "page", "row", "other"]) (sc := defScope s_format_site) (by decide +kernel)) (fun _ _ _ _ _ => by exact (k_tup (K := K) (n := 2) rfl rfl (pgs_cons (pg_name (i := 1) sc_format_site.nd rfl (by first | exact .inl rfl | exact .inr rfl)) (pgs_cons (pg_name (i := 2) sc_format_site.nd rfl (by first | exact .inl rfl | exact .inr rfl)) pgs_nil)))) (fun _ _ _ _ _ => by exact pts_nil) (fun _ _ _ _ _ => by exact (k_bm (K := K) rfl (pe_bm PySem.F.plainAttrs_str PySem.F.slot_str_join PySem.F.type_str_join (k_join (K := K) rfl) pe_str (pa_cons (pe_op op_cat (pe_lst (pa_cons (k_joined (PJ.cons (pe_fmt (pv 1)) (PJ.cons pe_str PJ.nil))) pa_nil)) (pe_lc (own := [("other", 3)]) rfl sc_format_site.nd (k_pi_list (K := K) rfl (pv 2)) (blkOk_by (own := [("other", 3)]) (N := ["site", "page", "row", "other"]) (by kernel_rfl)) (fun _ _ _ _ _ => by exact (pg_name (i := 3) sc_format_site.nd rfl (.inl rfl))) (fun _ _ _ _ _ => by exact pts_nil) (fun _ _ _ _ _ => by exact (pe_callTy call_str_int (by rfl) T.n_str (by decide +kernel) (pa_cons (pv 3) pa_nil))))) pa_nil))))) pa_nil))))
    walk_at "sx"
    refine ⟨s, G, rfl, hS, ok, fun H1 e1 => ?_⟩
    obtain ⟨xs, hs, hl, hrow⟩ := (hS.ex e1).lst
    walk_at "sx"
    refine ⟨tyS, _, .inl (.inl hs), fun D nD => ?_⟩
    have n2 := ok.n2
    refine lc_enum (fun _ => true) (fun i => V.str (rowS i (row G i))) (.inl (.inl hs)) nD (by omega) (fun u v => rfl) (fun i x _ => tyes) (fun i x hx _ => ?_) (fun H2 e2 hD => ?_)
    · obtain ⟨hi, p, rfl, hp⟩ := hrow i x hx
      intro H3 e3 R hR
      walk_at "sx"
      have rl := ok.rlen i
      have r12 := ok.row12 i
      have rs := rowS_len (i := i) (r := row G i) (by omega) r12
      have nl := numS_len (n := i) (by omega)
      have c1 : ((":" : String) : Str).length = 1 := by decide
      have l1 : (Str.empty ++ numS i).length ≤ 3 := by rw [Str.empty_append]; omega
      have l2 : (Str.empty ++ numS i ++ ((":" : String) : Str)).length ≤ 4 := by rw [Str.length_append, c1]; omega
      refine ⟨tyS, _, rfl, .inr ⟨_, rfl, log_k (by omega) (by omega), sz_ok (by show (Str.empty ++ numS i).length ≤ _; omega), sz_ok (by show (Str.empty ++ numS i ++ _).length ≤ _; omega), sz_ok (by omega), fun q nq => ⟨_, rfl, p, rfl, ?_⟩⟩⟩
      have hp3 := e3 _ _ hp
      have eq1 := Ex.new nq (o := .lst [V.str (Str.empty ++ Str.ofString (toString ((i : Nat) : Int)) ++ Str.ofString ":")])
      refine ⟨⟨_, .inl (.inl (eq1 _ _ hp3))⟩, fun D2 nD2 => ?_⟩
      refine lc_list (xs := (nz (row G i)).map V.int) (fun _ => true) (fun j => V.str (numS ((row G i).getD j 0))) (.inl (.inl (eq1 _ _ hp3))) nD2 (by rw [List.length_map, nz_len]; omega) (fun u => rfl) (fun j x _ => tyes) (fun j x hx _ => ?_) (fun H4 e4 hD2 => ?_)
      · obtain ⟨x, hx', rfl⟩ := at_nz hx
        have x1 := r12 x (List.mem_of_getElem? hx')
        intro H5 e5 R2 hR2
        walk_at "sx"
        refine ⟨_, rfl, _, rfl, log_k (by omega) (by omega), ?_⟩
        rw [List.getD_eq_getElem?_getD, hx'] at hR2
        exact hR2 _ (Ex.refl _)
      · have hq4 := e4 _ _ (upd_same (H := H3) (a := q) (o := .lst [V.str (Str.empty ++ Str.ofString (toString ((i : Nat) : Int)) ++ Str.ofString ":")]))
        rw [kept_all, List.length_map, nz_len, nums_kept] at hD2
        refine catL hq4 hD2 (sz_ok (by rw [List.length_map, List.length_map, List.length_singleton]; omega)) fun r nr => ?_
        have er := Ex.new nr (o := .lst ([V.str (Str.empty ++ Str.ofString (toString ((i : Nat) : Int)) ++ Str.ofString ":")] ++ ((row G i).map numS).map V.str))
        have hr : (upd H4 r (.lst ([V.str (Str.empty ++ Str.ofString (toString ((i : Nat) : Int)) ++ Str.ofString ":")] ++ ((row G i).map numS).map V.str))) r = some (.lst ((rowW i (row G i)).map V.str)) := by
          rw [upd_same, Str.empty_append]
          rfl
        refine joinL (.inl (.inl hr)) ?_ (hR _ ((eq1.trans e4).trans er))
        have s := words_sum (i := i) (r := row G i) (by omega) r12
        rw [show ((" " : String) : Str).length = 1 by decide]
        unfold rowW at s ⊢
        rw [List.length_cons, List.length_map]
        omega
    · rw [kept_all, hl] at hD
      have e : (List.range G.length).map (fun i => V.str (rowS i (row G i))) = (rowsS G G.length).map V.str := by unfold rowsS; rw [List.map_map]; rfl
      rw [e] at hD
      refine joinL (.inl (.inl hD)) ?_ (k _ (e1.trans e2))
      have s := rows_sum ok
      rw [show (("; " : String) : Str).length = 2 by decide, rowsS_len]
      omega
def spParse (K : PySem.W.Frag) : Sp := fun vs H Q _ => ∃ G : Grid, vs = [.str (siteS G)] ∧ SiteOk G ∧ ∀ s H', Ex H H' → GridN H H' s G → Q (.ref s) H'
def JPa (H : Hp) (x : Str) (G : Grid) (p : Addr) (i : Nat) (σ' : L2.St) (H' : Hp) : Prop := ∃ f l2 l3 l4 l5 l6, σ' = [some (.str x), some (.ref f), l2, l3, l4, l5, l6] ∧ Ex H H' ∧ GridN H H' f (G.take i) ∧ H' p = some (.lst ((rowsS G G.length).map V.str)) ∧ p ≠ f
theorem ints_num (r : List Nat) : (List.range r.length).map (fun j => V.int ((r.getD j 0 : Nat) : Int)) = (nz r).map V.int := by
  have h := kept_nz r (fun _ => true)
  rw [kept_all, List.filter_eq_self.mpr (by simp)] at h
  exact h
theorem ok_parse_site (T : Txt K mg) : FnOk P w K mg base CX0 4 T.f_parse_site T.fd_parse_site ["text"] (spParse K) := by
  refine T.F_parse_site.ok sc_parse_site (fun vs H Q E h => ?_) (fun cdv A outer s H vs Q E hr h => ?_)
  · obtain ⟨G, rfl, _⟩ := h
    rfl
  · obtain ⟨G, rfl, ok, k⟩ := h
    apply Exists.intro
    apply And.intro
    · apply pss_cons
      · exact (ps_expr (pe_call (ok_check_string T) (hr.mono (by decide)) (by rfl) T.m_check_string T.F_check_string.kp T.b_check_string .nil pass0 (pa_cons (pv 0) pa_nil)))
      apply pss_cons
      · exact (ps_set (i := 1) sc_parse_site.nd rfl (.inl rfl) (pe_lst pa_nil))
      apply pss_cons
      · apply ps_for PassesOwn.never rfl
        · exact (k_pi_enum (K := K) rfl (by rfl) T.n_enumerate (pa_cons (k_bm (K := K) rfl (pe_bm PySem.F.plainAttrs_str PySem.F.slot_str_split PySem.F.type_str_split k_split (pv 0) (pa_cons pe_str pa_nil))) pa_nil))
        · exact (k_tup (K := K) (n := 2) rfl rfl (pgs_cons (pg_name (i := 2) sc_parse_site.nd rfl (.inl rfl)) (pgs_cons (pg_name (i := 3) sc_parse_site.nd rfl (.inl rfl)) pgs_nil)))
        · apply pss_cons
          · exact (ps_asg (k_bm (K := K) rfl (pe_bm PySem.F.plainAttrs_str PySem.F.slot_str_split PySem.F.type_str_split k_split (pv 3) (pa_cons pe_str pa_nil))) (pg_star (K := K) rfl rfl (pg_name (i := 4) sc_parse_site.nd rfl (.inl rfl)) (pg_name (i := 5) sc_parse_site.nd rfl (.inl rfl))))
          apply pss_cons
          · apply ps_if
            · exact (pt_cmpR op_ne (pv 4) (k_joined (PJ.cons (pe_fmt (pv 2)) (PJ.cons pe_str PJ.nil))) (by rfl))
            · apply pss_one
              exact ps_never
            · exact pss_nil
          apply pss_one
          exact (ps_expr (k_bm (K := K) rfl (pe_bm PySem.F.plainAttrs_list PySem.F.slot_list_append PySem.F.type_list_append mt_append (pv 1) (pa_cons (pe_lc (own := [("word", 6)]) rfl sc_parse_site.nd (k_pi_list (K := K) rfl (pv 5)) (blkOk_by (own := [("word", 6)]) (N := ["text", "found", "page", "part", "head", "words", "word"]) (sc := defScope s_parse_site) (by decide +kernel)) (fun _ _ _ _ _ => by exact (pg_name (i := 6) sc_parse_site.nd rfl (.inl rfl))) (fun _ _ _ _ _ => by exact pts_nil) (fun _ _ _ _ _ => by exact (pe_call (ok_number_in T) (hr.mono (by decide)) (by rfl) T.m_number_in T.F_number_in.kp T.b_number_in .nil pass0 (pa_cons (pv 6) pa_nil)))) pa_nil))))
      apply pss_cons
      · apply ps_if
        · exact (pt_not (pt_val (pe_call (ok_is_site T) (hr.mono (by decide)) (by rfl) T.m_is_site T.F_is_site.kp T.b_is_site .nil pass0 (pa_cons (pv 1) pa_nil))))
        · apply pss_one
          exact ps_never
        · exact pss_nil
      apply pss_one
      exact (ps_ret (pv 1))
    walk_at "sx"
    refine ⟨_, rfl, sz_ok (by omega), fun f nf => ⟨tyS, ?_⟩⟩
    have e1 := Ex.new nf (o := .lst [])
    have n1 := ok.n1
    have n2 := ok.n2
    have sl := site_len ok G.length n2
    refine ⟨_, _, rfl, rfl, by decide, ?_, fun p np => ⟨p, rfl, _, .inl (.inl upd_same), ?_⟩⟩
    · show (siteS G).length + 2 ≤ sizeLine
      have : (siteS G).length ≤ 12 * 67 := Nat.le_trans sl (Nat.mul_le_mul_right _ n2)
      exact sz_ok (by omega)
    rw [split_site G n1]
    have e2 := e1.trans (Ex.new np (o := .lst ((rowsS G G.length).map V.str)))
    have hp : (upd (upd H f (.lst [])) p (.lst ((rowsS G G.length).map V.str))) p = some (.lst ((rowsS G G.length).map V.str)) := upd_same
    have npf : p ≠ f := fun z => by subst z; rw [upd_same] at np; cases np
    have ef : Ex H (upd (upd H f (.lst [])) p (.lst ((rowsS G G.length).map V.str))) := e2
    refine lg_enum (xs := (rowsS G G.length).map V.str) (JPa H (siteS G) G p) ⟨f, none, none, none, none, none, rfl, e2, by rw [List.take_zero]; exact (GridN.nil nf).ex (Ex.new np), hp, npf⟩ (fun i σ' H' _ hP => by obtain ⟨_, _, _, _, _, _, _, _, _, h, _⟩ := hP; exact .inl (.inl h)) (fun i x σ' H' T hx hP nT => ?_) (fun σ' H' hP => ?_)
    · obtain ⟨f, l2, l3, l4, l5, l6, rfl, e, g, hp', npf⟩ := hP
      have hi : i < G.length := by
        have := (List.getElem?_eq_some_iff.mp hx).1
        rwa [List.length_map, rowsS_len] at this
      obtain rfl : V.str (rowS i (row G i)) = x := by
        unfold rowsS at hx
        rw [List.getElem?_map, List.getElem?_map, List.getElem?_range hi] at hx
        exact Option.some.inj hx
      have rl := ok.rlen i
      have r12 := ok.row12 i
      have rs := rowS_len (i := i) (r := row G i) (by omega) r12
      have eT := Ex.new nT (o := .tup [V.int (i : Nat), V.str (rowS i (row G i))])
      refine g_two upd_same ?_
      have eA := e.trans eT
      have gA := g.ex eT
      have hpA := eT _ _ hp'
      generalize (upd H' T (.tup [V.int (i : Nat), V.str (rowS i (row G i))])) = HA at eT eA gA hpA ⊢
      walk_at "sx"
      refine ⟨tyS, _, _, rfl, rfl, by decide, sz_ok (by omega), fun q nq => ?_⟩
      rw [split_row]
      have eq1 := Ex.new nq (o := .lst ((rowW i (row G i)).map V.str))
      have hq1 : (upd HA q (.lst ((rowW i (row G i)).map V.str))) q = some (.lst ((rowW i (row G i)).map V.str)) := upd_same
      have eB := eA.trans eq1
      have gB := gA.ex eq1
      have hpB := eq1 _ _ hpA
      generalize upd HA q (.lst ((rowW i (row G i)).map V.str)) = HB at eq1 hq1 eB gB hpB ⊢
      refine ⟨q, rfl, V.str (numS i ++ ((":" : String) : Str)), ((row G i).map numS).map V.str, .inl (.inl hq1), fun u nu => ?_⟩
      have eu := Ex.new nu (o := .lst (((row G i).map numS).map V.str))
      have hu : (upd HB u (.lst (((row G i).map numS).map V.str))) u = some (.lst (((row G i).map numS).map V.str)) := upd_same
      have eC := eB.trans eu
      have gC := gB.ex eu
      have hpC := eu _ _ hpB
      generalize upd HB u (.lst (((row G i).map numS).map V.str)) = HC at eu hu eC gC hpC ⊢
      have nl := numS_len (n := i) (by have := ok.n2; omega)
      have c1 : ((":" : String) : Str).length = 1 := by decide
      have z1 : (Str.empty ++ numS i).length ≤ 3 := by rw [Str.empty_append]; omega
      have z2 : (Str.empty ++ numS i ++ ((":" : String) : Str)).length ≤ 4 := by rw [Str.length_append, c1]; omega
      walk_at "sx"
      refine .inr ⟨log_k (by omega) (by omega), sz_ok (by show (Str.empty ++ numS i).length ≤ _; omega), sz_ok (by show (Str.empty ++ numS i ++ ((":" : String) : Str)).length ≤ _; omega), ?_⟩
      rw [show Str.empty ++ Str.ofString (toString ((i : Nat) : Int)) = numS i from Str.empty_append _]
      rw [decide_eq_true rfl]
      obtain ⟨xs, hf, _, _⟩ := id gC.at.lst
      walk_at "sx"
      refine ⟨tyL hf, ⟨_, .inl (.inl hu)⟩, fun D nD => ?_⟩
      refine lc_list (xs := ((row G i).map numS).map V.str) (fun _ => true) (fun j => V.int (((row G i).getD j 0 : Nat) : Int)) (.inl (.inl hu)) nD (by rw [List.length_map, List.length_map]; omega) (fun u => rfl) (fun j x _ => tyes) (fun j x hx _ => ?_) (fun H4 e4 hD => ?_)
      · rw [List.getElem?_map, List.getElem?_map] at hx
        cases hj : (row G i)[j]? with
        | none => rw [hj] at hx; cases hx
        | some n =>
          rw [hj] at hx
          obtain rfl : V.str (numS n) = x := Option.some.inj hx
          have n1 := r12 n (List.mem_of_getElem? hj)
          have n2 := ok.rlt (List.mem_of_getElem? hj)
          have n3 := ok.n2
          refine ev_call (vs := [V.str (numS n)]) (ea_cons (ev_var rfl) ea_nil) (fun H3 e3 Q3 q3 E3 => ?_)
          refine ⟨numS n, rfl, by have := (numS_len n1).2; omega, fun H9 e9 => ?_⟩
          rw [numV_num (by omega)]
          rw [List.getD_eq_getElem?_getD, hj] at q3
          exact q3 _ e9
      · rw [kept_all, List.length_map, List.length_map, ints_num] at hD
        have nDH : H D = none := fresh_back eC nD
        obtain ⟨ys, h1, h2, g4⟩ := gC.push nDH nD (Nw.of e4) hD
        refine appL h1 (BC.sz_lt (by rw [h2, List.length_take]; omega)) ?_
        refine ⟨f, _, _, _, _, _, rfl, (eC.trans e4).mut gC.1, ?_, ?_, npf⟩
        · rw [List.take_add_one, show G[i]? = some (row G i) from at_row hi]
          exact g4
        · rw [upd_ne npf]
          exact e4 _ _ hpC
    · obtain ⟨f, l2, l3, l4, l5, l6, rfl, e, g, hp', npf⟩ := hP
      rw [List.length_map, rowsS_len, List.take_length] at g
      walk_at "sx"
      refine ⟨f, G, rfl, g.at, ok, fun H2 e2 => ?_⟩
      walk_at "sx"
      exact k f _ (e.trans e2) (g.ex e2)
end
end LW

set_option Elab.async false
set_option linter.all false
set_option maxRecDepth 100000
set_option maxHeartbeats 4000000
namespace LW
open PySem PySem.Spec PyProof.Rows L2 BC Evl TR EF L2.DX
local macro_rules | `(tactic| walk_at "sx") => `(tactic| try simp only [x_seq, x_next, x_brk, x_cnt, x_nev, x_ret, x_retN, x_drop, x_ifS, x_asg, x_gn, x_gsub, x_par, x_par3, x_aug, x_for, x_lc, x_rng1, x_rng2, x_rng3, x_ilist, x_itup, x_ienum, x_izip, x_izipA, x_istr, x_var, x_c, x_op, x_un, x_test, x_b, x_chain, x_and, x_or, x_not, x_andV, x_orV, x_notV, x_ife, x_nil, x_cons, x_lst, x_tup, x_cb, x_call, x_callK, x_bm, x_bm0, x_tru, x_sl, x_nopart, x_part, x_revL, x_I0, x_I, x_U, x_ip, x_ipC, x_eqI, x_neI, x_eqB, x_neB, x_eqS, x_neS, x_isB, x_isNB, x_lrg, x_gall, x_lenSet, x_augS, x_sortSet, x_mulS, x_fmtS, x_gstar, x_inS, x_addS, x_js0, x_js, x_jn, x_fmt, x_rg1, x_rg2, x_dnewK, x_dnewT, x_dget, x_dget1, x_dget2, x_din, x_dnotin, x_dput, x_ikeys, x_ghead, x_fld, x_sfld, x_prop, x_meth, x_make, x_dc,
  L2.start, List.map_cons, List.map_nil, List.length_cons, List.length_nil, Nat.reduceAdd, Nat.reduceSub, Nat.sub_self, Nat.zero_add, List.replicate, List.replicate_succ, List.replicate_zero, List.append_nil, List.cons_append, List.nil_append, List.set_cons_zero, List.set_cons_succ, List.getElem?_cons_zero, List.getElem?_cons_succ, Option.some.injEq, V.int.injEq, V.bl.injEq, V.ref.injEq, V.str.injEq, List.cons.injEq, and_true, true_and, exists_eq_left', exists_eq_left, exists_and_left, exists_eq, if_true, if_false, ite_true, ite_false, Bool.true_eq_false, Bool.false_eq_true, reduceIte, reduceCtorEq, Bool.not_true, Bool.not_false, decide_true, decide_false, decide_eq_true_eq, Bool.and_true, Bool.true_and, Bool.and_self, Bool.and_false, Bool.false_and, Bool.or_self, Bool.or_false, Bool.false_or, Bool.or_true, Bool.true_or, eq_self])
section
variable {P : Program} {w : World} {K : PySem.W.Frag} {mg : Str → Option Value} {base : Heap}
def spCheckEf (C : Addr) : Sp := fun vs H Q _ => ∃ (x : Addr) (v : V) (qs : List (Int × Int)), vs = [.ref x] ∧ EffAt C H x v qs ∧ Q .non H
theorem ok_check_effect (T : Txt K mg) : FnOk P w K mg base CX0 1 T.f_check_effect T.fd_check_effect ["value"] (spCheckEf T.C_Effect) := by
  refine T.F_check_effect.ok sc_check_effect (fun vs H Q E h => ?_) (fun cdv A outer s H vs Q E hr h => ?_)
  · obtain ⟨x, v, qs, rfl, _⟩ := h
    rfl
  · obtain ⟨x, v, qs, rfl, hx, k⟩ := h
    apply Exists.intro
    apply And.intro
    · apply pss_one
      apply ps_if
      · exact (pt_not (pt_val (pe_callB (k_isi (K := K) rfl) (by rfl) T.n_isinstance (by decide +kernel) (pa_cons (pv 0) (pa_cons (pe_glob (v := .ref T.C_Effect) (by rfl) T.g_Effect rfl) pa_nil)))))
      · apply pss_one
        exact ps_never
      · exact pss_nil
    obtain ⟨dx, t, d, ts, g1, g2, g3, g4, g5⟩ := hx
    walk_at "sx"
    refine ⟨.ref x, .ref T.C_Effect, .ref T.C_Effect, .ref T.C_Effect, true, rfl, .own _, T.x_Effect.ty g1, T.x_Effect.me, ?_⟩
    walk_at "sx"
    exact k
theorem toStrs_nz (M : List Nat) : toStrs (nz M) = M.map numS := by
  unfold toStrs nz
  rw [List.map_map]
  rfl
theorem pg_nz : ∀ {L : List Int}, Pg 40 L → ∃ M : List Nat, L = nz M ∧ ∀ n ∈ M, n < 40
  | [], _ => ⟨[], rfl, fun n h => by simp at h⟩
  | x :: L, h => by
    obtain ⟨M, e, l⟩ := pg_nz (L := L) fun y hy => h y (List.mem_cons_of_mem _ hy)
    have hx := h x List.mem_cons_self
    refine ⟨x.toNat :: M, ?_, fun n hn => ?_⟩
    · rw [e]
      show _ = ((x.toNat : Nat) : Int) :: nz M
      rw [Int.toNat_of_nonneg hx.1]
    · rcases List.mem_cons.mp hn with rfl | hn
      · omega
      · exact l n hn
theorem nz_inj2 {M : List Nat} (h : (nz M).Nodup) : M.Nodup := by
  unfold nz List.Nodup at h
  rw [List.pairwise_map] at h
  exact h.imp fun h e => h (by rw [e])
theorem strs_kept (ws : List Str) : (List.range ws.length).map (fun i => V.str (ws.getD i Str.empty)) = ws.map V.str := by
  apply List.ext_getElem?
  intro i
  rw [List.getElem?_map, List.getElem?_map]
  by_cases ci : i < ws.length
  · rw [List.getElem?_range ci, List.getElem?_eq_getElem ci, Option.map_some, Option.map_some, List.getD_eq_getElem?_getD, List.getElem?_eq_getElem ci]
    rfl
  · rw [List.getElem?_eq_none (by rw [List.length_range]; omega), List.getElem?_eq_none (by omega)]
    rfl
theorem numVs_kept (ws : List Str) : (List.range ws.length).map (fun i => numV (ws.getD i Str.empty)) = ws.map numV := by
  apply List.ext_getElem?
  intro i
  rw [List.getElem?_map, List.getElem?_map]
  by_cases ci : i < ws.length
  · rw [List.getElem?_range ci, List.getElem?_eq_getElem ci, Option.map_some, Option.map_some, List.getD_eq_getElem?_getD, List.getElem?_eq_getElem ci]
    rfl
  · rw [List.getElem?_eq_none (by rw [List.length_range]; omega), List.getElem?_eq_none (by omega)]
    rfl
def spParseTr (K : PySem.W.Frag) : Sp := fun vs H Q _ => ∃ t : List Int, vs = [.str (Txt.join NX (toStrs t))] ∧ t.Nodup ∧ Pg 40 t ∧ t.length ≤ 300 ∧ ∀ r H', H r = none → Ex H H' → H' r = some (.lst (t.map V.int)) → Q (.ref r) H'
theorem ok_parse_trail (T : Txt K mg) : FnOk P w K mg base CX0 4 T.f_parse_trail T.fd_parse_trail ["text"] (spParseTr K) := by
  refine T.F_parse_trail.ok sc_parse_trail (fun vs H Q E h => ?_) (fun cdv A outer s H vs Q E hr h => ?_)
  · obtain ⟨t, rfl, _⟩ := h
    rfl
  · obtain ⟨t, rfl, nd, pg, hl, k⟩ := h
    apply Exists.intro
    apply And.intro
    · apply pss_cons
      · exact (ps_expr (pe_call (ok_check_string T) (hr.mono (by decide)) (by rfl) T.m_check_string T.F_check_string.kp T.b_check_string .nil pass0 (pa_cons (pv 0) pa_nil)))
      apply pss_cons
      · exact (ps_set (i := 1) sc_parse_trail.nd rfl (.inl rfl) (pe_ifExp (pt_cmpR op_ne (pv 0) pe_str (by rfl)) (pe_lc (own := [("word", 2)]) rfl sc_parse_trail.nd (k_pi_list (K := K) rfl (k_bm (K := K) rfl (pe_bm PySem.F.plainAttrs_str PySem.F.slot_str_split PySem.F.type_str_split k_split (pv 0) (pa_cons (pe_glob (v := .str " > ") rfl T.c_NEXT ⟨_, rfl⟩) pa_nil)))) (blkOk_by (own := [("word", 2)]) (N := ["text", "trail", "word"]) (sc := defScope s_parse_trail) (by decide +kernel)) (fun _ _ _ _ _ => by exact (pg_name (i := 2) sc_parse_trail.nd rfl (.inl rfl))) (fun _ _ _ _ _ => by exact pts_nil) (fun _ _ _ _ _ => by exact (pe_call (ok_number_in T) (hr.mono (by decide)) (by rfl) T.m_number_in T.F_number_in.kp T.b_number_in .nil pass0 (pa_cons (pv 2) pa_nil)))) (pe_lst pa_nil)))
      apply pss_cons
      · apply ps_if
        · exact (pt_not (pt_val (pe_call (ok_is_trail T) (hr.mono (by decide)) (by rfl) T.m_is_trail T.F_is_trail.kp T.b_is_trail .nil pass0 (pa_cons (pv 1) pa_nil))))
        · apply pss_one
          exact ps_never
        · exact pss_nil
      apply pss_one
      exact (ps_ret (pv 1))
    obtain ⟨M, rfl, lt⟩ := pg_nz pg
    have nd' := nz_inj2 nd
    have we := (ptT_some (ptT_join nd' lt)).2.2
    have jl := join_len (pg1000 pg)
    rw [toStrs_nz] at jl ⊢
    generalize hx : Txt.join NX (M.map numS) = x at we jl ⊢
    walk_at "sx"
    refine ⟨x, rfl, ?_⟩
    walk_at "sx"
    have fin : ∀ r H', H r = none → Ex H H' → H' r = some (.lst ((nz M).map V.int)) → spIsTrail K [.ref r] H' (fun x H' => ∃ k, x = V.bl k ∧ if (!k) = true then False else Q (V.ref r) H') E0 := fun r H' nr e hr => by
      refine ⟨r, _, rfl, .inl (.inl hr), nd, pg, fun H2 e2 => ⟨true, rfl, ?_⟩⟩
      rw [if_neg (by decide)]
      exact k r H2 nr (e.trans e2) (e2 _ _ hr)
    have se : Str.ofString "" = Str.empty := by decide +kernel
    rw [se]
    by_cases c : x = Str.empty
    · rw [decide_eq_true c, if_neg (by decide)]
      refine ⟨sz_ok (by omega), fun p np => fin p _ np (Ex.new np) ?_⟩
      rw [upd_same]
      unfold wordsT at we
      rw [if_pos c] at we
      have : M = [] := by cases M with
        | nil => rfl
        | cons a b => cases we
      rw [this]
      rfl
    · rw [decide_eq_false c, if_pos (by decide)]
      rw [nz_len] at hl jl
      have xl : x.length ≤ 100000 := by omega
      refine ⟨tyS, _, _, rfl, rfl, by decide, sz_ok (by omega), fun p np => ⟨p, rfl, ⟨_, .inl (.inl upd_same)⟩, fun D nD => ?_⟩⟩
      have e1 := Ex.new np (o := .lst ((Txt.split x (Str.ofString " > ")).map V.str))
      have hp1 : (upd H p (.lst ((Txt.split x (Str.ofString " > ")).map V.str))) p = some (.lst ((Txt.split x (Str.ofString " > ")).map V.str)) := upd_same
      have ww : Txt.split x (Str.ofString " > ") = M.map numS := by unfold wordsT at we; rw [if_neg c] at we; exact we
      rw [ww] at hp1 e1 nD ⊢
      generalize upd H p (.lst ((M.map numS).map V.str)) = H1 at *
      refine lc_list (xs := (M.map numS).map V.str) (fun _ => true) (fun i => numV ((M.map numS).getD i Str.empty)) (.inl (.inl hp1)) nD (by rw [List.length_map, List.length_map]; omega) (fun u => rfl) (fun i x _ => tyes) (fun i y hy _ => ?_) (fun H2 e2 hD => ?_)
      · rw [List.getElem?_map] at hy
        cases hu : (M.map numS)[i]? with
        | none => rw [hu] at hy; cases hy
        | some u =>
          rw [hu] at hy
          obtain rfl : V.str u = y := Option.some.inj hy
          obtain ⟨n, hn, rfl⟩ := List.mem_map.mp (List.mem_of_getElem? hu)
          refine ev_call (vs := [V.str _]) (ea_cons (ev_var rfl) ea_nil) (fun H3 e3 Q3 q3 E3 => ?_)
          refine ⟨_, rfl, by have := (numS_len (n := n) (by have := lt n hn; omega)).2; omega, fun H9 e9 => ?_⟩
          rw [List.getD_eq_getElem?_getD, hu] at q3
          exact q3 _ e9
      · refine fin D H2 (fresh_back e1 nD) (e1.trans e2) ?_
        rw [hD, kept_all, List.length_map, numVs_kept, numV_ints lt]
/-! ### strings of effects -/
def prS (q : Int × Int) : Str := ((toString q.1 : String) : Str) ++ ((">" : String) : Str) ++ ((toString q.2 : String) : Str)
def effW (p : Int) (qs : List (Int × Int)) : List Str := (((toString p : String) : Str) ++ ((";" : String) : Str)) :: qs.map prS
def effS (row : List Int) : Str := match row with
  | [] => Str.empty
  | p :: r => Txt.join ((" " : String) : Str) (effW p (exs (p :: r)))
theorem prs_kept (qs : List (Int × Int)) : (List.range qs.length).map (fun i => V.str (prS (qs.getD i (0, 0)))) = (qs.map prS).map V.str := by
  rw [List.map_map]
  apply List.ext_getElem?
  intro i
  rw [List.getElem?_map, List.getElem?_map]
  by_cases ci : i < qs.length
  · rw [List.getElem?_range ci, List.getElem?_eq_getElem ci, Option.map_some, Option.map_some, List.getD_eq_getElem?_getD, List.getElem?_eq_getElem ci]
    rfl
  · rw [List.getElem?_eq_none (by rw [List.length_range]; omega), List.getElem?_eq_none (by omega)]
    rfl
theorem int_len {i : Int} (h : 0 ≤ i ∧ i < 40) : 1 ≤ ((toString i : String) : Str).length ∧ ((toString i : String) : Str).length ≤ 3 := len3' (by omega) (by omega)
theorem prS_len {q : Int × Int} (h1 : 0 ≤ q.1 ∧ q.1 < 40) (h2 : 0 ≤ q.2 ∧ q.2 < 40) : (prS q).length ≤ 7 := by
  unfold prS
  rw [Str.length_append, Str.length_append, show ((">" : String) : Str).length = 1 by decide]
  have := (int_len h1).2
  have := (int_len h2).2
  omega
theorem effW_len {p : Int} {qs : List (Int × Int)} (hp : 0 ≤ p ∧ p < 40) (hq : PgP qs) : ∀ x ∈ effW p qs, x.length ≤ 7 := fun x hx => by
  rcases List.mem_cons.mp hx with rfl | hx
  · rw [Str.length_append, show ((";" : String) : Str).length = 1 by decide]
    have := (int_len hp).2
    omega
  · obtain ⟨q, hm, rfl⟩ := List.mem_map.mp hx
    exact prS_len (hq q hm).1 (hq q hm).2
def spFmtEf (C : Addr) (K : PySem.W.Frag) : Sp := fun vs H Q _ => ∃ (x : Addr) (row : List Int), vs = [.ref x] ∧ EffAt C H x (firstV row) (exs row) ∧ Pg 40 row ∧ ∀ H', Ex H H' → Q (.str (effS row)) H'
theorem ok_format_effect (T : Txt K mg) : FnOk P w K mg base CX0 3 T.f_format_effect T.fd_format_effect ["effect"] (spFmtEf T.C_Effect K) := by
  refine T.F_format_effect.ok sc_format_effect (fun vs H Q E h => ?_) (fun cdv A outer s H vs Q E hr h => ?_)
  · obtain ⟨x, row, rfl, _⟩ := h
    rfl
  · obtain ⟨x, row, rfl, hx, pg, k⟩ := h
    apply Exists.intro
    apply And.intro
    · apply pss_cons
      · exact (ps_expr (pe_call (ok_check_effect T) (hr.mono (by decide)) (by rfl) T.m_check_effect T.F_check_effect.kp T.b_check_effect .nil pass0 (pa_cons (pv 0) pa_nil)))
      apply pss_cons
      · apply ps_if
        · exact (pt_cmpR op_isN (pe_prop (pv 0) T.cl_Effect T.p_Effect_first (ok_Effect_first T) (hr.mono (by decide)) T.b_Effect_first .nil pass0 rfl) pe_non (by rfl))
        · apply pss_one
          exact (ps_ret pe_str)
        · exact pss_nil
      apply pss_one
      exact (ps_ret (k_bm (K := K) rfl (pe_bm PySem.F.plainAttrs_str PySem.F.slot_str_join PySem.F.type_str_join (k_join (K := K) rfl) pe_str (pa_cons (pe_op op_cat (pe_lst (pa_cons (k_joined (PJ.cons (pe_fmt (pe_prop (pv 0) T.cl_Effect T.p_Effect_first (ok_Effect_first T) (hr.mono (by decide)) T.b_Effect_first .nil pass0 rfl)) (PJ.cons pe_str PJ.nil))) pa_nil)) (pe_lc (own := [("page", 1), ("other", 2)]) rfl sc_format_effect.nd (k_pi_list (K := K) rfl (pe_prop (pv 0) T.cl_Effect T.p_Effect_exits (ok_Effect_exits T) (hr.mono (by decide)) T.b_Effect_exits .nil pass0 rfl)) (blkOk_by (own := [("page", 1), ("other", 2)]) (N := ["effect", "page", "other"]) (sc := defScope s_format_effect) (by decide +kernel)) (fun _ _ _ _ _ => by exact (k_tup (K := K) (n := 2) rfl rfl (pgs_cons (pg_name (i := 1) sc_format_effect.nd rfl (.inl rfl)) (pgs_cons (pg_name (i := 2) sc_format_effect.nd rfl (.inl rfl)) pgs_nil)))) (fun _ _ _ _ _ => by exact pts_nil) (fun _ _ _ _ _ => by exact (k_joined (PJ.cons (pe_fmt (pv 1)) (PJ.cons pe_str (PJ.cons (pe_fmt (pv 2)) PJ.nil))))))) pa_nil))))
    walk_at "sx"
    refine ⟨x, _, _, rfl, hx, ?_⟩
    have ins : ∀ {H'}, EffAt T.C_Effect H' x (firstV row) (exs row) → ∃ a b, H' x = some (HO.ins T.C_Effect a b) := fun h => by
      obtain ⟨_, _, _, _, g, _⟩ := h
      exact ⟨_, _, g⟩
    obtain ⟨i1, i2, ih⟩ := ins hx
    refine ⟨i1, i2, ih, x, _, _, rfl, hx, ?_⟩
    cases row with
    | nil =>
      simp only [firstV]
      walk_at "sx"
      have se : Str.ofString "" = Str.empty := by decide +kernel
      rw [se]
      exact k _ (Ex.refl _)
    | cons p r =>
      have hpg := ints_pgp pg
      have hp := pg p List.mem_cons_self
      have el := exs_len40 (p :: r)
      simp only [firstV] at *
      walk_at "sx"
      refine ⟨tyS, i1, i2, ih, x, _, _, rfl, hx, .inr ⟨p, rfl, log_small hp.1 (by omega), ?_⟩⟩
      have il := (int_len hp).2
      have l1 : (Str.empty ++ Str.ofString (toString p)).length ≤ 3 := by rw [Str.empty_append]; exact il
      have l2 : (Str.empty ++ Str.ofString (toString p) ++ Str.ofString ";").length ≤ 4 := by rw [Str.length_append, show (Str.ofString ";").length = 1 by decide]; omega
      refine ⟨sz_ok (by omega), sz_ok (by omega), sz_ok (by omega), fun w nw => ?_⟩
      have ew := Ex.new nw (o := .lst [V.str (Str.empty ++ Str.ofString (toString p) ++ Str.ofString ";")])
      have hw : (upd H w (.lst [V.str (Str.empty ++ Str.ofString (toString p) ++ Str.ofString ";")])) w = some (.lst [V.str (Str.empty ++ Str.ofString (toString p) ++ Str.ofString ";")]) := upd_same
      rw [Str.empty_append] at hw ew ⊢
      generalize upd H w (.lst [V.str (Str.ofString (toString p) ++ Str.ofString ";")]) = H1 at hw ew ⊢
      have hx1 := hx.ex ew
      obtain ⟨j1, j2, jh⟩ := ins hx1
      refine ⟨j1, j2, jh, x, _, _, rfl, hx1, fun l ts H2 nl e2 hl lts hts => ?_⟩
      refine ⟨l, rfl, ⟨_, .inl (.inl hl)⟩, fun D nD => ?_⟩
      have hget : ∀ i, i < (exs (p :: r)).length → (exs (p :: r))[i]? = some ((exs (p :: r)).getD i (0, 0)) := fun i hi => by rw [List.getD_eq_getElem?_getD, List.getElem?_eq_getElem hi]; rfl
      refine lc_pairs (ts := ts) (u := fun i => .int ((exs (p :: r)).getD i (0, 0)).1) (v := fun i => .int ((exs (p :: r)).getD i (0, 0)).2) (.inl ⟨rfl, .inl (.inl hl)⟩) (fun i t ht => hts i t ht) (fun _ => true) (fun i => V.str (prS ((exs (p :: r)).getD i (0, 0)))) nD (by omega) (fun u v => rfl) (fun i hi => tyes) (fun i hi _ => ?_) (fun H3 e3 hD => ?_)
      · have hm := hpg _ (List.mem_of_getElem? (hget i (by omega)))
        intro H4 e4 R hR
        walk_at "sx"
        have a1 := (int_len hm.1).2
        have a2 := (int_len hm.2).2
        have c1 : (Str.ofString ">").length = 1 := by decide
        have b1 : (Str.empty ++ Str.ofString (toString ((exs (p :: r)).getD i (0, 0)).1)).length ≤ 3 := by rw [Str.empty_append]; exact a1
        have b2 : (Str.empty ++ Str.ofString (toString ((exs (p :: r)).getD i (0, 0)).1) ++ Str.ofString ">").length ≤ 4 := by rw [Str.length_append]; omega
        have b3 : (Str.empty ++ Str.ofString (toString ((exs (p :: r)).getD i (0, 0)).1) ++ Str.ofString ">" ++ Str.ofString (toString ((exs (p :: r)).getD i (0, 0)).2)).length ≤ 7 := by rw [Str.length_append]; have : (Str.ofString (toString ((exs (p :: r)).getD i (0, 0)).2)).length ≤ 3 := a2; omega
        refine ⟨_, rfl, .inr ⟨_, rfl, log_small hm.1.1 (by omega), sz_ok (by omega), sz_ok (by omega), _, rfl, .inr ⟨_, rfl, log_small hm.2.1 (by omega), sz_ok (by omega), ?_⟩⟩⟩
        rw [Str.empty_append]
        exact hR _ (Ex.refl _)
      · rw [lts, kept_all, prs_kept] at hD
        refine catL (e3 _ _ (e2 _ _ hw)) hD (sz_ok (by rw [List.length_map, List.length_map, List.length_singleton]; omega)) fun z nz1 => ?_
        have e5 := Ex.new nz1 (o := .lst ([V.str (Str.ofString (toString p) ++ Str.ofString ";")] ++ ((exs (p :: r)).map prS).map V.str))
        have hz : (upd H3 z (.lst ([V.str (Str.ofString (toString p) ++ Str.ofString ";")] ++ ((exs (p :: r)).map prS).map V.str))) z = some (.lst ((effW p (exs (p :: r))).map V.str)) := by
          rw [upd_same]
          rfl
        refine joinL (.inl (.inl hz)) ?_ (k _ (((ew.trans e2).trans e3).trans e5))
        have sb := sum_b 7 (effW p (exs (p :: r))) (effW_len hp hpg)
        have sl : (effW p (exs (p :: r))).length = (exs (p :: r)).length + 1 := by unfold effW; rw [List.length_cons, List.length_map]
        rw [show ((" " : String) : Str).length = 1 by decide]
        rw [sl] at sb ⊢
        omega
theorem int_num {p : Int} (h : 0 ≤ p ∧ p < 40) : ((toString p : String) : Str) = numS p.toNat := by
  unfold numS
  rw [Int.toNat_of_nonneg h.1]
theorem head_last : ∀ n : Fin 40, cutS (numS n.val ++ ((";" : String) : Str)) (some (-1)) none = ((";" : String) : Str) ∧ cutS (numS n.val ++ ((";" : String) : Str)) none (some (-1)) = numS n.val := by decide +kernel
theorem tl_gt : TL.tl ((">" : String) : Str) = [62] := by decide +kernel
theorem tl_se : TL.tl ((";" : String) : Str) = [59] := by decide +kernel
theorem effW_free {p : Int} {qs : List (Int × Int)} (hp : 0 ≤ p ∧ p < 40) (hq : PgP qs) : ∀ x ∈ effW p qs, 32 ∉ TL.tl x := fun x hx => by
  rcases List.mem_cons.mp hx with rfl | hx
  · rw [TL.tl_append, tl_se, int_num hp]
    intro m
    rcases List.mem_append.mp m with m | m
    · exact numS_free (by omega) m
    · rw [List.mem_singleton] at m
      omega
  · obtain ⟨q, hm, rfl⟩ := List.mem_map.mp hx
    unfold prS
    rw [TL.tl_append, TL.tl_append, tl_gt, int_num (hq q hm).1, int_num (hq q hm).2]
    intro m
    rcases List.mem_append.mp m with m | m
    · rcases List.mem_append.mp m with m | m
      · exact numS_free (by omega) m
      · rw [List.mem_singleton] at m
        omega
    · exact numS_free (by omega) m
theorem part_pr {q : Int × Int} (h1 : 0 ≤ q.1 ∧ q.1 < 40) (h2 : 0 ≤ q.2 ∧ q.2 < 40) : Txt.partition (prS q) ((">" : String) : Str) = (numS q.1.toNat, ((">" : String) : Str), numS q.2.toNat) := by
  unfold prS
  rw [int_num h1, int_num h2]
  exact TL.partition_app tl_gt (numS_free (by omega))
theorem split_eff {p : Int} {qs : List (Int × Int)} (hp : 0 ≤ p ∧ p < 40) (hq : PgP qs) : Txt.split (Txt.join ((" " : String) : Str) (effW p qs)) ((" " : String) : Str) = effW p qs :=
  TL.split_join tl_sp (by decide +kernel) (by unfold effW; simp) (effW_free hp hq)
theorem effS_len {p : Int} {qs : List (Int × Int)} (hp : 0 ≤ p ∧ p < 40) (hq : PgP qs) (hl : qs.length ≤ 40) : 1 ≤ (Txt.join ((" " : String) : Str) (effW p qs)).length ∧ (Txt.join ((" " : String) : Str) (effW p qs)).length ≤ 1000 := by
  have b := join_bound ((" " : String) : Str) 7 (effW p qs) (effW_len hp hq)
  rw [show ((" " : String) : Str).length = 1 by decide, show (effW p qs).length = qs.length + 1 by unfold effW; rw [List.length_cons, List.length_map]] at b
  refine ⟨?_, by omega⟩
  have a := join_length ((" " : String) : Str) (ps := effW p qs) (by unfold effW; simp)
  rw [← TL.join_eq] at a
  have c : totL (effW p qs) = (((toString p : String) : Str) ++ ((";" : String) : Str)).length + totL (qs.map prS) := by unfold totL effW; rw [List.map_cons, List.sum_cons]
  rw [Str.length_append] at c
  have := (int_len hp).1
  omega
def JPe (H : Hp) (x hd : Str) (p : Addr) (qs : List (Int × Int)) (i : Nat) (σ' : L2.St) (H' : Hp) : Prop := ∃ f ts l2 l5 l6 l7, σ' = [some (.str x), some (.ref f), l2, some (.str hd), some (.ref p), l5, l6, l7] ∧ H f = none ∧ Ex H H' ∧ H' f = some (.lst ((ts : List Addr).map V.ref)) ∧ ts.length = i ∧ (∀ j t, ts[j]? = some t → PairAt H' t (qs.getD j (0, 0))) ∧ H' p = some (.lst ((qs.map prS).map V.str)) ∧ p ≠ f
def spParseEf (C : Addr) (K : PySem.W.Frag) : Sp := fun vs H Q _ => ∃ row : List Int, vs = [.str (effS row)] ∧ Pg 40 row ∧ ∀ x H', H x = none → Ex H H' → EffAt C H' x (firstV row) (exs row) → Q (.ref x) H'
theorem ok_parse_effect (T : Txt K mg) : FnOk P w K mg base CX0 7 T.f_parse_effect T.fd_parse_effect ["text"] (spParseEf T.C_Effect K) := by
  refine T.F_parse_effect.ok sc_parse_effect (fun vs H Q E h => ?_) (fun cdv A outer s H vs Q E hr h => ?_)
  · obtain ⟨row, rfl, _⟩ := h
    rfl
  · obtain ⟨row, rfl, pg, k⟩ := h
    apply Exists.intro
    apply And.intro
    · apply pss_cons
      · exact (ps_expr (pe_call (ok_check_string T) (hr.mono (by decide)) (by rfl) T.m_check_string T.F_check_string.kp T.b_check_string .nil pass0 (pa_cons (pv 0) pa_nil)))
      apply pss_cons
      · apply ps_if
        · exact (pt_cmpR op_eq (pv 0) pe_str (by rfl))
        · apply pss_one
          exact (ps_ret (pe_make T.M_Effect (ok_Effect___init T) (hr.mono (by decide)) (by rfl) T.g_Effect T.b_Effect___init .nil pass0 (pa_cons pe_non (pa_cons (pe_lst pa_nil) pa_nil))))
        · exact pss_nil
      apply pss_cons
      · exact (ps_asg (k_bm (K := K) rfl (pe_bm PySem.F.plainAttrs_str PySem.F.slot_str_split PySem.F.type_str_split k_split (pv 0) (pa_cons pe_str pa_nil))) (pg_star (K := K) rfl rfl (pg_name (i := 3) sc_parse_effect.nd rfl (.inl rfl)) (pg_name (i := 4) sc_parse_effect.nd rfl (.inl rfl))))
      apply pss_cons
      · exact (ps_set (i := 1) sc_parse_effect.nd rfl (.inl rfl) (pe_lst pa_nil))
      apply pss_cons
      · apply ps_for PassesOwn.never rfl
        · exact (k_pi_list (K := K) rfl (pv 4))
        · exact (pg_name (i := 2) sc_parse_effect.nd rfl (.inl rfl))
        · apply pss_cons
          · exact (ps_asg (k_bm (K := K) rfl (pe_bm PySem.F.plainAttrs_str PySem.F.slot_str_partition PySem.F.type_str_partition mt_partition (pv 2) (pa_cons pe_str pa_nil))) (k_tup (K := K) (n := 3) rfl rfl (pgs_cons (pg_name (i := 5) sc_parse_effect.nd rfl (.inl rfl)) (pgs_cons (pg_name (i := 6) sc_parse_effect.nd rfl (.inl rfl)) (pgs_cons (pg_name (i := 7) sc_parse_effect.nd rfl (.inl rfl)) pgs_nil)))))
          apply pss_cons
          · apply ps_if
            · exact (pt_cmpR op_eq (pv 6) pe_str (by rfl))
            · apply pss_one
              exact ps_never
            · exact pss_nil
          apply pss_one
          exact (ps_expr (k_bm (K := K) rfl (pe_bm PySem.F.plainAttrs_list PySem.F.slot_list_append PySem.F.type_list_append mt_append (pv 1) (pa_cons (pe_tup (pa_cons (pe_call (ok_number_in T) (hr.mono (by decide)) (by rfl) T.m_number_in T.F_number_in.kp T.b_number_in .nil pass0 (pa_cons (pv 5) pa_nil)) (pa_cons (pe_call (ok_number_in T) (hr.mono (by decide)) (by rfl) T.m_number_in T.F_number_in.kp T.b_number_in .nil pass0 (pa_cons (pv 7) pa_nil)) pa_nil))) pa_nil))))
      apply pss_cons
      · apply ps_if
        · exact (PW.pt (pw_or (pt_cmpR op_ne (pe_slice sl_str (pv 3) (po_some (pe_un un_neg pe_int)) po_none) pe_str (by rfl)) (pw_or1 (pt_cmpR (k_eqNil (K := K) rfl hr.units) (pv 4) (pe_lst pa_nil) (by rfl)))))
        · apply pss_one
          exact ps_never
        · exact pss_nil
      apply pss_one
      exact (ps_try_only rfl rfl ⟨rfl, by decide, .inl T.g_InvalidEffectError⟩ takes0 (fun W pn xe tk _ => (pss_one (ps_ret (pe_make T.M_Effect (ok_Effect___init T) (hr.mono (by decide)) (by rfl) T.g_Effect T.b_Effect___init .nil pass0 (pa_cons (pe_call (ok_number_in T) (hr.mono (by decide)) (by rfl) T.m_number_in T.F_number_in.kp T.b_number_in .nil pass0 (pa_cons (pe_slice sl_str (pv 3) po_none (po_some (pe_un un_neg pe_int))) pa_nil)) (pa_cons (pv 1) pa_nil)))))) (fun a oe cls d pn _ _ => (pss_one ps_never)))
    walk_at "sx"
    refine ⟨_, rfl, ?_⟩
    have se : Str.ofString "" = Str.empty := by decide +kernel
    rw [se]
    cases row with
    | nil =>
      show if effS [] = Str.empty then _ else _
      rw [if_pos (show effS [] = Str.empty from rfl)]
      refine ⟨sz_ok (by omega), fun y ny => ?_⟩
      have ey := Ex.new ny (o := .lst [])
      intro x dx n1 n2 n3
      refine ⟨x, dx, y, [], [], rfl, upd_same, ⟨.inl (.inl ?_), rfl, fun i t h => by simp at h⟩, pg_nil _, fun H' hk he => ⟨rfl, ?_⟩⟩
      · rw [upd_ne (ne_of_none upd_same n1), upd_ne (ne_of_none upd_same n2)]
        exact upd_same
      · exact k x H' (fresh_back ey n1) (ey.trans (make_ex (C := T.C_Effect) n1 n2 hk)) he
    | cons p r =>
      have hpg := ints_pgp pg
      have hp := pg p List.mem_cons_self
      have el := exs_len40 (p :: r)
      have sl := effS_len hp hpg el
      have nex : exs (p :: r) ≠ [] := fun e => by
        have := (mem_exs pg).mpr (nx_lst (row := p :: r) (by simp))
        rw [e] at this
        exact List.not_mem_nil this
      have hget : ∀ i, i < (exs (p :: r)).length → (exs (p :: r))[i]? = some ((exs (p :: r)).getD i (0, 0)) := fun i hi => by rw [List.getD_eq_getElem?_getD, List.getElem?_eq_getElem hi]; rfl
      have sp := split_eff hp hpg
      rw [← show effS (p :: r) = Txt.join ((" " : String) : Str) (effW p (exs (p :: r))) from rfl] at sl sp
      show if effS (p :: r) = Str.empty then _ else _
      generalize effS (p :: r) = X at sl sp ⊢
      rw [if_neg (fun e => by rw [e] at sl; exact absurd sl.1 (by decide))]
      refine ⟨tyS, _, _, rfl, rfl, by decide, ?_, fun q nq => ?_⟩
      · show X.length + 2 ≤ sizeLine
        exact sz_ok (by omega)
      rw [sp]
      have e1 := Ex.new nq (o := .lst ((effW p (exs (p :: r))).map V.str))
      have hq : (upd H q (.lst ((effW p (exs (p :: r))).map V.str))) q = some (.lst ((effW p (exs (p :: r))).map V.str)) := upd_same
      generalize upd H q (.lst ((effW p (exs (p :: r))).map V.str)) = H1 at e1 hq ⊢
      refine ⟨q, rfl, V.str (((toString p : String) : Str) ++ ((";" : String) : Str)), ((exs (p :: r)).map prS).map V.str, .inl (.inl hq), fun u nu => ⟨sz_ok (by omega), fun f nf => ?_⟩⟩
      have eu := Ex.new nu (o := .lst (((exs (p :: r)).map prS).map V.str))
      have ef := Ex.new nf (o := .lst [])
      have hu := ef _ _ (upd_same (H := H1) (a := u) (o := .lst (((exs (p :: r)).map prS).map V.str)))
      have nuf : u ≠ f := fun z => by subst z; rw [upd_same] at nf; cases nf
      have nfH : H f = none := fresh_back (e1.trans eu) nf
      have eA := (e1.trans eu).trans ef
      have hfA : (upd (upd H1 u (.lst (((exs (p :: r)).map prS).map V.str))) f (.lst [])) f = some (.lst []) := upd_same
      generalize upd (upd H1 u (.lst (((exs (p :: r)).map prS).map V.str))) f (.lst []) = HA at eA hu hfA ⊢
      refine ⟨⟨_, .inl (.inl hu)⟩, ?_⟩
      refine lg_list (xs := ((exs (p :: r)).map prS).map V.str) (JPe H X (((toString p : String) : Str) ++ ((";" : String) : Str)) u (exs (p :: r))) ⟨f, [], none, none, none, none, rfl, nfH, eA, hfA, rfl, fun j t h => by simp at h, hu, nuf⟩ (fun i σ' H' _ hP => by obtain ⟨_, _, _, _, _, _, _, _, _, _, _, _, h, _⟩ := hP; exact .inl (.inl h)) (fun i x σ' H' hx hP => ?_) (fun σ' H' hP => ?_)
      · obtain ⟨f, ts, l2, l5, l6, l7, rfl, nf, e, hf, tl, hts, hu, nuf⟩ := hP
        rw [List.getElem?_map, List.getElem?_map] at hx
        cases hi : (exs (p :: r))[i]? with
        | none => rw [hi] at hx; cases hx
        | some qq =>
          rw [hi] at hx
          obtain rfl : V.str (prS qq) = x := Option.some.inj hx
          have hm := hpg _ (List.mem_of_getElem? hi)
          have hil := (List.getElem?_eq_some_iff.mp hi).1
          have pl := prS_len hm.1 hm.2
          walk_at "sx"
          refine ⟨tyS, by decide, sz_ok (by omega), fun T nT => ?_⟩
          have pp := part_pr hm.1 hm.2
          have pp' : Txt.partition (prS qq) (Str.ofString ">") = (numS qq.1.toNat, Str.ofString ">", numS qq.2.toNat) := pp
          rw [pp']
          refine g_three upd_same ?_
          have eT := Ex.new nT (o := .tup [V.str (numS qq.1.toNat), V.str (Str.ofString ">"), V.str (numS qq.2.toNat)])
          generalize upd H' T (.tup [V.str (numS qq.1.toNat), V.str (Str.ofString ">"), V.str (numS qq.2.toNat)]) = H2 at eT ⊢
          walk_at "sx"
          rw [if_neg (show ¬ Str.ofString ">" = Str.empty by decide +kernel)]
          have s1 := (numS_len (n := qq.1.toNat) (by omega)).2
          have s2 := (numS_len (n := qq.2.toNat) (by omega)).2
          refine ⟨tyL (eT _ _ hf), _, rfl, by omega, fun H3 e3 => ⟨_, rfl, by omega, fun H4 e4 => ⟨sz_ok (by omega), fun t nt => ?_⟩⟩⟩
          have v1 : numV (numS qq.1.toNat) = .int qq.1 := by
            have := numV_num (n := qq.1.toNat) (by omega)
            rwa [Int.toNat_of_nonneg hm.1.1] at this
          have v2 : numV (numS qq.2.toNat) = .int qq.2 := by
            have := numV_num (n := qq.2.toNat) (by omega)
            rwa [Int.toNat_of_nonneg hm.2.1] at this
          rw [v1, v2]
          have et := Ex.new nt (o := .tup [.int qq.1, .int qq.2])
          have ht : (upd H4 t (.tup [.int qq.1, .int qq.2])) t = some (.tup [.int qq.1, .int qq.2]) := upd_same
          have E := ((eT.trans e3).trans e4).trans et
          have nT' : H' t = none := fresh_back ((eT.trans e3).trans e4) nt
          generalize upd H4 t (.tup [.int qq.1, .int qq.2]) = H5 at et ht E ⊢
          have hf5 := E _ _ hf
          have ntf : t ≠ f := fun z => by subst z; rw [hf] at nT'; cases nT'
          refine appL hf5 (BC.sz_lt (by rw [List.length_map]; omega)) ?_
          refine ⟨f, ts ++ [t], _, _, _, _, rfl, nf, (e.trans E).mut nf, by rw [upd_same, List.map_append]; rfl, by rw [List.length_append, tl]; rfl, fun j t' hj => ?_, by rw [upd_ne nuf]; exact E _ _ hu, nuf⟩
          have key : ∀ t', t' ≠ f → ∀ q, PairAt H5 t' q → PairAt (upd H5 f (.lst (ts.map V.ref ++ [V.ref t]))) t' q := fun t' ne q h => by
            unfold PairAt
            rw [upd_ne ne]
            exact h
          by_cases cj : j < ts.length
          · rw [List.getElem?_append_left cj] at hj
            have hh := hts j t' hj
            have ne : t' ≠ f := fun z => by subst z; rw [pr_ev hh] at hf; cases hf
            exact key t' ne _ (E _ _ hh)
          · rw [List.getElem?_append_right (by omega)] at hj
            have ej : j = ts.length := by
              have := (List.getElem?_eq_some_iff.mp hj).1
              rw [List.length_singleton] at this
              omega
            subst ej
            rw [Nat.sub_self] at hj
            obtain rfl : t = t' := Option.some.inj hj
            refine key t ntf _ ?_
            rw [tl, List.getD_eq_getElem?_getD, hi]
            exact ht
      · obtain ⟨f, ts, l2, l5, l6, l7, rfl, nf, e, hf, tl, hts, hu, nuf⟩ := hP
        rw [List.length_map, List.length_map] at tl
        walk_at "sx"
        have hh := head_last ⟨p.toNat, by omega⟩
        rw [← int_num hp] at hh
        have hl3 := (int_len hp).2
        have hsl : (Str.ofString (toString p) ++ Str.ofString ";").length ≤ 4 := by rw [Str.length_append, show (Str.ofString ";").length = 1 by decide]; have : (Str.ofString (toString p)).length ≤ 3 := hl3; omega
        refine ⟨_, rfl, sz_ok (by omega), ?_⟩
        rw [show cutS (Str.ofString (toString p) ++ Str.ofString ";") (some (-1)) none = Str.ofString ";" from hh.1]
        refine x_neS.mpr ⟨_, rfl, ?_⟩
        rw [decide_eq_true rfl, if_neg (by decide)]
        refine ⟨sz_ok (by omega), fun z nz1 => ?_⟩
        have ez := Ex.new nz1 (o := .lst [])
        refine eqNil (.inl (.inl (ez _ _ hu))) (.inl (.inl upd_same)) ⟨_, rfl, ?_⟩
        rw [if_neg (by simp [nex])]
        refine ⟨_, rfl, sz_ok (by omega), ?_⟩
        rw [show cutS (Str.ofString (toString p) ++ Str.ofString ";") none (some (-1)) = Str.ofString (toString p) from hh.2]
        refine ⟨_, rfl, by have : (Str.ofString (toString p)).length ≤ 3 := hl3; omega, fun H5 e5 => ?_⟩
        have pv : numV (Str.ofString (toString p)) = .int p := by
          have := numV_num (n := p.toNat) (by omega)
          rw [← int_num hp, Int.toNat_of_nonneg hp.1] at this
          exact this
        rw [pv]
        have E := (e.trans ez).trans e5
        intro x dx n1 n2 n3
        have es : Ex H5 (upd (upd H5 dx (.own x)) x (.ins T.C_Effect dx [])) := (Ex.new n2).mut n1
        refine ⟨x, dx, f, ts, p :: r, rfl, upd_same, ⟨.inl (.inl (es _ _ (e5 _ _ (ez _ _ hf)))), tl, fun j t hj => es _ _ (e5 _ _ (ez _ _ (hts j t hj)))⟩, pg, fun H' hk he => ⟨rfl, ?_⟩⟩
        exact k x H' (fresh_back E n1) (E.trans (make_ex (C := T.C_Effect) n1 n2 hk)) he
end
end LW

set_option Elab.async false
set_option linter.all false
set_option maxRecDepth 100000
set_option maxHeartbeats 4000000
namespace LW
open PySem PySem.Spec PyProof.Rows L2 BC Evl TR EF L2.DX
local macro_rules | `(tactic| walk_at "sx") => `(tactic| try simp only [x_seq, x_next, x_brk, x_cnt, x_nev, x_ret, x_retN, x_drop, x_ifS, x_asg, x_gn, x_gsub, x_par, x_par3, x_aug, x_for, x_lc, x_rng1, x_rng2, x_rng3, x_ilist, x_itup, x_ienum, x_izip, x_izipA, x_istr, x_var, x_c, x_op, x_un, x_test, x_b, x_chain, x_and, x_or, x_not, x_andV, x_orV, x_notV, x_ife, x_nil, x_cons, x_lst, x_tup, x_cb, x_call, x_callK, x_bm, x_bm0, x_tru, x_sl, x_nopart, x_part, x_revL, x_I0, x_I, x_U, x_ip, x_ipC, x_eqI, x_neI, x_eqB, x_neB, x_eqS, x_neS, x_isB, x_isNB, x_lrg, x_gall, x_lenSet, x_augS, x_sortSet, x_mulS, x_fmtS, x_gstar, x_inS, x_addS, x_js0, x_js, x_jn, x_fmt, x_rg1, x_rg2, x_dnewK, x_dnewT, x_dget, x_dget1, x_dget2, x_din, x_dnotin, x_dput, x_ikeys, x_ghead, x_fld, x_sfld, x_prop, x_meth, x_make, x_dc,
  L2.start, List.map_cons, List.map_nil, List.length_cons, List.length_nil, Nat.reduceAdd, Nat.reduceSub, Nat.sub_self, Nat.zero_add, List.replicate, List.replicate_succ, List.replicate_zero, List.append_nil, List.cons_append, List.nil_append, List.set_cons_zero, List.set_cons_succ, List.getElem?_cons_zero, List.getElem?_cons_succ, Option.some.injEq, V.int.injEq, V.bl.injEq, V.ref.injEq, V.str.injEq, List.cons.injEq, and_true, true_and, exists_eq_left', exists_eq_left, exists_and_left, exists_eq, if_true, if_false, ite_true, ite_false, Bool.true_eq_false, Bool.false_eq_true, reduceIte, reduceCtorEq, Bool.not_true, Bool.not_false, decide_true, decide_false, decide_eq_true_eq, Bool.and_true, Bool.true_and, Bool.and_self, Bool.and_false, Bool.false_and, Bool.or_self, Bool.or_false, Bool.false_or, Bool.or_true, Bool.true_or, eq_self])
section
variable {P : Program} {w : World} {K : PySem.W.Frag} {mg : Str → Option Value} {base : Heap}
def spSource : Sp := fun vs H Q _ => ∃ (n : Int) (k : Nat), vs = [.int n, .int k] ∧ k ≤ 1000 ∧ ∀ p H', H p = none → Ex H H' → BagAt H' p 0 → Q (.ref p) H'
theorem ok_law_source (T : Txt K mg) : FnOk P w K mg base CX0 1 T.f_law_source T.fd_law_source ["_law_cell", "_law_k"] spSource := by
  refine T.F_law_source.ok sc_law_source (fun vs H Q E h => ?_) (fun cdv A outer s H vs Q E hr h => ?_)
  · obtain ⟨n, k, rfl, _⟩ := h
    rfl
  · obtain ⟨n, i, rfl, hi, k⟩ := h
    apply Exists.intro
    apply And.intro
    · apply pss_one
      exact (ps_ret (pe_lst (pa_cons (pe_callB (call_max2 rfl) (by rfl) T.n_max (by decide +kernel) (pa_cons pe_int (pa_cons (pe_op op_sub (pv 0) (pe_op op_powX pe_int pe_int)) pa_nil))) (pa_cons (pe_op op_add (pe_op op_mulX (pe_op op_modX (pv 0) (pe_op op_add (pe_op op_powX pe_int pe_int) pe_int)) pe_int) (pv 1)) (pa_cons pe_int pa_nil)))))
    walk_at "sx"
    have t18 : Int.toNat 18 = 18 := rfl
    have t33 : Int.toNat 33 = 33 := rfl
    rw [t33]
    have m0 : 0 ≤ n % (10 ^ 33 + 153) := Int.emod_nonneg _ (by decide)
    have m1 : n % (10 ^ 33 + 153) < 10 ^ 33 + 153 := Int.emod_lt_of_pos _ (by decide)
    refine ⟨⟨by decide, by decide, by decide⟩, _, _, ⟨rfl, rfl⟩, ⟨by decide, by decide, by decide⟩, by decide, .inl (.inr ⟨by decide, by decide⟩), sz_ok (by omega), fun p np => ?_⟩
    refine k p _ np (Ex.new np) ⟨_, _, _, upd_same, by omega, by omega, by omega, by omega⟩
theorem ok_law_draw (T : Txt K mg) : FnOk P w K mg base CX0 1 T.f_law_draw T.fd_law_draw ["_law_source_here", "_law_count"] spDraw := by
  refine T.F_law_draw.ok sc_law_draw (fun vs H Q E h => ?_) (fun cdv A outer s H vs Q E hr h => ?_)
  · obtain ⟨b, m, c, rfl, _⟩ := h
    rfl
  · obtain ⟨b, m, c, rfl, h1, h2, hB, hc, k⟩ := h
    obtain ⟨x0, x1, x2, hb, h3, h4, h5, h6⟩ := hB
    apply Exists.intro
    apply And.intro
    · apply pss_cons
      · apply ps_if
        · exact (pt_cmpR op_gt (pe_ix (k_ix_list (K := K) rfl) (pv 0) pe_int (fun _ _ => rfl)) pe_int (by rfl))
        · apply pss_cons
          · exact (ps_set (i := 3) sc_law_draw.nd rfl (.inl rfl) (pe_op op_modX (pe_ix (k_ix_list (K := K) rfl) (pv 0) pe_int (fun _ _ => rfl)) (pv 1)))
          apply pss_cons
          · exact (ps_asg (pe_op op_fdivX (pe_ix (k_ix_list (K := K) rfl) (pv 0) pe_int (fun _ _ => rfl)) (pv 1)) (pg_sub (pv 0) pe_int set_list))
          apply pss_one
          exact (ps_ret (pv 3))
        · exact pss_nil
      apply pss_cons
      · exact (ps_asg (pe_op op_add (pe_ix (k_ix_list (K := K) rfl) (pv 0) pe_int (fun _ _ => rfl)) pe_int) (pg_sub (pv 0) pe_int set_list))
      apply pss_cons
      · exact (ps_set (i := 2) sc_law_draw.nd rfl (.inl rfl) (pe_op op_modX (pe_op op_powX (pe_op op_add (pe_ix (k_ix_list (K := K) rfl) (pv 0) pe_int (fun _ _ => rfl)) (pe_op op_mulX pe_int (pe_ix (k_ix_list (K := K) rfl) (pv 0) pe_int (fun _ _ => rfl)))) pe_int) (pe_op op_add (pe_op op_powX pe_int pe_int) pe_int)))
      apply pss_cons
      · exact (ps_set (i := 2) sc_law_draw.nd rfl (.inl rfl) (pe_op op_modX (pe_op op_powX (pe_op op_add (pv 2) (pe_op op_mulX pe_int (pe_ix (k_ix_list (K := K) rfl) (pv 0) pe_int (fun _ _ => rfl)))) pe_int) (pe_op op_add (pe_op op_powX pe_int pe_int) pe_int)))
      apply pss_one
      exact (ps_ret (pe_op op_modX (pe_op op_fdivX (pv 2) pe_int) (pv 1)))
    walk_at "sx"
    refine ixL (.inl (.inl hb)) (atI_n (j := 0) rfl rfl) ?_
    walk_at "sx"
    have hdm : ∀ i, CDivW i m := fun i => wide_div (b := 2001) h1 (big_lt h1 h2) (by omega) (by omega)
    by_cases h0 : 0 < x0
    · simp only [h0, if_true]
      refine ixL (.inl (.inl hb)) (atI_n (j := 0) rfl rfl) ?_
      walk_at "sx"
      refine ⟨h1, ?_⟩
      refine ixL (.inl (.inl hb)) (atI_n (j := 0) rfl rfl) ?_
      walk_at "sx"
      refine ⟨hdm _, ?_⟩
      refine setL hb (ixN_n (j := 0) rfl (by simp)) ?_
      exact k _ _ (Int.emod_nonneg _ (by omega)) (Int.emod_lt_of_pos _ h1) Fx.put ⟨_, _, _, upd_same, h3, h4, h5, by omega⟩
    · simp only [h0, if_false]
      refine ixL (.inl (.inl hb)) (atI_n (j := 2) rfl rfl) ?_
      walk_at "sx"
      refine setL hb (ixN_n (j := 2) rfl (by simp)) ?_
      have hb2 : (upd H b (.lst [V.int x0, V.int x1, V.int (x2 + 1)])) b = some (.lst [V.int x0, V.int x1, V.int (x2 + 1)]) := upd_same
      refine ixL (.inl (.inl hb2)) (atI_n (j := 1) rfl rfl) ?_
      walk_at "sx"
      refine ixL (.inl (.inl hb2)) (atI_n (j := 2) rfl rfl) ?_
      walk_at "sx"
      have c1 : CMulX 970051 (x2 + 1) := .inl (.inl ⟨by decide, by decide⟩)
      have c2 : CMulX 73 (x2 + 1) := .inl (.inl ⟨by decide, by decide⟩)
      have c3 : CPowX (x1 + 970051 * (x2 + 1)) 3 := ⟨by decide, by decide, Nat.lt_of_lt_of_le (log2_small (k := 300) (by decide) (by omega)) (by decide)⟩
      have t39 : Int.toNat 39 = 39 := rfl
      have t36 : Int.toNat 36 = 36 := rfl
      rw [t39, t36]
      refine ⟨c1, c3, ⟨by decide, by decide, by decide⟩, by decide, ?_⟩
      refine ixL (.inl (.inl hb2)) (atI_n (j := 2) rfl rfl) ?_
      walk_at "sx"
      generalize hz : (x1 + 970051 * (x2 + 1)) ^ Int.toNat 3 % (10 ^ 39 + 3) = z
      have hz0 : 0 ≤ z := by rw [← hz]; exact Int.emod_nonneg _ (by decide)
      have hz1 : z < 10 ^ 39 + 3 := by rw [← hz]; exact Int.emod_lt_of_pos _ (by decide)
      have c4 : CPowX (z + 73 * (x2 + 1)) 3 := ⟨by decide, by decide, Nat.lt_of_lt_of_le (log2_small (k := 300) (by decide) (by omega)) (by decide)⟩
      refine ⟨c2, c4, ⟨by decide, by decide, by decide⟩, by decide, ⟨by decide, by decide⟩, h1, ?_⟩
      exact k _ _ (Int.emod_nonneg _ (by omega)) (Int.emod_lt_of_pos _ h1) Fx.put ⟨_, _, _, hb2, h3, h4, by omega, by omega⟩
/-- a drawn site -/
def spNet : Sp := fun vs H Q _ => ∃ (b : Addr) (mo c : Nat), vs = [.ref b, .int mo] ∧ 1 ≤ mo ∧ mo ≤ 12 ∧ BagAt H b c ∧ c ≤ 100000 ∧
  ∀ s (G : Grid) H', Fx b H H' → BagAt H' b (c + 400) → GridN H H' s G → SiteOk G → G.length ≤ mo → Q (.ref s) H'
def RowsOk (m : Nat) (G : Grid) : Prop := ∀ (i : Nat) (r : List Nat), G[i]? = some r → r.Pairwise (· < ·) ∧ (∀ x ∈ r, x < m) ∧ i ∉ r
def JNe (H : Hp) (b : Addr) (mo m c : Nat) (st : Int) (i : Nat) (σ' : L2.St) (H' : Hp) : Prop := ∃ l3 f l6 l7 l8 G, σ' = [some (.ref b), some (.int mo), some (.int m), l3, some (.int st), some (.ref f), l6, l7, l8] ∧
  Fx b H H' ∧ BagAt H' b (c + 4 + 2 * m * i) ∧ GridN H H' f G ∧ G.length = i ∧ RowsOk m G
def JRo (H0 : Hp) (b : Addr) (mo m c : Nat) (st : Int) (f r : Addr) (i : Nat) (j : Nat) (σ' : L2.St) (H' : Hp) : Prop := ∃ l7 l8 R, σ' = [some (.ref b), some (.int mo), some (.int m), some (.int (i : Int)), some (.int st), some (.ref f), some (.ref r), l7, l8] ∧
  Fx b H0 H' ∧ BagAt H' b (c + 4 + 2 * m * i + 2 * j) ∧ H' r = some (.lst ((nz R).map V.int)) ∧ R.Pairwise (· < ·) ∧ (∀ x ∈ R, x < j) ∧ i ∉ R
theorem ok_law_net (T : Txt K mg) : FnOk P w K mg base CX0 2 T.f_law_net T.fd_law_net ["_law_source_here", "_law_most"] spNet := by
  refine T.F_law_net.ok sc_law_net (fun vs H Q E h => ?_) (fun cdv A outer s H vs Q E hr h => ?_)
  · obtain ⟨b, mo, c, rfl, _⟩ := h
    rfl
  · obtain ⟨b, mo, c, rfl, m1, m2, hB, hc, k⟩ := h
    apply Exists.intro
    apply And.intro
    · apply pss_cons
      · exact (ps_set (i := 2) sc_law_net.nd rfl (.inl rfl) (pe_ix (k_ix_list (K := K) rfl) (pe_lst (pa_cons (pe_op op_add pe_int (pe_call (ok_law_draw T) (hr.mono (by decide)) (by rfl) T.m_law_draw T.F_law_draw.kp T.b_law_draw .nil pass0 (pa_cons (pv 0) (pa_cons (pv 1) pa_nil)))) (pa_cons (pe_op op_add pe_int (pe_call (ok_law_draw T) (hr.mono (by decide)) (by rfl) T.m_law_draw T.F_law_draw.kp T.b_law_draw .nil pass0 (pa_cons (pv 0) (pa_cons (pe_callB (call_min2 rfl) (by rfl) T.n_min (by decide +kernel) (pa_cons (pv 1) (pa_cons pe_int pa_nil))) pa_nil)))) (pa_cons (pv 1) pa_nil)))) (pe_call (ok_law_draw T) (hr.mono (by decide)) (by rfl) T.m_law_draw T.F_law_draw.kp T.b_law_draw .nil pass0 (pa_cons (pv 0) (pa_cons pe_int pa_nil))) (fun _ _ => rfl)))
      apply pss_cons
      · exact (ps_par (i := 4) (j := 5) (by rfl) sc_law_net.nd rfl rfl (by decide) rfl rfl (pa_cons (pe_call (ok_law_draw T) (hr.mono (by decide)) (by rfl) T.m_law_draw T.F_law_draw.kp T.b_law_draw .nil pass0 (pa_cons (pv 0) (pa_cons pe_int pa_nil))) (pa_cons (pe_lst pa_nil) pa_nil)) (by rfl))
      apply pss_cons
      · apply ps_for PassesOwn.never rfl
        · exact (pi_range1 (by rfl) T.n_range (pa_cons (pv 2) pa_nil))
        · exact (pg_name (i := 3) sc_law_net.nd rfl (.inl rfl))
        · apply pss_cons
          · exact (ps_set (i := 6) sc_law_net.nd rfl (.inl rfl) (pe_lst pa_nil))
          apply pss_cons
          · apply ps_for PassesOwn.never rfl
            · exact (pi_range1 (by rfl) T.n_range (pa_cons (pv 2) pa_nil))
            · exact (pg_name (i := 7) sc_law_net.nd rfl (.inl rfl))
            · apply pss_cons
              · exact (ps_set (i := 8) sc_law_net.nd rfl (.inl rfl) (pe_lst (pa_cons pe_int (pa_cons (pe_callTy call_int1 (by rfl) T.n_int (by decide +kernel) (pa_cons (pe_cmpR op_eq (pv 7) (pe_op op_modX (pe_op op_add (pv 3) pe_int) (pv 2)) (by rfl)) pa_nil)) (pa_cons (pe_callTy call_int1 (by rfl) T.n_int (by decide +kernel) (pa_cons (pe_cmpR op_eq (pe_callB call_abs (by rfl) T.n_abs (by decide +kernel) (pa_cons (pe_op op_sub (pv 3) (pv 7)) pa_nil)) pe_int (by rfl)) pa_nil)) (pa_cons (pe_call (ok_law_draw T) (hr.mono (by decide)) (by rfl) T.m_law_draw T.F_law_draw.kp T.b_law_draw .nil pass0 (pa_cons (pv 0) (pa_cons pe_int pa_nil))) pa_nil))))))
              apply pss_cons
              · exact (ps_expr (k_bm (K := K) rfl (pe_bm PySem.F.plainAttrs_list PySem.F.slot_list_append PySem.F.type_list_append mt_append (pv 8) (pa_cons (pe_callTy call_int1 (by rfl) T.n_int (by decide +kernel) (pa_cons (pe_cmpR op_eq (pe_call (ok_law_draw T) (hr.mono (by decide)) (by rfl) T.m_law_draw T.F_law_draw.kp T.b_law_draw .nil pass0 (pa_cons (pv 0) (pa_cons pe_int pa_nil))) pe_int (by rfl)) pa_nil)) pa_nil))))
              apply pss_one
              apply ps_if
              · exact (PW.pt (pw_and (pt_cmpR op_ne (pv 7) (pv 3) (by rfl)) (pw_and1 (pt_cmpR op_eq (pe_ix (k_ix_list (K := K) rfl) (pv 8) (pv 4) (fun _ _ => rfl)) pe_int (by rfl)))))
              · apply pss_one
                exact (ps_expr (k_bm (K := K) rfl (pe_bm PySem.F.plainAttrs_list PySem.F.slot_list_append PySem.F.type_list_append mt_append (pv 6) (pa_cons (pv 7) pa_nil))))
              · exact pss_nil
          apply pss_one
          exact (ps_expr (k_bm (K := K) rfl (pe_bm PySem.F.plainAttrs_list PySem.F.slot_list_append PySem.F.type_list_append mt_append (pv 5) (pa_cons (pv 6) pa_nil))))
      apply pss_one
      exact (ps_ret (pv 5))
    obtain ⟨ob, hob⟩ := hB.some
    refine seq_asg (fun v H' => ∃ m : Nat, v = .int m ∧ 1 ≤ m ∧ m ≤ mo ∧ Fx b H H' ∧ BagAt H' b (c + 3)) (fun R hR => ?_) (fun v H1 hC => ?_)
    · walk_at "sx"
      refine ⟨b, _, _, rfl, by omega, big_of (by omega), hB, by omega, fun r1 H1 r10 r11 f1 b1 => ?_⟩
      walk_at "sx"
      refine ⟨_, _, ⟨rfl, rfl⟩, ?_⟩
      refine ⟨b, _, _, rfl, by split <;> omega, big_of (by split <;> omega), b1, by omega, fun r2 H2 r20 r21 f2 b2 => ?_⟩
      have r22 : r2 < mo := by split at r21 <;> omega
      walk_at "sx"
      refine ⟨sz_ok (by omega), fun z nz => ?_⟩
      have ez := Ex.new nz (o := .lst [V.int (1 + r1), V.int (1 + r2), V.int mo])
      refine ⟨b, _, _, rfl, by omega, big_of (by omega), b2.ex ez, by omega, fun r3 H3 r30 r31 f3 b3 => ?_⟩
      obtain ⟨x, hx, em⟩ := pickI (ns := [1 + r1, 1 + r2, (mo : Int)]) r30 r31
      simp only [List.mem_cons, List.mem_nil_iff, or_false] at hx
      refine ixL (.inl (.inl (f3 _ _ (b2.apart nz) upd_same))) em ?_
      exact hR _ _ ⟨x.toNat, by rw [Int.toNat_of_nonneg (by omega)], by omega, by omega, ((f1.trans f2).trans (Fx.of ez)).trans f3, b3⟩
    obtain ⟨m, rfl, n1, n2, f1, b1⟩ := hC
    simp only [L2.start, List.map_cons, List.map_nil, List.set_cons_zero, List.set_cons_succ]
    refine seq_cut (fun σ' H' => ∃ (st : Int) (f : Addr), σ' = [some (.ref b), some (.int mo), some (.int m), none, some (.int st), some (.ref f), none, none, none] ∧ 0 ≤ st ∧ st < 5 ∧ Fx b H H' ∧ BagAt H' b (c + 4) ∧ GridN H H' f []) (fun N hN => ?_) (fun σ2 H2 hC => ?_)
    · walk_at "sx"
      refine ⟨b, _, _, rfl, by omega, big_of (by omega), b1, by omega, fun st H2 s0 s1 f2 b2 => ?_⟩
      refine ⟨sz_ok (by omega), fun f nf => ⟨_, _, ⟨rfl, rfl⟩, ?_⟩⟩
      have ef := Ex.new nf (o := .lst [])
      have nfb := b2.apart nf
      refine hN _ _ ⟨st, f, rfl, s0, s1, (f1.trans f2).trans (Fx.of ef), b2.ex ef, fx_none (f1.trans f2) nf nfb, [], upd_same, rfl, List.nodup_nil, List.not_mem_nil, fun i p e => by simp at e⟩
    obtain ⟨st, f, rfl, s0, s1, f2, b2, g2⟩ := hC
    walk_at "sx"
    refine ⟨by omega, by omega, ?_⟩
    rw [Int.toNat_natCast]
    refine lg_rng (JNe H b mo m c st) ⟨none, f, none, none, none, [], rfl, f2, by simpa using b2, g2, rfl, fun i r e => by simp at e⟩ (fun i σ' H' hi hP => ?_) (fun σ' H' hP => ?_)
    · obtain ⟨l3, f, l6, l7, l8, G, rfl, fx, hb, gn, gl, rok⟩ := hP
      rw [show (0 : Int) + (i : Int) = (i : Int) by omega]
      simp only [x_gn, List.set_cons_zero, List.set_cons_succ]
      have mi : 2 * m * i ≤ 264 := by
        have a : m * i ≤ 12 * 11 := Nat.mul_le_mul (by omega) (by omega)
        have e : 2 * m * i = 2 * (m * i) := Nat.mul_assoc 2 m i
        omega
      refine seq_asg (fun v H1 => ∃ r, v = .ref r ∧ H' r = none ∧ Ex H' H1 ∧ H1 r = some (.lst [])) (fun R hR => ?_) (fun v H1 hC => ?_)
      · walk_at "sx"
        exact ⟨sz_ok (by omega), fun r nr => hR _ _ ⟨r, rfl, nr, Ex.new nr, upd_same⟩⟩
      obtain ⟨r, rfl, nr, e1, hr⟩ := hC
      have nrb := hb.apart nr
      refine seq_cut (fun σ' H2 => ∃ l7 l8 R, σ' = [some (.ref b), some (.int mo), some (.int m), some (.int (i : Int)), some (.int st), some (.ref f), some (.ref r), l7, l8] ∧ Fx b H' H2 ∧ BagAt H2 b (c + 4 + 2 * m * i + 2 * m) ∧ H2 r = some (.lst ((nz R).map V.int)) ∧ R.Pairwise (· < ·) ∧ (∀ x ∈ R, x < m) ∧ i ∉ R) (fun N hN => ?_) (fun σ2 H2 hC => ?_)
      · walk_at "sx"
        refine ⟨by omega, by omega, ?_⟩
        rw [Int.toNat_natCast]
        refine lg_rng (JRo H' b mo m c st f r i) ⟨l7, l8, [], rfl, Fx.of e1, hb.ex e1, hr, List.Pairwise.nil, fun x h => (List.not_mem_nil h).elim, List.not_mem_nil⟩ (fun j σ' H3 hj hP => ?_) (fun σ' H3 hP => ?_)
        · obtain ⟨l7, l8, R, rfl, fx3, b3, hr3, pw, lt, no⟩ := hP
          rw [show (0 : Int) + (j : Int) = (j : Int) by omega]
          simp only [x_gn, List.set_cons_zero, List.set_cons_succ]
          refine seq_asg (fun v H4 => ∃ p a0 a1 a2 a3 : Int, ∃ q, v = .ref q ∧ H3 q = none ∧ Fx b H3 H4 ∧ BagAt H4 b (c + 4 + 2 * m * i + 2 * j + 1) ∧ H4 q = some (.lst [.int a0, .int a1, .int a2, .int a3])) (fun R' hR => ?_) (fun v H4 hC => ?_)
          · walk_at "sx"
            have mm : (0 : Int) < (m : Int) := by omega
            refine ⟨mm, .inr ?_⟩
            refine .inr ?_
            refine ⟨b, _, _, rfl, by omega, big_of (by omega), b3, by omega, fun r4 H4 r40 r41 f4 b4 => ?_⟩
            refine ⟨sz_ok (by simp), fun q nq => ?_⟩
            exact hR _ _ ⟨0, _, _, _, _, q, rfl, fx_none f4 nq (b4.apart nq), f4.trans (Fx.of (Ex.new nq)), b4.ex (Ex.new nq), upd_same⟩
          obtain ⟨_, a0, a1, a2, a3, q, rfl, nq, f4, b4, hq⟩ := hC
          have nqb := b3.apart nq
          refine seq_cut (fun σ' H5 => σ' = [some (.ref b), some (.int mo), some (.int m), some (.int (i : Int)), some (.int st), some (.ref f), some (.ref r), some (.int (j : Int)), some (.ref q)] ∧ Fx b H3 H5 ∧ BagAt H5 b (c + 4 + 2 * m * i + 2 * j + 2) ∧ ∃ a4 : Int, H5 q = some (.lst [.int a0, .int a1, .int a2, .int a3, .int a4])) (fun N2 hN2 => ?_) (fun σ5 H5 hC => ?_)
          · walk_at "sx"
            refine ⟨tyL hq, ?_⟩
            refine ⟨b, _, _, rfl, by omega, big_of (by omega), b4, by omega, fun r5 H5 r50 r51 f5 b5 => ?_⟩
            walk_at "sx"
            refine .inr ?_
            refine appL (f5 _ _ nqb hq) (BC.sz_lt (by simp)) ?_
            exact hN2 _ _ ⟨rfl, (f4.trans f5).mut nq, b5.off nqb, _, upd_same⟩
          obtain ⟨rfl, f5, b5, a4, hq5⟩ := hC
          obtain ⟨pk, _, epk⟩ := pickI (ns := [a0, a1, a2, a3, a4]) s0 s1
          have hr5 := f5 _ _ nrb hr3
          have nqr : q ≠ r := Ne.symm (ne_of_none hr3 nq)
          walk_at "sx"
          by_cases c1 : (j : Int) = (i : Int)
          · rw [decide_eq_true c1]
            walk_at "sx"
            exact ⟨_, _, R, rfl, fx3.trans f5, b5, hr5, pw, fun x hx => by have := lt x hx; omega, no⟩
          · rw [decide_eq_false c1]
            walk_at "sx"
            refine ixL (.inl (.inl hq5)) epk ?_
            walk_at "sx"
            by_cases c2 : pk = 1
            · rw [if_pos c2]
              have rl : R.length ≤ j := nodup_lt j (asc_nodup pw) lt
              refine ⟨tyL hr5, appL hr5 (BC.sz_lt (by rw [List.length_map, nz_len]; omega)) ?_⟩
              rw [nz_v]
              refine ⟨_, _, R ++ [j], rfl, (fx3.trans f5).mut nr, b5.off nrb, upd_same, ?_, fun x hx => ?_, fun hx => ?_⟩
              · rw [List.pairwise_append]
                refine ⟨pw, List.pairwise_singleton _ _, fun x hx y hy => ?_⟩
                rw [List.mem_singleton.mp hy]
                exact lt x hx
              · rcases List.mem_append.mp hx with h | h
                · have := lt x h; omega
                · rw [List.mem_singleton.mp h]; omega
              · rcases List.mem_append.mp hx with h | h
                · exact no h
                · have := List.mem_singleton.mp h
                  omega
            · rw [if_neg c2]
              exact ⟨_, _, R, rfl, fx3.trans f5, b5, hr5, pw, fun x hx => by have := lt x hx; omega, no⟩
        · obtain ⟨l7, l8, R, rfl, fx3, b3, hr3, pw, lt, no⟩ := hP
          exact hN _ _ ⟨_, _, R, rfl, fx3, b3, hr3, pw, lt, no⟩
      obtain ⟨l7', l8', R, rfl, f12, b12, hr2, pw, lt, no⟩ := hC
      have nw := Nw.fx hob f12
      have nrH : H r = none := fx_none fx nr nrb
      obtain ⟨xs, hf, xl, g3⟩ := gn.push nrH nr nw hr2
      walk_at "sx"
      refine ⟨tyL hf, appL hf (BC.sz_lt (by omega)) ?_⟩
      have nfb : f ≠ b := fun e => by subst e; rw [gn.1] at hob; cases hob
      refine ⟨_, f, _, _, _, G ++ [R], rfl, (fx.trans f12).mut gn.1, ((b12.off nfb).mono ?_), g3, by rw [List.length_append, List.length_singleton, gl], fun u x e => ?_⟩
      · have e : 2 * m * (i + 1) = 2 * m * i + 2 * m := Nat.mul_succ (2 * m) i
        omega
      · by_cases hu : u < G.length
        · rw [List.getElem?_append_left hu] at e
          exact rok u x e
        · rw [List.getElem?_append_right (by omega)] at e
          have hu2 : u - G.length = 0 := by
            have := (List.getElem?_eq_some_iff.mp e).1
            rw [List.length_singleton] at this
            omega
          rw [hu2] at e
          obtain rfl : R = x := by simpa using e
          have : u = i := by omega
          subst this
          exact ⟨pw, lt, no⟩
    · obtain ⟨l3, f, l6, l7, l8, G, rfl, fx, hb, gn, gl, rok⟩ := hP
      walk_at "sx"
      have mi : 2 * m * m ≤ 288 := by
        have a : m * m ≤ 12 * 12 := Nat.mul_le_mul (by omega) (by omega)
        have e : 2 * m * m = 2 * (m * m) := Nat.mul_assoc 2 m m
        omega
      exact k f G _ fx (hb.mono (by omega)) gn ⟨by omega, by omega, fun i r e => (rok i r e).1, fun i r e x hx => by rw [gl]; exact (rok i r e).2.1 x hx, fun i r e => (rok i r e).2.2⟩ (by omega)
end
end LW

set_option Elab.async false
set_option linter.all false
set_option maxRecDepth 100000
set_option maxHeartbeats 4000000
namespace LW
open PySem PySem.Spec PyProof.Rows L2 BC Evl TR EF L2.DX
local macro_rules | `(tactic| walk_at "sx") => `(tactic| try simp only [x_seq, x_next, x_brk, x_cnt, x_nev, x_ret, x_retN, x_drop, x_ifS, x_asg, x_gn, x_gsub, x_par, x_par3, x_aug, x_for, x_lc, x_rng1, x_rng2, x_rng3, x_ilist, x_itup, x_ienum, x_izip, x_izipA, x_istr, x_var, x_c, x_op, x_un, x_test, x_b, x_chain, x_and, x_or, x_not, x_andV, x_orV, x_notV, x_ife, x_nil, x_cons, x_lst, x_tup, x_cb, x_call, x_callK, x_bm, x_bm0, x_tru, x_sl, x_nopart, x_part, x_revL, x_I0, x_I, x_U, x_ip, x_ipC, x_eqI, x_neI, x_eqB, x_neB, x_eqS, x_neS, x_isB, x_isNB, x_lrg, x_gall, x_lenSet, x_augS, x_sortSet, x_mulS, x_fmtS, x_gstar, x_inS, x_addS, x_js0, x_js, x_jn, x_fmt, x_rg1, x_rg2, x_dnewK, x_dnewT, x_dget, x_dget1, x_dget2, x_din, x_dnotin, x_dput, x_ikeys, x_ghead, x_fld, x_sfld, x_prop, x_meth, x_make, x_dc,
  L2.start, List.map_cons, List.map_nil, List.length_cons, List.length_nil, Nat.reduceAdd, Nat.reduceSub, Nat.sub_self, Nat.zero_add, List.replicate, List.replicate_succ, List.replicate_zero, List.append_nil, List.cons_append, List.nil_append, List.set_cons_zero, List.set_cons_succ, List.getElem?_cons_zero, List.getElem?_cons_succ, Option.some.injEq, V.int.injEq, V.bl.injEq, V.ref.injEq, V.str.injEq, List.cons.injEq, and_true, true_and, exists_eq_left', exists_eq_left, exists_and_left, exists_eq, if_true, if_false, ite_true, ite_false, Bool.true_eq_false, Bool.false_eq_true, reduceIte, reduceCtorEq, Bool.not_true, Bool.not_false, decide_true, decide_false, decide_eq_true_eq, Bool.and_true, Bool.true_and, Bool.and_self, Bool.and_false, Bool.false_and, Bool.or_self, Bool.or_false, Bool.false_or, Bool.or_true, Bool.true_or, eq_self])
section
variable {P : Program} {w : World} {K : PySem.W.Frag} {mg : Str → Option Value} {base : Heap}
theorem linked_snoc (G : Grid) (x : Nat) : ∀ (L : List Nat), L ≠ [] → linked G (L ++ [x]) = (linked G L && decide (x ∈ row G (L.getLast?.getD 0)))
  | [], h => absurd rfl h
  | [p], _ => by
    show (decide (x ∈ row G p) && true) = (true && decide (x ∈ row G p))
    rw [Bool.true_and, Bool.and_true]
  | p :: q :: l, _ => by
    have ih := linked_snoc G x (q :: l) (by simp)
    show (decide (q ∈ row G p) && linked G ((q :: l) ++ [x])) = _
    rw [ih, ← Bool.and_assoc]
    rfl
theorem linked_take (G : Grid) : ∀ (L : List Nat) (n : Nat), linked G L = true → linked G (L.take n) = true
  | [], n, _ => by simp [linked]
  | [p], 0, _ => rfl
  | [p], n + 1, _ => by simp [linked]
  | p :: q :: l, 0, _ => rfl
  | p :: q :: l, 1, _ => rfl
  | p :: q :: l, n + 2, h => by
    have h' : decide (q ∈ row G p) = true ∧ linked G (q :: l) = true := by
      have : (decide (q ∈ row G p) && linked G (q :: l)) = true := h
      rwa [Bool.and_eq_true] at this
    have ih := linked_take G (q :: l) (n + 1) h'.2
    show (decide (q ∈ row G p) && linked G ((q :: l).take (n + 1))) = true
    rw [h'.1, ih]
    rfl
theorem last_nz {L : List Nat} (h : L ≠ []) : ((nz L).map V.int)[((nz L).map V.int).length - 1]? = some (.int ((L.getLast?.getD 0 : Nat) : Int)) := by
  rw [List.length_map, nz_len]
  refine nz_at ?_
  rw [List.getLast?_eq_getElem?]
  have : L.length - 1 < L.length := by have := List.length_pos_iff.mpr h; omega
  rw [List.getElem?_eq_getElem this]
  rfl
theorem last_in {L : List Nat} (h : L ≠ []) : L.getLast?.getD 0 ∈ L := by
  rw [List.getLast?_eq_some_getLast h]
  exact List.getLast_mem h
/-- a drawn walk -/
def spStroll : Sp := fun vs H Q _ => ∃ (b s : Addr) (G : Grid) (mo c : Nat) (H0 : Hp), vs = [.ref b, .ref s, .int mo] ∧ GridN H0 H s G ∧ (∃ o, H0 b = some o) ∧ SiteOk G ∧ 1 ≤ mo ∧ mo ≤ 60 ∧ BagAt H b c ∧ c ≤ 100000 ∧
  ∀ r (L : List Nat) H', H r = none → Fx b H H' → BagAt H' b (c + 1 + mo) → H' r = some (.lst ((nz L).map V.int)) → L ≠ [] → linked G L = true → (∀ x ∈ L, x < G.length) → L.length ≤ mo → Q (.ref r) H'
def JSt (H : Hp) (b s : Addr) (G : Grid) (mo c : Nat) (i : Nat) (σ' : L2.St) (H' : Hp) : Prop := ∃ f l4 l5 L, σ' = [some (.ref b), some (.ref s), some (.int mo), some (.ref f), l4, l5] ∧ H f = none ∧ Fx b H H' ∧ BagAt H' b (c + 1 + i) ∧ H' f = some (.lst ((nz L).map V.int)) ∧ L ≠ [] ∧ linked G L = true ∧ (∀ x ∈ L, x < G.length) ∧ L.length ≤ i + 1
theorem ok_law_stroll (T : Txt K mg) : FnOk P w K mg base CX0 2 T.f_law_stroll T.fd_law_stroll ["_law_source_here", "_law_net_here", "_law_most"] spStroll := by
  refine T.F_law_stroll.ok sc_law_stroll (fun vs H Q E h => ?_) (fun cdv A outer s H vs Q E hr h => ?_)
  · obtain ⟨b, s, G, mo, c, H0, rfl, _⟩ := h
    rfl
  · obtain ⟨b, s, G, mo, c, H0, rfl, hS, ⟨ob, hob⟩, ok, m1, m2, hB, hc, k⟩ := h
    apply Exists.intro
    apply And.intro
    · apply pss_cons
      · exact (ps_set (i := 3) sc_law_stroll.nd rfl (.inl rfl) (pe_lst (pa_cons (pe_call (ok_law_draw T) (hr.mono (by decide)) (by rfl) T.m_law_draw T.F_law_draw.kp T.b_law_draw .nil pass0 (pa_cons (pv 0) (pa_cons (pe_callB (k_len (K := K) rfl) (by rfl) T.n_len PySem.boot_len (pa_cons (pv 1) pa_nil)) pa_nil))) pa_nil)))
      apply pss_cons
      · apply ps_for PassesOwn.never rfl
        · exact (pi_range1 (by rfl) T.n_range (pa_cons (pe_op op_sub (pv 2) pe_int) pa_nil))
        · exact (pg_name (i := 4) sc_law_stroll.nd rfl (.inl rfl))
        · apply pss_cons
          · exact (ps_set (i := 5) sc_law_stroll.nd rfl (.inl rfl) (pe_ix (k_ix_list (K := K) rfl) (pv 1) (pe_ix (k_ix_list (K := K) rfl) (pv 3) (pe_un un_neg pe_int) (fun _ _ => rfl)) (fun _ _ => rfl)))
          apply pss_one
          apply ps_if
          · exact (pt_cmpR (k_neD (K := K) rfl hr.units) (pv 5) (pe_lst pa_nil) (by rfl))
          · apply pss_one
            exact (ps_expr (k_bm (K := K) rfl (pe_bm PySem.F.plainAttrs_list PySem.F.slot_list_append PySem.F.type_list_append mt_append (pv 3) (pa_cons (pe_ix (k_ix_list (K := K) rfl) (pv 5) (pe_call (ok_law_draw T) (hr.mono (by decide)) (by rfl) T.m_law_draw T.F_law_draw.kp T.b_law_draw .nil pass0 (pa_cons (pv 0) (pa_cons (pe_callB (k_len (K := K) rfl) (by rfl) T.n_len PySem.boot_len (pa_cons (pv 5) pa_nil)) pa_nil))) (fun _ _ => rfl)) pa_nil))))
          · exact pss_nil
      apply pss_one
      exact (ps_ret (pe_slice (k_sl_list (K := K) rfl) (pv 3) po_none (po_some (pv 2))))
    have n1 := ok.n1
    have n2 := ok.n2
    refine seq_asg (fun v H' => ∃ f p, v = .ref f ∧ H f = none ∧ Fx b H H' ∧ BagAt H' b (c + 1) ∧ H' f = some (.lst ((nz [p]).map V.int)) ∧ p < G.length) (fun R hR => ?_) (fun v H1 hC => ?_)
    · walk_at "sx"
      obtain ⟨xs, hs, hl, _⟩ := hS.at.lst
      refine lenL (.inl (.inl hs)) ?_
      rw [hl]
      refine ⟨b, _, _, rfl, by omega, big_of (by omega), hB, by omega, fun r H1 r0 r1 f1 b1 => ?_⟩
      refine ⟨sz_ok (by omega), fun f nf => ?_⟩
      have nfb := b1.apart nf
      refine hR _ _ ⟨f, r.toNat, rfl, fx_none f1 nf nfb, f1.trans (Fx.of (Ex.new nf)), b1.ex (Ex.new nf), ?_, by omega⟩
      rw [upd_same]
      show _ = some (HO.lst [V.int ((r.toNat : Nat) : Int)])
      rw [Int.toNat_of_nonneg r0]
    obtain ⟨f, p, rfl, nf, f1, b1, hf, hp⟩ := hC
    walk_at "sx"
    refine ⟨by omega, by omega, ?_⟩
    rw [show ((mo : Int) - 1).toNat = mo - 1 by omega]
    refine lg_rng (JSt H b s G mo c) ⟨f, none, none, [p], rfl, nf, f1, b1, hf, by simp, rfl, fun x hx => by rw [List.mem_singleton.mp hx]; exact hp, by simp⟩ (fun i σ' H' hi hP => ?_) (fun σ' H' hP => ?_)
    · obtain ⟨f, l4, l5, L, rfl, nf, fx, hb, hf, ne, lk, lt, ll⟩ := hP
      have gn := hS.nw (Nw.fx hob fx)
      have pl := lt _ (last_in ne)
      obtain ⟨q, xs, g1, g2, g3, g4, g5⟩ := gn.get pl
      have nfb : f ≠ b := hB.apart nf
      walk_at "sx"
      refine ixL (.inl (.inl hf)) (atI_last (last_nz ne)) ?_
      refine ixL (.inl (.inl g1)) (atI_n rfl g3) ?_
      refine ⟨sz_ok (by omega), fun z nz1 => ?_⟩
      have ez := Ex.new nz1 (o := .lst [])
      refine neInts (ms := []) (.inl (.inl (ez _ _ g4))) (.inl (.inl upd_same)) ?_
      walk_at "sx"
      by_cases c0 : row G (L.getLast?.getD 0) = []
      · rw [decide_eq_true (show nz (row G (L.getLast?.getD 0)) = [] by rw [c0]; rfl)]
        walk_at "sx"
        exact ⟨f, _, _, L, rfl, nf, fx.trans (Fx.of ez), (hb.ex ez).mono (by omega), ez _ _ hf, ne, lk, lt, by omega⟩
      · rw [decide_eq_false (fun e => c0 (by unfold nz at e; exact List.map_eq_nil_iff.mp e))]
        walk_at "sx"
        have rp := List.length_pos_iff.mpr c0
        have rl := ok.rlen (L.getLast?.getD 0)
        refine ⟨tyL (ez _ _ hf), lenL (.inl (.inl (ez _ _ g4))) ?_⟩
        rw [List.length_map, nz_len]
        refine ⟨b, _, _, rfl, by omega, big_of (by omega), hb.ex ez, by omega, fun r H2 r0 r1 f2 b2 => ?_⟩
        have nqb : q ≠ b := fun e => by subst e; rw [hob] at g5; cases g5
        have hx : (row G (L.getLast?.getD 0))[r.toNat]? = some (row G (L.getLast?.getD 0))[r.toNat] := List.getElem?_eq_getElem (by omega)
        have xm := List.mem_of_getElem? hx
        generalize (row G (L.getLast?.getD 0))[r.toNat] = x at hx xm
        refine ixL (.inl (.inl (f2 _ _ nqb (ez _ _ g4)))) (atI_n (j := r.toNat) (by omega) (nz_at hx)) ?_
        have hf2 := f2 _ _ nfb (ez _ _ hf)
        refine appL hf2 (BC.sz_lt (by rw [List.length_map, nz_len]; omega)) ?_
        rw [nz_v]
        refine ⟨f, _, _, L ++ [x], rfl, nf, ((fx.trans (Fx.of ez)).trans f2).mut nf, (b2.off nfb).mono (by omega), upd_same, by simp, ?_, fun y hy => ?_, by rw [List.length_append, List.length_singleton]; omega⟩
        · rw [linked_snoc G x L ne, lk, decide_eq_true xm]
          rfl
        · rcases List.mem_append.mp hy with h | h
          · exact lt y h
          · rw [List.mem_singleton.mp h]
            exact ok.rlt xm
    · obtain ⟨f, l4, l5, L, rfl, nf, fx, hb, hf, ne, lk, lt, ll⟩ := hP
      walk_at "sx"
      refine slL (.inl (.inl hf)) fun r nr => ?_
      have nrb := hb.apart nr
      refine k r (L.take mo) _ (fx_none fx nr nrb) (fx.trans (Fx.of (Ex.new nr))) ((hb.ex (Ex.new nr)).mono (by omega)) ?_ ?_ (linked_take G L mo lk) (fun x hx => lt x (List.mem_of_mem_take hx)) (by rw [List.length_take]; omega)
      · rw [upd_same, cut_take, ← List.map_take]
        unfold nz
        rw [← List.map_take]
      · exact fun e => ne (by rw [List.take_of_length_le (by omega)] at e; exact e)
end
section
variable {P : Program} {w : World} {K : PySem.W.Frag} {mg : Str → Option Value} {base : Heap}
theorem seqIx {r : Int} {n : Nat} (h0 : 0 ≤ r) (h1 : r < n) : seqIndex? r n = some r.toNat := by
  unfold seqIndex?
  have e : (if r < 0 then r + (n : Int) else r) = r := if_neg (by omega)
  simp only [e]
  rw [if_pos (by simp; omega)]
theorem erase_perm : ∀ {B : List Nat} {k : Nat} {x : Nat}, B[k]? = some x → (x :: B.eraseIdx k).Perm B
  | [], _, _, h => by simp at h
  | y :: B, 0, x, h => by
    obtain rfl : y = x := by simpa using h
    exact List.Perm.refl _
  | y :: B, k + 1, x, h => by
    rw [List.getElem?_cons_succ] at h
    rw [List.eraseIdx_cons_succ]
    exact (List.Perm.swap y x _).trans ((erase_perm h).cons y)
theorem erase_map (B : List Nat) (k : Nat) : ((nz B).map V.int).eraseIdx k = (nz (B.eraseIdx k)).map V.int := by
  induction B generalizing k with
  | nil => rfl
  | cons x B ih =>
    cases k with
    | zero => rfl
    | succ k =>
      show V.int x :: ((nz B).map V.int).eraseIdx k = V.int x :: (nz (B.eraseIdx k)).map V.int
      rw [ih]
/-- drawn pages -/
def spSome : Sp := fun vs H Q _ => ∃ (b : Addr) (n : Nat) (mo : Int) (c : Nat), vs = [.ref b, .int n, .int mo] ∧ n ≤ 100 ∧ 0 ≤ mo ∧ mo ≤ 1000 ∧ BagAt H b c ∧ c ≤ 100000 ∧
  ∀ r (L : List Nat) H', H r = none → Fx b H H' → BagAt H' b (c + 1 + n) → H' r = some (.lst ((nz L).map V.int)) → L.Nodup → (∀ x ∈ L, x < n) → Q (.ref r) H'
def PvS (H : Hp) (b l D : Addr) (n c : Nat) (i : Nat) (H' : Hp) : Prop := ∃ A B : List Nat, H' l = some (.lst ((nz B).map V.int)) ∧ H' D = some (.lst ((nz A).map V.int)) ∧ (A ++ B).Nodup ∧ (∀ x ∈ A ++ B, x < n) ∧ A.length = i ∧ A.length + B.length = n ∧ Fx b H H' ∧ BagAt H' b (c + 1 + i)
theorem ok_law_some (T : Txt K mg) : FnOk P w K mg base CX0 2 T.f_law_some T.fd_law_some ["_law_source_here", "_law_many", "_law_most"] spSome := by
  refine T.F_law_some.ok sc_law_some (fun vs H Q E h => ?_) (fun cdv A outer s H vs Q E hr h => ?_)
  · obtain ⟨b, n, mo, c, rfl, _⟩ := h
    rfl
  · obtain ⟨b, n, mo, c, rfl, hn, m0, m1, hB, hc, k⟩ := h
    apply Exists.intro
    apply And.intro
    · apply pss_cons
      · exact (ps_set (i := 3) sc_law_some.nd rfl (.inr rfl) (pe_listRg rfl (by rfl) T.n_list (prg_1 (by rfl) T.n_range (pv 1))))
      apply pss_one
      exact (ps_ret (pe_lc (own := [("_law_step", 4)]) rfl sc_law_some.nd (pi_range1 (by rfl) T.n_range (pa_cons (pe_callB (call_min2 rfl) (by rfl) T.n_min (by decide +kernel) (pa_cons (pv 1) (pa_cons (pe_call (ok_law_draw T) (hr.mono (by decide)) (by rfl) T.m_law_draw T.F_law_draw.kp T.b_law_draw .nil pass0 (pa_cons (pv 0) (pa_cons (pe_op op_add (pv 2) pe_int) pa_nil))) pa_nil))) pa_nil)) (blkOk_by (own := [("_law_step", 4)]) (N := ["_law_source_here", "_law_many", "_law_most", "_law_left", "_law_step"]) (sc := defScope s_law_some) (by decide +kernel)) (fun _ _ _ _ _ => by exact (pg_name (i := 4) sc_law_some.nd rfl (.inl rfl))) (fun _ _ _ _ _ => by exact pts_nil) (fun _ _ _ _ _ => by exact (k_bm (K := K) rfl (pe_bm PySem.F.plainAttrs_list PySem.F.slot_list_pop PySem.F.type_list_pop mt_popAt (pv 3) (pa_cons (pe_call (ok_law_draw T) (hr.mono (by decide)) (by rfl) T.m_law_draw T.F_law_draw.kp T.b_law_draw .nil pass0 (pa_cons (pv 0) (pa_cons (pe_callB (k_len (K := K) rfl) (by rfl) T.n_len PySem.boot_len (pa_cons (pv 3) pa_nil)) pa_nil))) pa_nil))))))
    refine seq_asg (fun v H' => ∃ l, v = .ref l ∧ H l = none ∧ Ex H H' ∧ H' l = some (.lst ((nz (List.range n)).map V.int))) (fun R hR => ?_) (fun v H1 hC => ?_)
    · walk_at "sx"
      refine ⟨.of_le (by omega) (by omega) (by omega) (by omega), fun q nq => ?_⟩
      refine hR _ _ ⟨q, rfl, nq, Ex.new nq, ?_⟩
      rw [upd_same, rgV_ints, show ((n : Int) - 0).toNat = n by omega, show ((List.range n).map fun i => (0 : Int) + ((i : Nat) : Int)) = nz (List.range n) from List.map_congr_left fun i _ => by omega]
    obtain ⟨l, rfl, nl, e1, hl⟩ := hC
    have nlb := hB.apart nl
    walk_at "sx"
    refine ⟨b, _, _, rfl, by omega, big_of (by omega), hB.ex e1, by omega, fun n' H2 n0 n1 f2 b2 => ?_⟩
    walk_at "sx"
    refine ⟨_, _, ⟨rfl, rfl⟩, ?_⟩
    obtain ⟨tn, ht, htn⟩ : ∃ tn : Nat, (if n' < (n : Int) then n' else (n : Int)) = (tn : Int) ∧ tn ≤ n := by
      refine ⟨(if n' < (n : Int) then n' else (n : Int)).toNat, ?_, ?_⟩
      · rw [Int.toNat_of_nonneg]
        split <;> omega
      · split <;> omega
    rw [ht]
    refine ⟨by omega, by omega, fun D nD => ?_⟩
    rw [Int.toNat_natCast]
    have hl2 := f2 _ _ nlb hl
    have nDl : D ≠ l := Ne.symm (ne_of_none hl2 nD)
    have nDb := b2.apart nD
    refine lc_rngE (lo := 0) (n := tn) (PvS H b l D n c) ⟨[], List.range n, (Ex.new nD) _ _ hl2, upd_same, List.nodup_range, fun x hx => List.mem_range.mp hx, rfl, by simp, ((Fx.of e1).trans f2).trans (Fx.of (Ex.new nD)), b2.off nDb⟩ (fun i H3 hi hP => ?_) (fun H3 hP => ?_)
    · obtain ⟨A, B, hB1, hA1, nd, pg, hl, hs, fx, hb⟩ := hP
      refine ⟨rfl, ?_⟩
      simp only [wipe, List.set_cons_zero, List.set_cons_succ]
      walk_at "sx"
      refine ⟨tyL hB1, lenL (.inl (.inl hB1)) ?_⟩
      rw [List.length_map, nz_len]
      refine ⟨b, _, _, rfl, by omega, big_of (by omega), hb, by omega, fun r H4 r0 r1 f4 b4 => ?_⟩
      have hB4 := f4 _ _ nlb hB1
      have hA4 := f4 _ _ nDb hA1
      have hx : B[r.toNat]? = some B[r.toNat] := List.getElem?_eq_getElem (by omega)
      have pm : (A ++ [B[r.toNat]]) ++ B.eraseIdx r.toNat |>.Perm (A ++ B) := by
        rw [List.append_assoc]
        exact List.Perm.append_left A (erase_perm hx)
      have le := List.length_eraseIdx_of_lt (l := B) (i := r.toNat) (by omega)
      generalize B[r.toNat] = x at hx pm
      refine ⟨l, _, r, r.toNat, .int (x : Int), rfl, rfl, hB4, by omega, by omega, seqIx r0 (by rw [List.length_map, nz_len]; omega), nz_at hx, ?_⟩
      refine ⟨(nz A).map V.int, by rw [upd_ne nDl]; exact hA4, BC.sz_lt (by rw [List.length_map, nz_len]; omega), A ++ [x], B.eraseIdx r.toNat, ?_, ?_, pm.nodup_iff.mpr nd, fun y hy => pg y (pm.mem_iff.mp hy), by rw [List.length_append, List.length_singleton, hl], by rw [List.length_append, List.length_singleton, le]; omega, ?_, ?_⟩
      · rw [upd_ne (Ne.symm nDl), upd_same, erase_map]
      · rw [upd_same, nz_v]
      · exact ((fx.trans f4).mut nl).mut (fresh_back e1 (fx_none f2 nD nDb))
      · exact (b4.off nlb).off nDb
    · obtain ⟨A, B, hB1, hA1, nd, pg, hl, hs, fx, hb⟩ := hP
      rw [List.nodup_append] at nd
      exact k D A H3 (fresh_back e1 (fx_none f2 nD nDb)) fx (hb.mono (by omega)) hA1 nd.1 (fun x hx => pg x (List.mem_append_left _ hx))
end
section
variable {P : Program} {w : World} {K : PySem.W.Frag} {mg : Str → Option Value} {base : Heap}
def JLt (H : Hp) (a : Addr) (L : List Int) (i : Nat) (σ' : L2.St) (H' : Hp) : Prop := ∃ r l2, σ' = [some (.ref a), some (.ref r), l2] ∧ H r = none ∧ Ex H H' ∧ H' r = some (.lst (((L.take i).foldl vis []).map V.int))
def spLTr (K : PySem.W.Frag) : Sp := fun vs H Q _ => ∃ (a : Addr) (L : List Int), vs = [.ref a] ∧ SqL K H a (L.map V.int) ∧ L.length ≤ 300 ∧ Pg 40 L ∧ ∀ r H', H r = none → Ex H H' → H' r = some (.lst ((L.foldl vis []).map V.int)) → Q (.ref r) H'
theorem ok_law_trail (T : Txt K mg) : FnOk P w K mg base CX0 1 T.f_law_trail T.fd_law_trail ["_law_row"] (spLTr K) := by
  refine T.F_law_trail.ok sc_law_trail (fun vs H Q E h => ?_) (fun cdv A outer s H vs Q E hr h => ?_)
  · obtain ⟨a, L, rfl, _⟩ := h
    rfl
  · obtain ⟨a, L, rfl, hA, hl, hp, k⟩ := h
    apply Exists.intro
    apply And.intro
    · apply pss_cons
      · exact (ps_set (i := 1) sc_law_trail.nd rfl (.inl rfl) (pe_lst pa_nil))
      apply pss_cons
      · apply ps_for PassesOwn.never rfl
        · exact (k_pi_list (K := K) rfl (pv 0))
        · exact (pg_name (i := 2) sc_law_trail.nd rfl (.inl rfl))
        · apply pss_one
          exact (ps_set (i := 1) sc_law_trail.nd rfl (.inl rfl) (pe_ifExp (pt_cmpR (k_in (K := K) rfl) (pv 2) (pv 1) (by rfl)) (pe_slice (k_sl_list (K := K) rfl) (pv 1) po_none (po_some (pe_op op_add (k_bm (K := K) rfl (pe_bm PySem.F.plainAttrs_list PySem.F.slot_list_index PySem.F.type_list_index (k_index (K := K) rfl) (pv 1) (pa_cons (pv 2) pa_nil))) pe_int))) (pe_op op_cat (pv 1) (pe_lst (pa_cons (pv 2) pa_nil)))))
      apply pss_one
      exact (ps_ret (pv 1))
    walk_at "sx"
    refine ⟨sz_ok (by omega), fun r nr => ⟨⟨_, ex_l (Ex.new nr) hA⟩, ?_⟩⟩
    refine lg_list (xs := L.map V.int) (JLt H a L) ⟨r, none, rfl, nr, Ex.new nr, by rw [upd_same]; rfl⟩ (fun i σ' H' _ hP => by obtain ⟨_, _, _, _, e, _⟩ := hP; exact ex_l e hA)
      (fun i x σ' H' hx hP => ?_) (fun σ' H' hP => ?_)
    · obtain ⟨r, l2, rfl, nr, e, hr⟩ := hP
      obtain ⟨p, hpi, rfl⟩ := ints_at hx
      have hi := (List.getElem?_eq_some_iff.mp hpi).1
      obtain ⟨_, _, g3⟩ := folds_pg (L.take i) [] (fun x hx => by simp at hx) (fun x hx => hp x (List.mem_of_mem_take hx)) (List.nodup_nil)
      rw [List.length_nil, List.length_take] at g3
      unfold JLt
      rw [fold_vis hpi]
      generalize (L.take i).foldl vis [] = t at *
      walk_at "sx"
      refine inL (.inl (.inl hr)) ?_
      by_cases m : p ∈ t
      · have hix := List.idxOf_lt_length_of_mem m
        rw [decide_eq_true m]
        walk_at "sx"
        refine ⟨tyL hr, ?_⟩
        refine idxL (.inl (.inl hr)) m ?_
        walk_at "sx"
        refine slL (.inl (.inl hr)) fun q nq => ?_
        refine ⟨q, some (.int p), ⟨rfl, rfl⟩, fresh_back e nq, e.trans (Ex.new nq), ?_⟩
        rw [upd_same, cut_to (j := t.idxOf p + 1) _ (by omega) (by rw [List.length_map]; omega)]
        unfold vis
        rw [if_pos m, List.map_take]
      · rw [decide_eq_false m]
        walk_at "sx"
        refine ⟨sz_ok (by omega), fun z nz0 => ?_⟩
        have e1 := Ex.new nz0 (o := .lst [V.int p])
        refine catL (e1 _ _ hr) upd_same (sz_ok (by rw [List.length_map, List.length_singleton]; omega)) fun q nq => ?_
        refine ⟨q, some (.int p), ⟨rfl, rfl⟩, fresh_back (e.trans e1) nq, (e.trans e1).trans (Ex.new nq), ?_⟩
        rw [upd_same]
        unfold vis
        rw [if_neg m, List.map_append]
        rfl
    · obtain ⟨r, l2, rfl, nr, e, hr⟩ := hP
      rw [List.length_map, List.take_length] at hr
      walk_at "sx"
      exact k r _ nr e hr
/-- drawn visits -/
def spLVi : Sp := fun vs H Q _ => ∃ (b : Addr) (mo c : Nat), vs = [.ref b, .int mo] ∧ mo ≤ 300 ∧ BagAt H b c ∧ c ≤ 100000 ∧ ∀ r (L : List Int) H', H r = none → Fx b H H' → BagAt H' b (c + 620) → H' r = some (.lst (L.map V.int)) → L.length ≤ mo + 8 → Pg 40 L → Q (.ref r) H'
def JVi (H : Hp) (b : Addr) (mo wd c : Nat) (i : Nat) (σ' : L2.St) (H' : Hp) : Prop := ∃ f l4 l5 L, σ' = [some (.ref b), some (.int mo), some (.int wd), some (.ref f), l4, l5] ∧ H f = none ∧ f ≠ b ∧ Fx b H H' ∧ BagAt H' b (c + 10 + 2 * i) ∧ H' f = some (.lst ((L : List Int).map V.int)) ∧ L.length = i ∧ Pg 40 L
theorem ok_law_visits (T : Txt K mg) : FnOk P w K mg base CX0 2 T.f_law_visits T.fd_law_visits ["_law_source_here", "_law_most"] spLVi := by
  refine T.F_law_visits.ok sc_law_visits (fun vs H Q E h => ?_) (fun cdv A outer s H vs Q E hr h => ?_)
  · obtain ⟨b, mo, c, rfl, _⟩ := h
    rfl
  · obtain ⟨b, mo, c, rfl, hm, hB, hc, k⟩ := h
    apply Exists.intro
    apply And.intro
    · apply pss_cons
      · exact (ps_set (i := 2) sc_law_visits.nd rfl (.inl rfl) (pe_ix (k_ix_list (K := K) rfl) (pe_lst (pa_cons (pe_op op_add pe_int (pe_call (ok_law_draw T) (hr.mono (by decide)) (by rfl) T.m_law_draw T.F_law_draw.kp T.b_law_draw .nil pass0 (pa_cons (pv 0) (pa_cons pe_int pa_nil)))) (pa_cons (pe_op op_add pe_int (pe_call (ok_law_draw T) (hr.mono (by decide)) (by rfl) T.m_law_draw T.F_law_draw.kp T.b_law_draw .nil pass0 (pa_cons (pv 0) (pa_cons pe_int pa_nil)))) (pa_cons pe_int pa_nil)))) (pe_call (ok_law_draw T) (hr.mono (by decide)) (by rfl) T.m_law_draw T.F_law_draw.kp T.b_law_draw .nil pass0 (pa_cons (pv 0) (pa_cons pe_int pa_nil))) (fun _ _ => rfl)))
      apply pss_cons
      · exact (ps_set (i := 3) sc_law_visits.nd rfl (.inl rfl) (pe_lst pa_nil))
      apply pss_cons
      · apply ps_for PassesOwn.never rfl
        · exact (pi_range1 (by rfl) T.n_range (pa_cons (pe_ix (k_ix_list (K := K) rfl) (pe_lst (pa_cons (pe_call (ok_law_draw T) (hr.mono (by decide)) (by rfl) T.m_law_draw T.F_law_draw.kp T.b_law_draw .nil pass0 (pa_cons (pv 0) (pa_cons (pe_op op_add (pv 1) pe_int) pa_nil))) (pa_cons (pe_call (ok_law_draw T) (hr.mono (by decide)) (by rfl) T.m_law_draw T.F_law_draw.kp T.b_law_draw .nil pass0 (pa_cons (pv 0) (pa_cons pe_int pa_nil))) (pa_cons (pv 1) pa_nil)))) (pe_call (ok_law_draw T) (hr.mono (by decide)) (by rfl) T.m_law_draw T.F_law_draw.kp T.b_law_draw .nil pass0 (pa_cons (pv 0) (pa_cons pe_int pa_nil))) (fun _ _ => rfl)) pa_nil))
        · exact (pg_name (i := 4) sc_law_visits.nd rfl (.inl rfl))
        · apply pss_cons
          · exact (ps_set (i := 5) sc_law_visits.nd rfl (.inl rfl) (pe_call (ok_law_draw T) (hr.mono (by decide)) (by rfl) T.m_law_draw T.F_law_draw.kp T.b_law_draw .nil pass0 (pa_cons (pv 0) (pa_cons (pv 2) pa_nil))))
          apply pss_cons
          · apply ps_if
            · exact (PW.pt (pw_and (pt_cmpR op_gt (pv 4) pe_int (by rfl)) (pw_and1 (pt_cmpR op_eq (pe_call (ok_law_draw T) (hr.mono (by decide)) (by rfl) T.m_law_draw T.F_law_draw.kp T.b_law_draw .nil pass0 (pa_cons (pv 0) (pa_cons pe_int pa_nil))) pe_int (by rfl)))))
            · apply pss_one
              exact (ps_set (i := 5) sc_law_visits.nd rfl (.inl rfl) (pe_ix (k_ix_list (K := K) rfl) (pv 3) (pe_un un_neg pe_int) (fun _ _ => rfl)))
            · exact pss_nil
          apply pss_one
          exact (ps_expr (k_bm (K := K) rfl (pe_bm PySem.F.plainAttrs_list PySem.F.slot_list_append PySem.F.type_list_append mt_append (pv 3) (pa_cons (pv 5) pa_nil))))
      apply pss_one
      exact (ps_ret (pv 3))
    refine seq_asg (fun v H' => ∃ wd : Nat, v = .int wd ∧ 1 ≤ wd ∧ wd ≤ 40 ∧ Fx b H H' ∧ BagAt H' b (c + 3)) (fun R hR => ?_) (fun v H1 hC => ?_)
    · walk_at "sx"
      refine ⟨b, _, _, rfl, by omega, big_of (by omega), hB, by omega, fun r1 H1 r10 r11 f1 b1 => ?_⟩
      walk_at "sx"
      refine ⟨b, _, _, rfl, by omega, big_of (by omega), b1, by omega, fun r2 H2 r20 r21 f2 b2 => ?_⟩
      walk_at "sx"
      refine ⟨sz_ok (by omega), fun z nz => ?_⟩
      have ez := Ex.new nz (o := .lst [V.int (1 + r1), V.int (1 + r2), V.int 40])
      refine ⟨b, _, _, rfl, by omega, big_of (by omega), b2.ex ez, by omega, fun r3 H3 r30 r31 f3 b3 => ?_⟩
      obtain ⟨x, hx, em⟩ := pickI (ns := [1 + r1, 1 + r2, 40]) r30 r31
      simp only [List.mem_cons, List.mem_nil_iff, or_false] at hx
      refine ixL (.inl (.inl (f3 _ _ (b2.apart nz) upd_same))) em ?_
      exact hR _ _ ⟨x.toNat, by rw [Int.toNat_of_nonneg (by omega)], by omega, by omega, ((f1.trans f2).trans (Fx.of ez)).trans f3, b3⟩
    obtain ⟨wd, rfl, w1, w40, f1, b1⟩ := hC
    walk_at "sx"
    refine ⟨sz_ok (by omega), fun f nf => ?_⟩
    have ef := Ex.new nf (o := .lst [])
    have nfb := b1.apart nf
    refine ⟨b, _, _, rfl, by omega, big_of (by omega), b1.ex ef, by omega, fun r1 H2 r10 r11 f2 b2 => ?_⟩
    refine ⟨b, _, _, rfl, by omega, big_of (by omega), b2, by omega, fun r2 H3 r20 r21 f3 b3 => ?_⟩
    refine ⟨sz_ok (by omega), fun z nz => ?_⟩
    have ez := Ex.new nz (o := .lst [V.int r1, V.int r2, V.int mo])
    refine ⟨b, _, _, rfl, by omega, big_of (by omega), b3.ex ez, by omega, fun r3 H4 r30 r31 f4 b4 => ?_⟩
    obtain ⟨x, hx, em⟩ := pickI (ns := [r1, r2, (mo : Int)]) r30 r31
    simp only [List.mem_cons, List.mem_nil_iff, or_false] at hx
    refine ixL (.inl (.inl (f4 _ _ (b3.apart nz) upd_same))) em ?_
    have x300 : 0 ≤ x ∧ x ≤ 300 := by omega
    have xm : x ≤ mo + 8 := by omega
    walk_at "sx"
    refine ⟨by omega, by omega, ?_⟩
    have fA := ((f1.trans (Fx.of ef)).trans ((f2.trans f3).trans (Fx.of ez))).trans f4
    have hf : H4 f = some (.lst []) := f4 _ _ nfb (ez _ _ (f3 _ _ nfb (f2 _ _ nfb upd_same)))
    refine lg_rng (JVi H b mo wd c) ⟨f, none, none, [], rfl, fx_none f1 nf nfb, nfb, fA, b4.mono (by omega), hf, rfl, fun x hx => by simp at hx⟩ (fun i σ' H' hi hP => ?_) (fun σ' H' hP => ?_)
    · obtain ⟨f, l4, l5, L, rfl, nf, nfb, fx, bb, hf, hL, pL⟩ := hP
      have hi3 : i < 300 := by omega
      simp only [x_gn, List.set_cons_zero, List.set_cons_succ]
      refine seq_asg (fun v H' => ∃ p : Int, v = .int p ∧ 0 ≤ p ∧ p < 40 ∧ Fx b H H' ∧ BagAt H' b (c + 10 + 2 * i + 1) ∧ H' f = some (.lst (L.map V.int))) (fun R hR => ?_) (fun v H5 hC => ?_)
      · walk_at "sx"
        refine ⟨b, _, _, rfl, by omega, big_of (by omega), bb, by omega, fun p H5 p0 p1 f5 b5 => ?_⟩
        exact hR _ _ ⟨p, rfl, p0, by omega, fx.trans f5, b5, f5 _ _ nfb hf⟩
      obtain ⟨p, rfl, p0, p40, f5, b5, hf5⟩ := hC
      simp only [List.set_cons_zero, List.set_cons_succ]
      refine seq_cut (fun σ' H' => ∃ p : Int, σ' = [some (.ref b), some (.int mo), some (.int wd), some (.ref f), some (.int (0 + (i : Int))), some (.int p)] ∧ 0 ≤ p ∧ p < 40 ∧ Fx b H H' ∧ BagAt H' b (c + 10 + 2 * i + 2) ∧ H' f = some (.lst (L.map V.int))) (fun N hN => ?_) (fun σ6 H6 hC => ?_)
      · walk_at "sx"
        by_cases c0 : 0 < 0 + (i : Int)
        · rw [if_pos c0]
          refine ⟨b, _, _, rfl, by omega, big_of (by omega), b5, by omega, fun q H6 q0 q1 f6 b6 => ?_⟩
          have hf6 := f6 _ _ nfb hf5
          walk_at "sx"
          by_cases cq : q = 0
          · rw [if_pos cq]
            have hlast : L[L.length - 1]? = some (L[L.length - 1]'(by omega)) := List.getElem?_eq_getElem (by omega)
            generalize L[L.length - 1]'(by omega) = y at hlast
            have hy := pL y (List.mem_of_getElem? hlast)
            refine ixL (.inl (.inl hf6)) (atI_last (v := .int y) (by rw [List.length_map, List.getElem?_map, hlast]; rfl)) ?_
            exact hN _ _ ⟨y, rfl, hy.1, hy.2, f5.trans f6, b6.mono (by omega), hf6⟩
          · rw [if_neg cq]
            exact hN _ _ ⟨p, rfl, p0, p40, f5.trans f6, b6.mono (by omega), hf6⟩
        · rw [if_neg c0]
          exact hN _ _ ⟨p, rfl, p0, p40, f5, b5.mono (by omega), hf5⟩
      obtain ⟨q, rfl, q0, q40, f6, b6, hf6⟩ := hC
      walk_at "sx"
      refine ⟨tyL hf6, appL hf6 (BC.sz_lt (by rw [List.length_map]; omega)) ?_⟩
      exact ⟨f, _, _, L ++ [q], rfl, nf, nfb, f6.mut nf, (b6.off nfb).mono (by omega), by rw [upd_same, List.map_append]; rfl, by rw [List.length_append, hL]; rfl, fun y hy => by
        rcases List.mem_append.mp hy with z | z
        · exact pL y z
        · rw [List.mem_singleton.mp z]; exact ⟨q0, q40⟩⟩
    · obtain ⟨f, l4, l5, L, rfl, nf, nfb, fx, bb, hf, hL, pL⟩ := hP
      walk_at "sx"
      exact k f L _ nf fx (bb.mono (by omega)) hf (by omega) pL
end
end LW

set_option Elab.async false
set_option linter.all false
set_option maxRecDepth 100000
set_option maxHeartbeats 4000000
namespace LW
open PySem PySem.Spec PyProof.Rows L2 BC Evl TR EF L2.DX
local macro_rules | `(tactic| walk_at "sx") => `(tactic| try simp only [x_seq, x_next, x_brk, x_cnt, x_nev, x_ret, x_retN, x_drop, x_ifS, x_asg, x_gn, x_gsub, x_par, x_par3, x_aug, x_for, x_lc, x_rng1, x_rng2, x_rng3, x_ilist, x_itup, x_ienum, x_izip, x_izipA, x_istr, x_var, x_c, x_op, x_un, x_test, x_b, x_chain, x_and, x_or, x_not, x_andV, x_orV, x_notV, x_ife, x_nil, x_cons, x_lst, x_tup, x_cb, x_call, x_callK, x_bm, x_bm0, x_tru, x_sl, x_nopart, x_part, x_revL, x_I0, x_I, x_U, x_ip, x_ipC, x_eqI, x_neI, x_eqB, x_neB, x_eqS, x_neS, x_isB, x_isNB, x_lrg, x_gall, x_lenSet, x_augS, x_sortSet, x_mulS, x_fmtS, x_gstar, x_inS, x_addS, x_js0, x_js, x_jn, x_fmt, x_rg1, x_rg2, x_dnewK, x_dnewT, x_dget, x_dget1, x_dget2, x_din, x_dnotin, x_dput, x_ikeys, x_ghead, x_fld, x_sfld, x_prop, x_meth, x_make, x_dc,
  L2.start, List.map_cons, List.map_nil, List.length_cons, List.length_nil, Nat.reduceAdd, Nat.reduceSub, Nat.sub_self, Nat.zero_add, List.replicate, List.replicate_succ, List.replicate_zero, List.append_nil, List.cons_append, List.nil_append, List.set_cons_zero, List.set_cons_succ, List.getElem?_cons_zero, List.getElem?_cons_succ, Option.some.injEq, V.int.injEq, V.bl.injEq, V.ref.injEq, V.str.injEq, List.cons.injEq, and_true, true_and, exists_eq_left', exists_eq_left, exists_and_left, exists_eq, if_true, if_false, ite_true, ite_false, Bool.true_eq_false, Bool.false_eq_true, reduceIte, reduceCtorEq, Bool.not_true, Bool.not_false, decide_true, decide_false, decide_eq_true_eq, Bool.and_true, Bool.true_and, Bool.and_self, Bool.and_false, Bool.false_and, Bool.or_self, Bool.or_false, Bool.false_or, Bool.or_true, Bool.true_or, eq_self])
section
variable {P : Program} {w : World} {K : PySem.W.Frag} {mg : Str → Option Value} {base : Heap}
/-- the trail of a walk -/
def trN (L : List Nat) : List Nat := ((nz L).foldl vis []).map Int.toNat
theorem vis_mem {t : List Int} {p x : Int} (h : x ∈ vis t p) : x ∈ t ∨ x = p := by
  unfold vis at h
  split at h
  · exact .inl (List.mem_of_mem_take h)
  · rcases List.mem_append.mp h with q | q
    · exact .inl q
    · exact .inr (List.mem_singleton.mp q)
theorem folds_mem : ∀ {L t : List Int} {x : Int}, x ∈ L.foldl vis t → x ∈ t ∨ x ∈ L
  | [], t, x, h => .inl h
  | p :: L, t, x, h => by
    rcases folds_mem (L := L) (t := vis t p) h with h | h
    · rcases vis_mem h with h | h
      · exact .inl h
      · exact .inr (by rw [h]; exact List.mem_cons_self)
    · exact .inr (List.mem_cons_of_mem _ h)
theorem vis_ne (t : List Int) (p : Int) : vis t p ≠ [] := by
  unfold vis
  split
  · next m =>
    intro e
    have := congrArg List.length e
    rw [List.length_take, List.length_nil] at this
    have := List.idxOf_lt_length_of_mem m
    omega
  · simp
theorem folds_ne : ∀ {L t : List Int}, (L ≠ [] ∨ t ≠ []) → L.foldl vis t ≠ []
  | [], t, h => h.elim (fun h => absurd rfl h) id
  | p :: L, t, _ => folds_ne (L := L) (t := vis t p) (.inr (vis_ne t p))
theorem trN_nz (L : List Nat) : nz (trN L) = (nz L).foldl vis [] := by
  unfold trN
  have h : ∀ M : List Int, (∀ x ∈ M, 0 ≤ x) → nz (M.map Int.toNat) = M := fun M hM => by
    unfold nz
    rw [List.map_map]
    conv => rhs; rw [← List.map_id M]
    refine List.map_congr_left fun x hx => ?_
    exact Int.toNat_of_nonneg (hM x hx)
  refine h _ fun x hx => ?_
  rcases folds_mem hx with q | q
  · simp at q
  · obtain ⟨y, _, rfl⟩ := List.mem_map.mp q
    omega
theorem trN_mem {L : List Nat} {x : Nat} (h : x ∈ trN L) : x ∈ L := by
  obtain ⟨y, hy, rfl⟩ := List.mem_map.mp h
  rcases folds_mem hy with q | q
  · simp at q
  · obtain ⟨z, hz, rfl⟩ := List.mem_map.mp q
    exact hz
theorem trN_ne {L : List Nat} (h : L ≠ []) : trN L ≠ [] := fun e => by
  have := folds_ne (L := nz L) (t := []) (.inl (fun e => h (List.map_eq_nil_iff.mp e)))
  exact this (List.map_eq_nil_iff.mp e)
theorem nz_pg {L : List Nat} (h : ∀ x ∈ L, x < 40) : Pg 40 (nz L) := fun x hx => by
  obtain ⟨y, hy, rfl⟩ := List.mem_map.mp hx
  have := h y hy
  omega
theorem trN_nd {L : List Nat} (h : ∀ x ∈ L, x < 40) : (trN L).Nodup := by
  have := (folds_pg (nz L) [] (pg_nil _) (nz_pg h) List.nodup_nil).2.1
  rw [← trN_nz] at this
  exact nz_inj2 this
def dInts (ns : List Int) : PyData := .list (ns.map PyData.int)
/-- what both sides of the law list -/
def d14 (G : Grid) (L M : List Nat) (T : List Int) : PyData :=
  .list [.bool true, .bool (linked G L), .bool (linked G (trN L)), dInts (nz (into G (L.getD 0 0))), dInts (nz (reach G (L.getLast?.getD 0))), .bool (decide (rev G = G)), dG (rev G), dG (wo G M), .str (siteS G), dG G,
    .str (Txt.join ((" > " : String) : Str) (toStrs (T.foldl vis []))), .list ((lns T T.length).map PyData.str), dInts (T.foldl vis []), .str (effS T), dPairs (exs T)]
mutual
theorem de_of {H : Hp} : ∀ (d : PyData) (v : V), Dp K H v d → De K H v d
  | .none, _, h => by cases h; exact .non
  | .bool _, _, h => by cases h; exact .bl _
  | .int _, _, h => by cases h; exact .int _
  | .str _, _, h => by cases h; exact .str _
  | .dict _, _, h => by cases h
  | .list ds, _, h => by
    cases h with
    | lst h1 h2 => exact .lst h1 (de_all ds _ h2)
  | .tuple ds, _, h => by
    cases h with
    | tup h1 h2 => exact .tup h1 (de_all ds _ h2)
theorem de_all {H : Hp} : ∀ (ds : List PyData) (vs : List V), DpAll K H vs ds → DeAll K H vs ds
  | [], _, h => by cases h; exact .nil
  | d :: ds, _, h => by
    cases h with
    | cons h1 h2 => exact .cons (de_of d _ h1) (de_all ds _ h2)
end
theorem de_strs {H : Hp} : ∀ ws : List Str, DeAll K H (ws.map V.str) (ws.map PyData.str)
  | [] => .nil
  | x :: ws => .cons (.str x) (de_strs ws)
theorem de_il {H : Hp} {r : Addr} {ns : List Int} (h : H r = some (.lst (ns.map V.int))) : De K H (.ref r) (dInts ns) := .lst (.inl (.inl h)) (de_ints ns)
theorem de_grid {H : Hp} {s : Addr} {G : Grid} (h : GridAt H s G) : De K H (.ref s) (dG G) := de_of _ _ h.dp
def spBy (K : PySem.W.Frag) : Sp := fun vs H Q _ => ∃ (s a g t : Addr) (G : Grid) (L M : List Nat) (T : List Int), vs = [.ref s, .ref a, .ref g, .ref t] ∧ GridAt H s G ∧ SiteOk G ∧ SqL K H a ((nz L).map V.int) ∧ L ≠ [] ∧ (∀ x ∈ L, x < G.length) ∧ L.length ≤ 60 ∧
  SqL K H g ((nz M).map V.int) ∧ M.Nodup ∧ (∀ x ∈ M, x < G.length) ∧ SqL K H t (T.map V.int) ∧ T.length ≤ 20 ∧ Pg 40 T ∧ ∀ r H', Ex H H' → De K H' (.ref r) (d14 G L M T) → Q (.ref r) H'
theorem ok_law_by_position (T : Txt K mg) : FnOk P w K mg base CX0 9 T.f_law_by_position T.fd_law_by_position ["_law_net_here", "_law_row", "_law_gone", "_law_turns"] (spBy K) := by
  refine T.F_law_by_position.ok sc_law_by_position (fun vs H Q E h => ?_) (fun cdv A outer s H vs Q E hr h => ?_)
  · obtain ⟨s, a, g, t, G, L, M, us, rfl, _⟩ := h
    rfl
  · obtain ⟨s, a, g, t, G, L, M, us, rfl, hS, ok, hA, ne, lt, ll, hM, nd, ltM, hT, tl, pg, k⟩ := h
    apply Exists.intro
    apply And.intro
    · apply pss_cons
      · exact (ps_set (i := 4) sc_law_by_position.nd rfl (.inl rfl) (pe_lst (pa_cons (pe_call (ok_is_site T) (hr.mono (by decide)) (by rfl) T.m_is_site T.F_is_site.kp T.b_is_site .nil pass0 (pa_cons (pv 0) pa_nil)) (pa_cons (pe_call (ok_is_walk T) (hr.mono (by decide)) (by rfl) T.m_is_walk T.F_is_walk.kp T.b_is_walk .nil pass0 (pa_cons (pv 0) (pa_cons (pv 1) pa_nil))) (pa_cons (pe_call (ok_is_trail_of T) (hr.mono (by decide)) (by rfl) T.m_is_trail_of T.F_is_trail_of.kp T.b_is_trail_of .nil pass0 (pa_cons (pv 0) (pa_cons (pe_call (ok_law_trail T) (hr.mono (by decide)) (by rfl) T.m_law_trail T.F_law_trail.kp T.b_law_trail .nil pass0 (pa_cons (pv 1) pa_nil)) pa_nil))) pa_nil)))))
      apply pss_cons
      · exact (ps_set (i := 4) sc_law_by_position.nd rfl (.inl rfl) (pe_op op_cat (pv 4) (pe_lst (pa_cons (pe_call (ok_links_into T) (hr.mono (by decide)) (by rfl) T.m_links_into T.F_links_into.kp T.b_links_into .nil pass0 (pa_cons (pv 0) (pa_cons (pe_ix (k_ix_list (K := K) rfl) (pv 1) pe_int (fun _ _ => rfl)) pa_nil))) (pa_cons (pe_call (ok_reached_from T) (hr.mono (by decide)) (by rfl) T.m_reached_from T.F_reached_from.kp T.b_reached_from .nil pass0 (pa_cons (pv 0) (pa_cons (pe_ix (k_ix_list (K := K) rfl) (pv 1) (pe_un un_neg pe_int) (fun _ _ => rfl)) pa_nil))) (pa_cons (pe_call (ok_is_two_way T) (hr.mono (by decide)) (by rfl) T.m_is_two_way T.F_is_two_way.kp T.b_is_two_way .nil pass0 (pa_cons (pv 0) pa_nil)) pa_nil))))))
      apply pss_cons
      · exact (ps_set (i := 4) sc_law_by_position.nd rfl (.inl rfl) (pe_op op_cat (pv 4) (pe_lst (pa_cons (pe_call (ok_reversed_site T) (hr.mono (by decide)) (by rfl) T.m_reversed_site T.F_reversed_site.kp T.b_reversed_site .nil pass0 (pa_cons (pv 0) pa_nil)) (pa_cons (pe_call (ok_site_without T) (hr.mono (by decide)) (by rfl) T.m_site_without T.F_site_without.kp T.b_site_without .nil pass0 (pa_cons (pv 0) (pa_cons (pv 2) pa_nil))) (pa_cons (pe_call (ok_format_site T) (hr.mono (by decide)) (by rfl) T.m_format_site T.F_format_site.kp T.b_format_site .nil pass0 (pa_cons (pv 0) pa_nil)) pa_nil))))))
      apply pss_cons
      · exact (ps_set (i := 4) sc_law_by_position.nd rfl (.inl rfl) (pe_op op_cat (pv 4) (pe_lst (pa_cons (pe_call (ok_parse_site T) (hr.mono (by decide)) (by rfl) T.m_parse_site T.F_parse_site.kp T.b_parse_site .nil pass0 (pa_cons (pe_call (ok_format_site T) (hr.mono (by decide)) (by rfl) T.m_format_site T.F_format_site.kp T.b_format_site .nil pass0 (pa_cons (pv 0) pa_nil)) pa_nil)) (pa_cons (pe_call (ok_format_trail T) (hr.mono (by decide)) (by rfl) T.m_format_trail T.F_format_trail.kp T.b_format_trail .nil pass0 (pa_cons (pe_call (ok_law_trail T) (hr.mono (by decide)) (by rfl) T.m_law_trail T.F_law_trail.kp T.b_law_trail .nil pass0 (pa_cons (pv 3) pa_nil)) pa_nil)) (pa_cons (pe_call (ok_listed T) (hr.mono (by decide)) (by rfl) T.m_listed T.F_listed.kp T.b_listed .nil pass0 (pa_cons (pv 3) pa_nil)) pa_nil))))))
      apply pss_cons
      · exact (ps_set (i := 5) sc_law_by_position.nd rfl (.inl rfl) (pe_call (ok_format_effect T) (hr.mono (by decide)) (by rfl) T.m_format_effect T.F_format_effect.kp T.b_format_effect .nil pass0 (pa_cons (pe_call (ok_effect_of T) (hr.mono (by decide)) (by rfl) T.m_effect_of T.F_effect_of.kp T.b_effect_of .nil pass0 (pa_cons (pv 3) pa_nil)) pa_nil)))
      apply pss_one
      exact (ps_ret (pe_op op_cat (pv 4) (pe_lst (pa_cons (pe_call (ok_parse_trail T) (hr.mono (by decide)) (by rfl) T.m_parse_trail T.F_parse_trail.kp T.b_parse_trail .nil pass0 (pa_cons (pe_call (ok_format_trail T) (hr.mono (by decide)) (by rfl) T.m_format_trail T.F_format_trail.kp T.b_format_trail .nil pass0 (pa_cons (pe_call (ok_law_trail T) (hr.mono (by decide)) (by rfl) T.m_law_trail T.F_law_trail.kp T.b_law_trail .nil pass0 (pa_cons (pv 3) pa_nil)) pa_nil)) pa_nil)) (pa_cons (pv 5) (pa_cons (pe_prop (pe_call (ok_parse_effect T) (hr.mono (by decide)) (by rfl) T.m_parse_effect T.F_parse_effect.kp T.b_parse_effect .nil pass0 (pa_cons (pv 5) pa_nil)) T.cl_Effect T.p_Effect_exits (ok_Effect_exits T) (hr.mono (by decide)) T.b_Effect_exits .nil pass0 rfl) pa_nil))))))
    walk_at "sx"
    have l12 : ∀ x ∈ L, x < 12 := fun x hx => by have := lt x hx; have := ok.n2; omega
    have l40 : ∀ x ∈ L, x < 40 := fun x hx => by have := l12 x hx; omega
    have tfp := folds_pg us [] (pg_nil _) pg List.nodup_nil
    have lfp := folds_pg (nz L) [] (pg_nil _) (nz_pg l40) List.nodup_nil
    have trl : (trN L).length ≤ 1000 := by
      have := lfp.2.2
      rw [← trN_nz, nz_len, nz_len, List.length_nil] at this
      omega
    refine ⟨s, G, rfl, hS, ok, fun H1 e1 => ?_⟩
    refine ⟨s, a, G, L, rfl, hS.ex e1, ok, ex_l e1 hA, ne, lt, by omega, fun H2 e2 => ?_⟩
    have E2 := e1.trans e2
    refine ⟨a, nz L, rfl, ex_l E2 hA, by rw [nz_len]; omega, nz_pg l40, fun tr H3 n3 e3 h3 => ?_⟩
    have E3 := E2.trans e3
    refine ⟨s, tr, G, trN L, rfl, hS.ex E3, ok, .inl (.inl (by rw [trN_nz]; exact h3)), trN_ne ne, trN_nd l40, fun x hx => lt x (trN_mem hx), trl, fun H4 e4 => ?_⟩
    refine ⟨sz_ok (by omega), fun p np => ?_⟩
    have ep := Ex.new np (o := .lst [V.bl true, V.bl (linked G L), V.bl (linked G (trN L))])
    have hp : (upd H4 p (.lst [V.bl true, V.bl (linked G L), V.bl (linked G (trN L))])) p = some (.lst [V.bl true, V.bl (linked G L), V.bl (linked G (trN L))]) := upd_same
    have E5 := (E3.trans e4).trans ep
    generalize upd H4 p (.lst [V.bl true, V.bl (linked G L), V.bl (linked G (trN L))]) = H5 at ep hp E5 ⊢
    have first : ((nz L).map V.int)[0]? = some (.int ((L.getD 0 0 : Nat) : Int)) := by
      cases L with
      | nil => exact absurd rfl ne
      | cons x L => rfl
    have fin : L.getD 0 0 ∈ L := by
      cases L with
      | nil => exact absurd rfl ne
      | cons x L => exact List.mem_cons_self
    refine ixL (ex_l E5 hA) (atI_n (j := 0) rfl first) ?_
    refine ⟨s, G, _, rfl, hS.ex E5, ok, lt _ fin, fun r5 H6 n6 e6 h6 => ?_⟩
    have E6 := E5.trans e6
    refine ixL (ex_l E6 hA) (atI_last (last_nz ne)) ?_
    refine ⟨s, G, _, rfl, hS.ex E6, ok, lt _ (last_in ne), fun r6 H7 n7 e7 h7 => ?_⟩
    have E7 := E6.trans e7
    refine ⟨s, G, rfl, hS.ex E7, ok, fun H8 e8 => ⟨sz_ok (by omega), fun q nq => ?_⟩⟩
    have eq := Ex.new nq (o := .lst [V.ref r5, V.ref r6, V.bl (decide (rev G = G))])
    have hq : (upd H8 q (.lst [V.ref r5, V.ref r6, V.bl (decide (rev G = G))])) q = some (.lst [V.ref r5, V.ref r6, V.bl (decide (rev G = G))]) := upd_same
    have F5 := ((e6.trans e7).trans e8).trans eq
    have F6 := (e7.trans e8).trans eq
    have F7 := e8.trans eq
    have E9 := E5.trans F5
    generalize upd H8 q (.lst [V.ref r5, V.ref r6, V.bl (decide (rev G = G))]) = H9 at eq hq F5 F6 F7 E9 ⊢
    refine catL (F5 _ _ hp) hq (sz_ok (by show 3 + 3 ≤ _; omega)) fun c1 nc1 => ?_
    have ec1 := Ex.new nc1 (o := .lst ([V.bl true, V.bl (linked G L), V.bl (linked G (trN L))] ++ [V.ref r5, V.ref r6, V.bl (decide (rev G = G))]))
    have hc1 : (upd H9 c1 (.lst ([V.bl true, V.bl (linked G L), V.bl (linked G (trN L))] ++ [V.ref r5, V.ref r6, V.bl (decide (rev G = G))]))) c1 = some (.lst [V.bl true, V.bl (linked G L), V.bl (linked G (trN L)), V.ref r5, V.ref r6, V.bl (decide (rev G = G))]) := upd_same
    have EA := E9.trans ec1
    have d5 := de_il (K := K) (ec1 _ _ (F6 _ _ h6))
    have d6 := de_il (K := K) (ec1 _ _ (F7 _ _ h7))
    generalize upd H9 c1 (.lst ([V.bl true, V.bl (linked G L), V.bl (linked G (trN L))] ++ [V.ref r5, V.ref r6, V.bl (decide (rev G = G))])) = HA at ec1 hc1 EA d5 d6 ⊢
    clear hp hq F5 F6 F7 h6 h7 h3
    refine ⟨s, G, rfl, hS.ex EA, ok, fun r7 HB eB gB => ?_⟩
    have EB := EA.trans eB
    refine ⟨s, g, G, M, rfl, hS.ex EB, ok, ex_l EB hM, nd, ltM, fun r8 HC eC gC => ?_⟩
    have EC := EB.trans eC
    refine ⟨s, G, rfl, hS.ex EC, ok, fun HD eD => ⟨sz_ok (by omega), fun q2 nq2 => ?_⟩⟩
    have eq2 := Ex.new nq2 (o := .lst [V.ref r7, V.ref r8, V.str (siteS G)])
    have hq2 : (upd HD q2 (.lst [V.ref r7, V.ref r8, V.str (siteS G)])) q2 = some (.lst [V.ref r7, V.ref r8, V.str (siteS G)]) := upd_same
    have FC := eD.trans eq2
    have FB := eC.trans FC
    have FA := eB.trans FB
    generalize upd HD q2 (.lst [V.ref r7, V.ref r8, V.str (siteS G)]) = HE at eq2 hq2 FC FB FA ⊢
    refine catL (FA _ _ hc1) hq2 (sz_ok (by show 6 + 3 ≤ _; omega)) fun c2 nc2 => ?_
    have ec2 := Ex.new nc2 (o := .lst ([V.bl true, V.bl (linked G L), V.bl (linked G (trN L)), V.ref r5, V.ref r6, V.bl (decide (rev G = G))] ++ [V.ref r7, V.ref r8, V.str (siteS G)]))
    have hc2 : (upd HE c2 (.lst ([V.bl true, V.bl (linked G L), V.bl (linked G (trN L)), V.ref r5, V.ref r6, V.bl (decide (rev G = G))] ++ [V.ref r7, V.ref r8, V.str (siteS G)]))) c2 = some (.lst [V.bl true, V.bl (linked G L), V.bl (linked G (trN L)), V.ref r5, V.ref r6, V.bl (decide (rev G = G)), V.ref r7, V.ref r8, V.str (siteS G)]) := upd_same
    have FA2 := FA.trans ec2
    have EF := EA.trans FA2
    have d7 := De.ex FA2 _ _ d5
    have d8 := De.ex FA2 _ _ d6
    have d9 := de_grid (K := K) (gB.at.ex (FB.trans ec2))
    have d10 := de_grid (K := K) (gC.at.ex (FC.trans ec2))
    generalize upd HE c2 (.lst ([V.bl true, V.bl (linked G L), V.bl (linked G (trN L)), V.ref r5, V.ref r6, V.bl (decide (rev G = G))] ++ [V.ref r7, V.ref r8, V.str (siteS G)])) = HF at ec2 hc2 FA2 EF d7 d8 d9 d10 ⊢
    clear hc1 hq2 FA FB FC d5 d6 gB gC
    refine ⟨s, G, rfl, hS.ex EF, ok, fun HG eG => ?_⟩
    refine ⟨G, rfl, ok, fun r9 HI eI gI => ?_⟩
    have EI := (EF.trans eG).trans eI
    refine ⟨t, us, rfl, ex_l EI hT, by omega, pg, fun tr2 HJ nJ eJ hJ => ?_⟩
    refine ⟨tr2, us.foldl vis [], rfl, .inl (.inl hJ), tfp.2.1, tfp.1, by have := tfp.2.2; rw [List.length_nil] at this; omega, fun HK eK => ?_⟩
    have EK := (EI.trans eJ).trans eK
    refine ⟨t, us, rfl, ex_l EK hT, by omega, pg, fun r10 HL nL eL hL => ⟨sz_ok (by omega), fun q3 nq3 => ?_⟩⟩
    have tl300 : (us.foldl vis []).length ≤ 300 := by have := tfp.2.2; rw [List.length_nil] at this; omega
    have eq3 := Ex.new nq3 (o := .lst [V.ref r9, V.str (Txt.join (Str.ofString " > ") (toStrs (us.foldl vis []))), V.ref r10])
    have hq3 : (upd HL q3 (.lst [V.ref r9, V.str (Txt.join (Str.ofString " > ") (toStrs (us.foldl vis []))), V.ref r10])) q3 = some (.lst [V.ref r9, V.str (Txt.join (Str.ofString " > ") (toStrs (us.foldl vis []))), V.ref r10]) := upd_same
    have FI := ((eJ.trans eK).trans eL).trans eq3
    have FL := eq3
    have FF := (eG.trans eI).trans FI
    generalize upd HL q3 (.lst [V.ref r9, V.str (Txt.join (Str.ofString " > ") (toStrs (us.foldl vis []))), V.ref r10]) = HM at eq3 hq3 FI FL FF ⊢
    refine catL (FF _ _ hc2) hq3 (sz_ok (by show 9 + 3 ≤ _; omega)) fun c3 nc3 => ?_
    have ec3 := Ex.new nc3 (o := .lst ([V.bl true, V.bl (linked G L), V.bl (linked G (trN L)), V.ref r5, V.ref r6, V.bl (decide (rev G = G)), V.ref r7, V.ref r8, V.str (siteS G)] ++ [V.ref r9, V.str (Txt.join (Str.ofString " > ") (toStrs (us.foldl vis []))), V.ref r10]))
    have hc3 : (upd HM c3 (.lst ([V.bl true, V.bl (linked G L), V.bl (linked G (trN L)), V.ref r5, V.ref r6, V.bl (decide (rev G = G)), V.ref r7, V.ref r8, V.str (siteS G)] ++ [V.ref r9, V.str (Txt.join (Str.ofString " > ") (toStrs (us.foldl vis []))), V.ref r10]))) c3 = some (.lst [V.bl true, V.bl (linked G L), V.bl (linked G (trN L)), V.ref r5, V.ref r6, V.bl (decide (rev G = G)), V.ref r7, V.ref r8, V.str (siteS G), V.ref r9, V.str (Txt.join (Str.ofString " > ") (toStrs (us.foldl vis []))), V.ref r10]) := upd_same
    have FF2 := FF.trans ec3
    have EM := EF.trans FF2
    have d7 := De.ex FF2 _ _ d7
    have d8 := De.ex FF2 _ _ d8
    have d9 := De.ex FF2 _ _ d9
    have d10 := De.ex FF2 _ _ d10
    have d11 := de_grid (K := K) (gI.at.ex (FI.trans ec3))
    have hL3 := ec3 _ _ (FL _ _ hL)
    generalize upd HM c3 (.lst ([V.bl true, V.bl (linked G L), V.bl (linked G (trN L)), V.ref r5, V.ref r6, V.bl (decide (rev G = G)), V.ref r7, V.ref r8, V.str (siteS G)] ++ [V.ref r9, V.str (Txt.join (Str.ofString " > ") (toStrs (us.foldl vis []))), V.ref r10])) = HN at ec3 hc3 FF2 EM d7 d8 d9 d10 d11 hL3 ⊢
    clear hc2 hq3 FI FL FF gI hJ hL
    refine ⟨t, us, rfl, ex_l EM hT, by omega, pg, fun x HO' nx eO hx => ?_⟩
    refine ⟨x, us, rfl, hx, pg, fun HP eP => ?_⟩
    have EP := (EM.trans eO).trans eP
    refine ⟨t, us, rfl, ex_l EP hT, by omega, pg, fun tr3 HQ nQ eQ hQ => ?_⟩
    refine ⟨tr3, us.foldl vis [], rfl, .inl (.inl hQ), tfp.2.1, tfp.1, tl300, fun HR eR => ?_⟩
    refine ⟨us.foldl vis [], rfl, tfp.2.1, tfp.1, tl300, fun r11 HS nS eS hS' => ?_⟩
    refine ⟨us, rfl, pg, fun y HT nT eT hy => ?_⟩
    obtain ⟨dx, ty, dy, tsy, g1, g2, g3, g4, g5⟩ := id hy
    refine ⟨y, rfl, _, _, g1, y, _, _, rfl, hy, fun r12 ts HU nU eU hU lts hts => ⟨sz_ok (by omega), fun q4 nq4 => ?_⟩⟩
    have eq4 := Ex.new nq4 (o := .lst [V.ref r11, V.str (effS us), V.ref r12])
    have hq4 : (upd HU q4 (.lst [V.ref r11, V.str (effS us), V.ref r12])) q4 = some (.lst [V.ref r11, V.str (effS us), V.ref r12]) := upd_same
    have FS := (eT.trans eU).trans eq4
    have FU := eq4
    have FN := ((((eO.trans eP).trans eQ).trans eR).trans eS).trans FS
    generalize upd HU q4 (.lst [V.ref r11, V.str (effS us), V.ref r12]) = HV at eq4 hq4 FS FU FN ⊢
    refine catL (FN _ _ hc3) hq4 (sz_ok (by show 12 + 3 ≤ _; omega)) fun c4 nc4 => ?_
    have ec4 := Ex.new nc4 (o := .lst ([V.bl true, V.bl (linked G L), V.bl (linked G (trN L)), V.ref r5, V.ref r6, V.bl (decide (rev G = G)), V.ref r7, V.ref r8, V.str (siteS G), V.ref r9, V.str (Txt.join (Str.ofString " > ") (toStrs (us.foldl vis []))), V.ref r10] ++ [V.ref r11, V.str (effS us), V.ref r12]))
    refine k c4 _ (EM.trans (FN.trans ec4)) ?_
    have FZ := FN.trans ec4
    refine .lst (.inl (.inl upd_same)) ?_
    refine .cons (.bl _) (.cons (.bl _) (.cons (.bl _) (.cons (De.ex FZ _ _ d7) (.cons (De.ex FZ _ _ d8) (.cons (.bl _) (.cons (De.ex FZ _ _ d9) (.cons (De.ex FZ _ _ d10) (.cons (.str _) (.cons (De.ex FZ _ _ d11) (.cons (.str _) (.cons ?_ (.cons ?_ (.cons (.str _) (.cons ?_ .nil))))))))))))))
    · exact .lst (.inl (.inl (FZ _ _ hL3))) (de_strs _)
    · exact de_il (FS.trans ec4 _ _ hS')
    · exact de_of _ _ (pairs_dp ⟨.inl (.inl (ec4 _ _ (FU _ _ hU))), lts, fun i u hi => ec4 _ _ (FU _ _ (hts i u hi))⟩)
theorem ok_law_by_keyword (T : Txt K mg) : FnOk P w K mg base CX0 9 T.f_law_by_keyword T.fd_law_by_keyword ["_law_net_here", "_law_row", "_law_gone", "_law_turns"] (spBy K) := by
  refine T.F_law_by_keyword.ok sc_law_by_keyword (fun vs H Q E h => ?_) (fun cdv A outer s H vs Q E hr h => ?_)
  · obtain ⟨s, a, g, t, G, L, M, us, rfl, _⟩ := h
    rfl
  · obtain ⟨s, a, g, t, G, L, M, us, rfl, hS, ok, hA, ne, lt, ll, hM, nd, ltM, hT, tl, pg, k⟩ := h
    apply Exists.intro
    apply And.intro
    · apply pss_cons
      · exact (ps_set (i := 4) sc_law_by_keyword.nd rfl (.inl rfl) (pe_lst (pa_cons (pe_callK0 (ok_is_site T) (hr.mono (by decide)) (by rfl) T.m_is_site T.F_is_site.kp T.k_is_site_0_0 pass0 (pk_cons (pv 0) pk_nil)) (pa_cons (pe_callK0 (ok_is_walk T) (hr.mono (by decide)) (by rfl) T.m_is_walk T.F_is_walk.kp T.k_is_walk_0_1_0 pass0 (pk_cons (pv 1) (pk_cons (pv 0) pk_nil))) (pa_cons (pe_callK0 (ok_is_trail_of T) (hr.mono (by decide)) (by rfl) T.m_is_trail_of T.F_is_trail_of.kp T.k_is_trail_of_0_1_0 pass0 (pk_cons (pe_call (ok_law_trail T) (hr.mono (by decide)) (by rfl) T.m_law_trail T.F_law_trail.kp T.b_law_trail .nil pass0 (pa_cons (pv 1) pa_nil)) (pk_cons (pv 0) pk_nil))) pa_nil)))))
      apply pss_cons
      · exact (ps_set (i := 4) sc_law_by_keyword.nd rfl (.inl rfl) (pe_op op_cat (pv 4) (pe_lst (pa_cons (pe_callK0 (ok_links_into T) (hr.mono (by decide)) (by rfl) T.m_links_into T.F_links_into.kp T.k_links_into_0_1_0 pass0 (pk_cons (pe_ix (k_ix_list (K := K) rfl) (pv 1) pe_int (fun _ _ => rfl)) (pk_cons (pv 0) pk_nil))) (pa_cons (pe_callK0 (ok_reached_from T) (hr.mono (by decide)) (by rfl) T.m_reached_from T.F_reached_from.kp T.k_reached_from_0_1_0 pass0 (pk_cons (pe_ix (k_ix_list (K := K) rfl) (pv 1) (pe_un un_neg pe_int) (fun _ _ => rfl)) (pk_cons (pv 0) pk_nil))) (pa_cons (pe_callK0 (ok_is_two_way T) (hr.mono (by decide)) (by rfl) T.m_is_two_way T.F_is_two_way.kp T.k_is_two_way_0_0 pass0 (pk_cons (pv 0) pk_nil)) pa_nil))))))
      apply pss_cons
      · exact (ps_set (i := 4) sc_law_by_keyword.nd rfl (.inl rfl) (pe_op op_cat (pv 4) (pe_lst (pa_cons (pe_callK0 (ok_reversed_site T) (hr.mono (by decide)) (by rfl) T.m_reversed_site T.F_reversed_site.kp T.k_reversed_site_0_0 pass0 (pk_cons (pv 0) pk_nil)) (pa_cons (pe_callK0 (ok_site_without T) (hr.mono (by decide)) (by rfl) T.m_site_without T.F_site_without.kp T.k_site_without_0_1_0 pass0 (pk_cons (pv 2) (pk_cons (pv 0) pk_nil))) (pa_cons (pe_callK0 (ok_format_site T) (hr.mono (by decide)) (by rfl) T.m_format_site T.F_format_site.kp T.k_format_site_0_0 pass0 (pk_cons (pv 0) pk_nil)) pa_nil))))))
      apply pss_cons
      · exact (ps_set (i := 4) sc_law_by_keyword.nd rfl (.inl rfl) (pe_op op_cat (pv 4) (pe_lst (pa_cons (pe_callK0 (ok_parse_site T) (hr.mono (by decide)) (by rfl) T.m_parse_site T.F_parse_site.kp T.k_parse_site_0_0 pass0 (pk_cons (pe_call (ok_format_site T) (hr.mono (by decide)) (by rfl) T.m_format_site T.F_format_site.kp T.b_format_site .nil pass0 (pa_cons (pv 0) pa_nil)) pk_nil)) (pa_cons (pe_callK0 (ok_format_trail T) (hr.mono (by decide)) (by rfl) T.m_format_trail T.F_format_trail.kp T.k_format_trail_0_0 pass0 (pk_cons (pe_call (ok_law_trail T) (hr.mono (by decide)) (by rfl) T.m_law_trail T.F_law_trail.kp T.b_law_trail .nil pass0 (pa_cons (pv 3) pa_nil)) pk_nil)) (pa_cons (pe_callK0 (ok_listed T) (hr.mono (by decide)) (by rfl) T.m_listed T.F_listed.kp T.k_listed_0_0 pass0 (pk_cons (pv 3) pk_nil)) pa_nil))))))
      apply pss_cons
      · exact (ps_set (i := 5) sc_law_by_keyword.nd rfl (.inl rfl) (pe_callK0 (ok_format_effect T) (hr.mono (by decide)) (by rfl) T.m_format_effect T.F_format_effect.kp T.k_format_effect_0_0 pass0 (pk_cons (pe_call (ok_effect_of T) (hr.mono (by decide)) (by rfl) T.m_effect_of T.F_effect_of.kp T.b_effect_of .nil pass0 (pa_cons (pv 3) pa_nil)) pk_nil)))
      apply pss_one
      exact (ps_ret (pe_op op_cat (pv 4) (pe_lst (pa_cons (pe_callK0 (ok_parse_trail T) (hr.mono (by decide)) (by rfl) T.m_parse_trail T.F_parse_trail.kp T.k_parse_trail_0_0 pass0 (pk_cons (pe_call (ok_format_trail T) (hr.mono (by decide)) (by rfl) T.m_format_trail T.F_format_trail.kp T.b_format_trail .nil pass0 (pa_cons (pe_call (ok_law_trail T) (hr.mono (by decide)) (by rfl) T.m_law_trail T.F_law_trail.kp T.b_law_trail .nil pass0 (pa_cons (pv 3) pa_nil)) pa_nil)) pk_nil)) (pa_cons (pv 5) (pa_cons (pe_prop (pe_callK0 (ok_parse_effect T) (hr.mono (by decide)) (by rfl) T.m_parse_effect T.F_parse_effect.kp T.k_parse_effect_0_0 pass0 (pk_cons (pv 5) pk_nil)) T.cl_Effect T.p_Effect_exits (ok_Effect_exits T) (hr.mono (by decide)) T.b_Effect_exits .nil pass0 rfl) pa_nil))))))
    walk_at "sx"
    have l12 : ∀ x ∈ L, x < 12 := fun x hx => by have := lt x hx; have := ok.n2; omega
    have l40 : ∀ x ∈ L, x < 40 := fun x hx => by have := l12 x hx; omega
    have tfp := folds_pg us [] (pg_nil _) pg List.nodup_nil
    have lfp := folds_pg (nz L) [] (pg_nil _) (nz_pg l40) List.nodup_nil
    have trl : (trN L).length ≤ 1000 := by
      have := lfp.2.2
      rw [← trN_nz, nz_len, nz_len, List.length_nil] at this
      omega
    refine ⟨s, G, rfl, hS, ok, fun H1 e1 => ?_⟩
    refine ⟨s, a, G, L, rfl, hS.ex e1, ok, ex_l e1 hA, ne, lt, by omega, fun H2 e2 => ?_⟩
    have E2 := e1.trans e2
    refine ⟨a, nz L, rfl, ex_l E2 hA, by rw [nz_len]; omega, nz_pg l40, fun tr H3 n3 e3 h3 => ?_⟩
    have E3 := E2.trans e3
    refine ⟨s, tr, G, trN L, rfl, hS.ex E3, ok, .inl (.inl (by rw [trN_nz]; exact h3)), trN_ne ne, trN_nd l40, fun x hx => lt x (trN_mem hx), trl, fun H4 e4 => ?_⟩
    refine ⟨sz_ok (by omega), fun p np => ?_⟩
    have ep := Ex.new np (o := .lst [V.bl true, V.bl (linked G L), V.bl (linked G (trN L))])
    have hp : (upd H4 p (.lst [V.bl true, V.bl (linked G L), V.bl (linked G (trN L))])) p = some (.lst [V.bl true, V.bl (linked G L), V.bl (linked G (trN L))]) := upd_same
    have E5 := (E3.trans e4).trans ep
    generalize upd H4 p (.lst [V.bl true, V.bl (linked G L), V.bl (linked G (trN L))]) = H5 at ep hp E5 ⊢
    have first : ((nz L).map V.int)[0]? = some (.int ((L.getD 0 0 : Nat) : Int)) := by
      cases L with
      | nil => exact absurd rfl ne
      | cons x L => rfl
    have fin : L.getD 0 0 ∈ L := by
      cases L with
      | nil => exact absurd rfl ne
      | cons x L => exact List.mem_cons_self
    refine ixL (ex_l E5 hA) (atI_n (j := 0) rfl first) ?_
    refine ⟨s, G, _, rfl, hS.ex E5, ok, lt _ fin, fun r5 H6 n6 e6 h6 => ?_⟩
    have E6 := E5.trans e6
    refine ixL (ex_l E6 hA) (atI_last (last_nz ne)) ?_
    refine ⟨s, G, _, rfl, hS.ex E6, ok, lt _ (last_in ne), fun r6 H7 n7 e7 h7 => ?_⟩
    have E7 := E6.trans e7
    refine ⟨s, G, rfl, hS.ex E7, ok, fun H8 e8 => ⟨sz_ok (by omega), fun q nq => ?_⟩⟩
    have eq := Ex.new nq (o := .lst [V.ref r5, V.ref r6, V.bl (decide (rev G = G))])
    have hq : (upd H8 q (.lst [V.ref r5, V.ref r6, V.bl (decide (rev G = G))])) q = some (.lst [V.ref r5, V.ref r6, V.bl (decide (rev G = G))]) := upd_same
    have F5 := ((e6.trans e7).trans e8).trans eq
    have F6 := (e7.trans e8).trans eq
    have F7 := e8.trans eq
    have E9 := E5.trans F5
    generalize upd H8 q (.lst [V.ref r5, V.ref r6, V.bl (decide (rev G = G))]) = H9 at eq hq F5 F6 F7 E9 ⊢
    refine catL (F5 _ _ hp) hq (sz_ok (by show 3 + 3 ≤ _; omega)) fun c1 nc1 => ?_
    have ec1 := Ex.new nc1 (o := .lst ([V.bl true, V.bl (linked G L), V.bl (linked G (trN L))] ++ [V.ref r5, V.ref r6, V.bl (decide (rev G = G))]))
    have hc1 : (upd H9 c1 (.lst ([V.bl true, V.bl (linked G L), V.bl (linked G (trN L))] ++ [V.ref r5, V.ref r6, V.bl (decide (rev G = G))]))) c1 = some (.lst [V.bl true, V.bl (linked G L), V.bl (linked G (trN L)), V.ref r5, V.ref r6, V.bl (decide (rev G = G))]) := upd_same
    have EA := E9.trans ec1
    have d5 := de_il (K := K) (ec1 _ _ (F6 _ _ h6))
    have d6 := de_il (K := K) (ec1 _ _ (F7 _ _ h7))
    generalize upd H9 c1 (.lst ([V.bl true, V.bl (linked G L), V.bl (linked G (trN L))] ++ [V.ref r5, V.ref r6, V.bl (decide (rev G = G))])) = HA at ec1 hc1 EA d5 d6 ⊢
    clear hp hq F5 F6 F7 h6 h7 h3
    refine ⟨s, G, rfl, hS.ex EA, ok, fun r7 HB eB gB => ?_⟩
    have EB := EA.trans eB
    refine ⟨s, g, G, M, rfl, hS.ex EB, ok, ex_l EB hM, nd, ltM, fun r8 HC eC gC => ?_⟩
    have EC := EB.trans eC
    refine ⟨s, G, rfl, hS.ex EC, ok, fun HD eD => ⟨sz_ok (by omega), fun q2 nq2 => ?_⟩⟩
    have eq2 := Ex.new nq2 (o := .lst [V.ref r7, V.ref r8, V.str (siteS G)])
    have hq2 : (upd HD q2 (.lst [V.ref r7, V.ref r8, V.str (siteS G)])) q2 = some (.lst [V.ref r7, V.ref r8, V.str (siteS G)]) := upd_same
    have FC := eD.trans eq2
    have FB := eC.trans FC
    have FA := eB.trans FB
    generalize upd HD q2 (.lst [V.ref r7, V.ref r8, V.str (siteS G)]) = HE at eq2 hq2 FC FB FA ⊢
    refine catL (FA _ _ hc1) hq2 (sz_ok (by show 6 + 3 ≤ _; omega)) fun c2 nc2 => ?_
    have ec2 := Ex.new nc2 (o := .lst ([V.bl true, V.bl (linked G L), V.bl (linked G (trN L)), V.ref r5, V.ref r6, V.bl (decide (rev G = G))] ++ [V.ref r7, V.ref r8, V.str (siteS G)]))
    have hc2 : (upd HE c2 (.lst ([V.bl true, V.bl (linked G L), V.bl (linked G (trN L)), V.ref r5, V.ref r6, V.bl (decide (rev G = G))] ++ [V.ref r7, V.ref r8, V.str (siteS G)]))) c2 = some (.lst [V.bl true, V.bl (linked G L), V.bl (linked G (trN L)), V.ref r5, V.ref r6, V.bl (decide (rev G = G)), V.ref r7, V.ref r8, V.str (siteS G)]) := upd_same
    have FA2 := FA.trans ec2
    have EF := EA.trans FA2
    have d7 := De.ex FA2 _ _ d5
    have d8 := De.ex FA2 _ _ d6
    have d9 := de_grid (K := K) (gB.at.ex (FB.trans ec2))
    have d10 := de_grid (K := K) (gC.at.ex (FC.trans ec2))
    generalize upd HE c2 (.lst ([V.bl true, V.bl (linked G L), V.bl (linked G (trN L)), V.ref r5, V.ref r6, V.bl (decide (rev G = G))] ++ [V.ref r7, V.ref r8, V.str (siteS G)])) = HF at ec2 hc2 FA2 EF d7 d8 d9 d10 ⊢
    clear hc1 hq2 FA FB FC d5 d6 gB gC
    refine ⟨s, G, rfl, hS.ex EF, ok, fun HG eG => ?_⟩
    refine ⟨G, rfl, ok, fun r9 HI eI gI => ?_⟩
    have EI := (EF.trans eG).trans eI
    refine ⟨t, us, rfl, ex_l EI hT, by omega, pg, fun tr2 HJ nJ eJ hJ => ?_⟩
    refine ⟨tr2, us.foldl vis [], rfl, .inl (.inl hJ), tfp.2.1, tfp.1, by have := tfp.2.2; rw [List.length_nil] at this; omega, fun HK eK => ?_⟩
    have EK := (EI.trans eJ).trans eK
    refine ⟨t, us, rfl, ex_l EK hT, by omega, pg, fun r10 HL nL eL hL => ⟨sz_ok (by omega), fun q3 nq3 => ?_⟩⟩
    have tl300 : (us.foldl vis []).length ≤ 300 := by have := tfp.2.2; rw [List.length_nil] at this; omega
    have eq3 := Ex.new nq3 (o := .lst [V.ref r9, V.str (Txt.join (Str.ofString " > ") (toStrs (us.foldl vis []))), V.ref r10])
    have hq3 : (upd HL q3 (.lst [V.ref r9, V.str (Txt.join (Str.ofString " > ") (toStrs (us.foldl vis []))), V.ref r10])) q3 = some (.lst [V.ref r9, V.str (Txt.join (Str.ofString " > ") (toStrs (us.foldl vis []))), V.ref r10]) := upd_same
    have FI := ((eJ.trans eK).trans eL).trans eq3
    have FL := eq3
    have FF := (eG.trans eI).trans FI
    generalize upd HL q3 (.lst [V.ref r9, V.str (Txt.join (Str.ofString " > ") (toStrs (us.foldl vis []))), V.ref r10]) = HM at eq3 hq3 FI FL FF ⊢
    refine catL (FF _ _ hc2) hq3 (sz_ok (by show 9 + 3 ≤ _; omega)) fun c3 nc3 => ?_
    have ec3 := Ex.new nc3 (o := .lst ([V.bl true, V.bl (linked G L), V.bl (linked G (trN L)), V.ref r5, V.ref r6, V.bl (decide (rev G = G)), V.ref r7, V.ref r8, V.str (siteS G)] ++ [V.ref r9, V.str (Txt.join (Str.ofString " > ") (toStrs (us.foldl vis []))), V.ref r10]))
    have hc3 : (upd HM c3 (.lst ([V.bl true, V.bl (linked G L), V.bl (linked G (trN L)), V.ref r5, V.ref r6, V.bl (decide (rev G = G)), V.ref r7, V.ref r8, V.str (siteS G)] ++ [V.ref r9, V.str (Txt.join (Str.ofString " > ") (toStrs (us.foldl vis []))), V.ref r10]))) c3 = some (.lst [V.bl true, V.bl (linked G L), V.bl (linked G (trN L)), V.ref r5, V.ref r6, V.bl (decide (rev G = G)), V.ref r7, V.ref r8, V.str (siteS G), V.ref r9, V.str (Txt.join (Str.ofString " > ") (toStrs (us.foldl vis []))), V.ref r10]) := upd_same
    have FF2 := FF.trans ec3
    have EM := EF.trans FF2
    have d7 := De.ex FF2 _ _ d7
    have d8 := De.ex FF2 _ _ d8
    have d9 := De.ex FF2 _ _ d9
    have d10 := De.ex FF2 _ _ d10
    have d11 := de_grid (K := K) (gI.at.ex (FI.trans ec3))
    have hL3 := ec3 _ _ (FL _ _ hL)
    generalize upd HM c3 (.lst ([V.bl true, V.bl (linked G L), V.bl (linked G (trN L)), V.ref r5, V.ref r6, V.bl (decide (rev G = G)), V.ref r7, V.ref r8, V.str (siteS G)] ++ [V.ref r9, V.str (Txt.join (Str.ofString " > ") (toStrs (us.foldl vis []))), V.ref r10])) = HN at ec3 hc3 FF2 EM d7 d8 d9 d10 d11 hL3 ⊢
    clear hc2 hq3 FI FL FF gI hJ hL
    refine ⟨t, us, rfl, ex_l EM hT, by omega, pg, fun x HO' nx eO hx => ?_⟩
    refine ⟨x, us, rfl, hx, pg, fun HP eP => ?_⟩
    have EP := (EM.trans eO).trans eP
    refine ⟨t, us, rfl, ex_l EP hT, by omega, pg, fun tr3 HQ nQ eQ hQ => ?_⟩
    refine ⟨tr3, us.foldl vis [], rfl, .inl (.inl hQ), tfp.2.1, tfp.1, tl300, fun HR eR => ?_⟩
    refine ⟨us.foldl vis [], rfl, tfp.2.1, tfp.1, tl300, fun r11 HS nS eS hS' => ?_⟩
    refine ⟨us, rfl, pg, fun y HT nT eT hy => ?_⟩
    obtain ⟨dx, ty, dy, tsy, g1, g2, g3, g4, g5⟩ := id hy
    refine ⟨y, rfl, _, _, g1, y, _, _, rfl, hy, fun r12 ts HU nU eU hU lts hts => ⟨sz_ok (by omega), fun q4 nq4 => ?_⟩⟩
    have eq4 := Ex.new nq4 (o := .lst [V.ref r11, V.str (effS us), V.ref r12])
    have hq4 : (upd HU q4 (.lst [V.ref r11, V.str (effS us), V.ref r12])) q4 = some (.lst [V.ref r11, V.str (effS us), V.ref r12]) := upd_same
    have FS := (eT.trans eU).trans eq4
    have FU := eq4
    have FN := ((((eO.trans eP).trans eQ).trans eR).trans eS).trans FS
    generalize upd HU q4 (.lst [V.ref r11, V.str (effS us), V.ref r12]) = HV at eq4 hq4 FS FU FN ⊢
    refine catL (FN _ _ hc3) hq4 (sz_ok (by show 12 + 3 ≤ _; omega)) fun c4 nc4 => ?_
    have ec4 := Ex.new nc4 (o := .lst ([V.bl true, V.bl (linked G L), V.bl (linked G (trN L)), V.ref r5, V.ref r6, V.bl (decide (rev G = G)), V.ref r7, V.ref r8, V.str (siteS G), V.ref r9, V.str (Txt.join (Str.ofString " > ") (toStrs (us.foldl vis []))), V.ref r10] ++ [V.ref r11, V.str (effS us), V.ref r12]))
    refine k c4 _ (EM.trans (FN.trans ec4)) ?_
    have FZ := FN.trans ec4
    refine .lst (.inl (.inl upd_same)) ?_
    refine .cons (.bl _) (.cons (.bl _) (.cons (.bl _) (.cons (De.ex FZ _ _ d7) (.cons (De.ex FZ _ _ d8) (.cons (.bl _) (.cons (De.ex FZ _ _ d9) (.cons (De.ex FZ _ _ d10) (.cons (.str _) (.cons (De.ex FZ _ _ d11) (.cons (.str _) (.cons ?_ (.cons ?_ (.cons (.str _) (.cons ?_ .nil))))))))))))))
    · exact .lst (.inl (.inl (FZ _ _ hL3))) (de_strs _)
    · exact de_il (FS.trans ec4 _ _ hS')
    · exact de_of _ _ (pairs_dp ⟨.inl (.inl (ec4 _ _ (FU _ _ hU))), lts, fun i u hi => ec4 _ _ (FU _ _ (hts i u hi))⟩)
end
end LW

set_option Elab.async false
set_option linter.all false
set_option maxRecDepth 100000
set_option maxHeartbeats 4000000
namespace LW
open PySem PySem.Spec PyProof.Rows L2 BC Evl TR EF L2.DX
local macro_rules | `(tactic| walk_at "sx") => `(tactic| try simp only [x_seq, x_next, x_brk, x_cnt, x_nev, x_ret, x_retN, x_drop, x_ifS, x_asg, x_gn, x_gsub, x_par, x_par3, x_aug, x_for, x_lc, x_rng1, x_rng2, x_rng3, x_ilist, x_itup, x_ienum, x_izip, x_izipA, x_istr, x_var, x_c, x_op, x_un, x_test, x_b, x_chain, x_and, x_or, x_not, x_andV, x_orV, x_notV, x_ife, x_nil, x_cons, x_lst, x_tup, x_cb, x_call, x_callK, x_bm, x_bm0, x_tru, x_sl, x_nopart, x_part, x_revL, x_I0, x_I, x_U, x_ip, x_ipC, x_eqI, x_neI, x_eqB, x_neB, x_eqS, x_neS, x_isB, x_isNB, x_lrg, x_gall, x_lenSet, x_augS, x_sortSet, x_mulS, x_fmtS, x_gstar, x_inS, x_addS, x_js0, x_js, x_jn, x_fmt, x_rg1, x_rg2, x_dnewK, x_dnewT, x_dget, x_dget1, x_dget2, x_din, x_dnotin, x_dput, x_ikeys, x_ghead, x_fld, x_sfld, x_prop, x_meth, x_make, x_dc,
  L2.start, List.map_cons, List.map_nil, List.length_cons, List.length_nil, Nat.reduceAdd, Nat.reduceSub, Nat.sub_self, Nat.zero_add, List.replicate, List.replicate_succ, List.replicate_zero, List.append_nil, List.cons_append, List.nil_append, List.set_cons_zero, List.set_cons_succ, List.getElem?_cons_zero, List.getElem?_cons_succ, Option.some.injEq, V.int.injEq, V.bl.injEq, V.ref.injEq, V.str.injEq, List.cons.injEq, and_true, true_and, exists_eq_left', exists_eq_left, exists_and_left, exists_eq, if_true, if_false, ite_true, ite_false, Bool.true_eq_false, Bool.false_eq_true, reduceIte, reduceCtorEq, Bool.not_true, Bool.not_false, decide_true, decide_false, decide_eq_true_eq, Bool.and_true, Bool.true_and, Bool.and_self, Bool.and_false, Bool.false_and, Bool.or_self, Bool.or_false, Bool.false_or, Bool.or_true, Bool.true_or, eq_self])
section
variable {P : Program} {w : World} {K : PySem.W.Frag} {mg : Str → Option Value} {base : Heap}
/-! ### what both sides list is shown in few signs -/
def Sm (x : Str) : Prop := ∀ c ∈ TL.tl x, c < 256
theorem sm_app {x y : Str} (h : Sm x) (g : Sm y) : Sm (x ++ y) := fun c m => by
  rw [TL.tl_append] at m
  rcases List.mem_append.mp m with m | m
  · exact h c m
  · exact g c m
theorem sm_num {i : Int} (h : 0 ≤ i) : Sm ((toString i : String) : Str) := fun c m => by
  have e : ((toString i : String) : Str) = numS i.toNat := by
    unfold numS
    rw [Int.toNat_of_nonneg h]
  rw [e] at m
  by_cases hc : c < 48 ∨ 57 < c
  · exact absurd m (numS_free hc)
  · omega
theorem sm_join {y : Str} {ps : List Str} (h : Sm y) (g : ∀ p ∈ ps, Sm p) : Sm (Txt.join y ps) := fun c m => by
  rcases join_mem m with m | ⟨p, hp, m⟩
  · exact h c m
  · exact g p hp c m
theorem sm_all {x : Str} (h : x.cps.toList.all (fun c => decide (c < 256)) = true) : Sm x := fun c m => by
  have := List.all_eq_true.mp h c m
  simpa using this
theorem sm_nums {M : List Int} (h : ∀ x ∈ M, 0 ≤ x) : ∀ p ∈ toStrs M, Sm p := fun p hp => by
  obtain ⟨x, hx, rfl⟩ := List.mem_map.mp hp
  exact sm_num (h x hx)
theorem sm_lit1 : Sm ((" " : String) : Str) := sm_all (by decide +kernel)
theorem sm_lit2 : Sm ((" > " : String) : Str) := sm_all (by decide +kernel)
theorem sm_lit3 : Sm (("; " : String) : Str) := sm_all (by decide +kernel)
theorem sm_lit4 : Sm ((":" : String) : Str) := sm_all (by decide +kernel)
theorem sm_lit5 : Sm ((">" : String) : Str) := sm_all (by decide +kernel)
theorem sm_lit6 : Sm ((";" : String) : Str) := sm_all (by decide +kernel)
theorem sm_lit7 : Sm (("  " : String) : Str) := sm_all (by decide +kernel)
theorem sm_emp : Sm Str.empty := sm_all (by decide +kernel)
theorem sm_site (G : Grid) : Sm (siteS G) := sm_join sm_lit3 fun p hp => by
  obtain ⟨i, _, rfl⟩ := List.mem_map.mp hp
  refine sm_join sm_lit1 fun q hq => ?_
  rcases List.mem_cons.mp hq with rfl | hq
  · exact sm_app (sm_num (by omega)) sm_lit4
  · obtain ⟨x, _, rfl⟩ := List.mem_map.mp hq
    exact sm_num (by omega)
theorem sm_f3 : ∀ i : Fin 300, (intSpecTextOf ((">3" : String) : Str) ((i.val : Nat) : Int)).cps.toList.all (fun c => decide (c < 256)) = true := by decide +kernel
theorem sm_f4 : ∀ i : Fin 40, (intSpecTextOf ((">4" : String) : Str) ((i.val : Nat) : Int)).cps.toList.all (fun c => decide (c < 256)) = true := by decide +kernel
theorem line_ok {i : Nat} {p : Int} {t : List Int} (hi : i < 300) (h0 : 0 ≤ p) (h1 : p < 40) (ht : Pg 40 t) (hl : t.length ≤ 20) : Sm (lineOf i p t) ∧ (lineOf i p t).length ≤ 200 := by
  have a4 := fl4 ⟨p.toNat, by omega⟩
  have s4 := sm_f4 ⟨p.toNat, by omega⟩
  rw [show ((p.toNat : Nat) : Int) = p by omega] at a4 s4
  have a3 : (intSpecTextOf ((">3" : String) : Str) ((i : Nat) : Int)).length ≤ 3 := fl3 ⟨i, hi⟩
  have s3 : (intSpecTextOf ((">3" : String) : Str) ((i : Nat) : Int)).cps.toList.all (fun c => decide (c < 256)) = true := sm_f3 ⟨i, hi⟩
  rw [← line_prog hi h0 h1]
  refine ⟨sm_app (sm_app (sm_app (sm_app sm_emp (sm_all s3)) (sm_all s4)) sm_lit7) (sm_join sm_lit2 (sm_nums fun x hx => (ht x hx).1)), ?_⟩
  have jl := join_len (pg1000 ht)
  rw [Str.length_append, Str.length_append, Str.length_append, Str.length_append, show Str.empty.length = 0 by decide, show (("  " : String) : Str).length = 2 by decide]
  omega
theorem gd_str {x : Str} {n : Nat} (h : Sm x) (hl : x.length ≤ n) : Gd 0 n (.str x) := by
  have l : (PyData.str x).leavesShort 40 = true := by
    simp only [PyData.leavesShort, List.all_eq_true, decide_eq_true_eq]
    exact fun c m => Nat.lt_of_lt_of_le (h c m) (by decide)
  exact (Gd.str l).mono (Nat.le_refl _) hl
theorem gd_ints {ns : List Int} {k : Nat} (h : ∀ x ∈ ns, 0 ≤ x ∧ x < 40) (hl : ns.length ≤ k) : Gd 1 (131 * k) (dInts ns) := by
  have g : Gd (0 + 1) ((130 + 1) * (ns.map PyData.int).length) (.list (ns.map PyData.int)) := Gd.list fun d m => by
    obtain ⟨x, hx, rfl⟩ := List.mem_map.mp m
    have := h x hx
    exact Gd.int (Nat.lt_of_lt_of_le (m := 40) (by omega) (by decide))
  rw [List.length_map] at g
  exact g.mono (Nat.le_refl _) (Nat.mul_le_mul_left _ hl)
theorem gd_grid {G : Grid} (h : ∀ r ∈ G, r.length ≤ 12 ∧ ∀ x ∈ r, x < 12) (hl : G.length ≤ 12) : Gd 2 18876 (dG G) := by
  have g : Gd (1 + 1) ((131 * 12 + 1) * (G.map fun r => PyData.list ((nz r).map PyData.int)).length) (dG G) := Gd.list fun d m => by
    obtain ⟨r, hr, rfl⟩ := List.mem_map.mp m
    obtain ⟨a, b⟩ := h r hr
    exact gd_ints (ns := nz r) (k := 12) (fun x hx => by
      obtain ⟨y, hy, rfl⟩ := List.mem_map.mp hx
      have := b y hy
      omega) (by rw [nz_len]; exact a)
  rw [List.length_map] at g
  exact g.mono (Nat.le_refl _) (by omega)
theorem gd_pairs {qs : List (Int × Int)} (h : PgP qs) (hl : qs.length ≤ 40) : Gd 2 10520 (dPairs qs) := by
  have g : Gd (1 + 1) ((262 + 1) * (qs.map dPair).length) (dPairs qs) := Gd.list fun d m => by
    obtain ⟨q, hq, rfl⟩ := List.mem_map.mp m
    obtain ⟨a, b⟩ := h q hq
    have g : Gd (0 + 1) ((130 + 1) * [PyData.int q.1, PyData.int q.2].length) (.tuple [.int q.1, .int q.2]) := Gd.tuple fun d m => by
      simp only [List.mem_cons, List.mem_nil_iff, or_false] at m
      rcases m with rfl | rfl
      · exact Gd.int (Nat.lt_of_lt_of_le (m := 40) (by omega) (by decide))
      · exact Gd.int (Nat.lt_of_lt_of_le (m := 40) (by omega) (by decide))
    exact g
  rw [List.length_map] at g
  exact g.mono (Nat.le_refl _) (by omega)
theorem site_small {G : Grid} (h : SiteOk G) : ∀ r ∈ G, r.length ≤ 12 ∧ ∀ x ∈ r, x < 12 := fun r m => by
  obtain ⟨i, hi, e⟩ := List.getElem_of_mem m
  have e' := List.getElem?_eq_some_iff.mpr ⟨hi, e⟩
  have n2 := h.n2
  exact ⟨h.len e', fun x hx => by have := h.lt i r e' x hx; omega⟩
theorem into_small {G : Grid} (h : SiteOk G) (p : Nat) : (into G p).length ≤ 12 ∧ ∀ x ∈ into G p, x < 12 := by
  have n2 := h.n2
  unfold into
  refine ⟨?_, fun x hx => ?_⟩
  · have := List.length_filter_le (fun q => decide (p ∈ row G q)) (List.range G.length)
    rw [List.length_range] at this
    omega
  · have := List.mem_range.mp (List.mem_filter.mp hx).1
    omega
theorem reach_small {G : Grid} (h : SiteOk G) (p : Nat) : (reach G p).length ≤ 12 ∧ ∀ x ∈ reach G p, x < 12 := by
  have n2 := h.n2
  unfold reach
  refine ⟨?_, fun x hx => ?_⟩
  · have := List.length_filter_le (fun x => decide (x ∈ reachT G p)) (List.range G.length)
    rw [List.length_range] at this
    omega
  · have := List.mem_range.mp (List.mem_filter.mp hx).1
    omega
theorem rev_small {G : Grid} (h : SiteOk G) : (∀ r ∈ rev G, r.length ≤ 12 ∧ ∀ x ∈ r, x < 12) ∧ (rev G).length ≤ 12 := by
  have n2 := h.n2
  unfold rev
  refine ⟨fun r hr => ?_, by rw [List.length_map, List.length_range]; exact n2⟩
  obtain ⟨v, _, rfl⟩ := List.mem_map.mp hr
  exact into_small h v
theorem wo_small {G : Grid} (h : SiteOk G) (M : List Nat) : (∀ r ∈ wo G M, r.length ≤ 12 ∧ ∀ x ∈ r, x < 12) ∧ (wo G M).length ≤ 12 := by
  have n2 := h.n2
  unfold wo
  refine ⟨fun r hr => ?_, by rw [List.length_map, List.length_range]; exact n2⟩
  obtain ⟨v, _, rfl⟩ := List.mem_map.mp hr
  unfold wor
  split
  · exact ⟨by simp, fun x hx => by simp at hx⟩
  · have a := List.length_filter_le (fun x => !decide (x ∈ M)) (row G v)
    have b := h.rlen v
    exact ⟨by omega, fun x hx => by have := h.rlt (List.mem_filter.mp hx).1; omega⟩
theorem gd_nz {r : List Nat} (h : r.length ≤ 12 ∧ ∀ x ∈ r, x < 12) : Gd 3 19000 (dInts (nz r)) := (gd_ints (ns := nz r) (k := 12) (fun x hx => by
  obtain ⟨y, hy, rfl⟩ := List.mem_map.mp hx
  have := h.2 y hy
  omega) (by rw [nz_len]; exact h.1)).mono (by omega) (by omega)
theorem gd_eff {us : List Int} (h : Pg 40 us) : Gd 0 1000 (.str (effS us)) := by
  cases us with
  | nil => exact gd_str sm_emp (by decide)
  | cons p r =>
    have hp := h p List.mem_cons_self
    have hq := ints_pgp h
    refine gd_str (sm_join sm_lit1 fun x hx => ?_) (effS_len hp hq (exs_len40 _)).2
    rcases List.mem_cons.mp hx with rfl | hx
    · exact sm_app (sm_num hp.1) sm_lit6
    · obtain ⟨q, hm, rfl⟩ := List.mem_map.mp hx
      exact sm_app (sm_app (sm_num (hq q hm).1.1) sm_lit5) (sm_num (hq q hm).2.1)
theorem gd_14 {G : Grid} (ok : SiteOk G) (L M : List Nat) {us : List Int} (pg : Pg 40 us) (hl : us.length ≤ 20) : Gd 4 285015 (d14 G L M us) := by
  have tfp := folds_pg us [] (pg_nil _) pg List.nodup_nil
  have tl : (us.foldl vis []).length ≤ 20 := by have := tfp.2.2; rw [List.length_nil] at this; omega
  have n2 := ok.n2
  unfold d14
  refine (Gd.list (n := 3) (W := 19000) fun d m => ?_).mono (by omega) (by simp only [List.length_cons, List.length_nil]; omega)
  simp only [List.mem_cons, List.mem_nil_iff, or_false] at m
  rcases m with rfl | rfl | rfl | rfl | rfl | rfl | rfl | rfl | rfl | rfl | rfl | rfl | rfl | rfl | rfl
  · exact (Gd.bl _).mono (by omega) (by omega)
  · exact (Gd.bl _).mono (by omega) (by omega)
  · exact (Gd.bl _).mono (by omega) (by omega)
  · exact gd_nz (into_small ok _)
  · exact gd_nz (reach_small ok _)
  · exact (Gd.bl _).mono (by omega) (by omega)
  · exact (gd_grid (rev_small ok).1 (rev_small ok).2).mono (by omega) (by omega)
  · exact (gd_grid (wo_small ok M).1 (wo_small ok M).2).mono (by omega) (by omega)
  · exact (gd_str (sm_site G) (Nat.le_trans (site_len ok G.length n2) (Nat.mul_le_mul_right 67 n2))).mono (by omega) (by omega)
  · exact (gd_grid (site_small ok) n2).mono (by omega) (by omega)
  · exact (gd_str (n := 120) (sm_join sm_lit2 (sm_nums fun x hx => (tfp.1 x hx).1)) (by have := join_len (pg1000 tfp.1); omega)).mono (by omega) (by omega)
  · have g : Gd (0 + 1) ((200 + 1) * ((lns us us.length).map PyData.str).length) (.list ((lns us us.length).map PyData.str)) := Gd.list fun d m => by
      obtain ⟨x, hx, rfl⟩ := List.mem_map.mp m
      obtain ⟨i, hi, rfl⟩ := List.mem_map.mp hx
      rw [List.mem_range] at hi
      have hg : us[i]? = some (us.getD i 0) := by rw [List.getD_eq_getElem?_getD, List.getElem?_eq_getElem hi]; rfl
      have hp := pg _ (List.mem_of_getElem? hg)
      have f := folds_pg (us.take (i + 1)) [] (pg_nil _) (fun x hx => pg x (List.mem_of_mem_take hx)) List.nodup_nil
      have fl : ((us.take (i + 1)).foldl vis []).length ≤ 20 := by have := f.2.2; rw [List.length_nil, List.length_take] at this; omega
      have := line_ok (i := i) (by omega) hp.1 hp.2 f.1 fl
      exact gd_str this.1 this.2
    rw [List.length_map] at g
    have ll : (lns us us.length).length = us.length := by unfold lns; rw [List.length_map, List.length_range]
    rw [ll] at g
    exact g.mono (by omega) (by omega)
  · exact (gd_ints tfp.1 tl).mono (by omega) (by omega)
  · exact (gd_eff pg).mono (by omega) (by omega)
  · exact (gd_pairs (ints_pgp pg) (exs_len40 us)).mono (by omega) (by omega)
def spHolds : Sp := fun vs H Q _ => ∃ (b : Addr) (mo c : Nat), vs = [.ref b, .int mo] ∧ 1 ≤ mo ∧ mo ≤ 12 ∧ BagAt H b c ∧ c ≤ 1000 ∧ ∀ H', Fx b H H' → Q (.bl true) H'
def JSp (H : Hp) (b : Addr) (mo : Nat) (s : Addr) (G : Grid) (i : Nat) (σ' : L2.St) (H' : Hp) : Prop := ∃ l3 l4 l5 l6, σ' = [some (.ref b), some (.int mo), some (.ref s), l3, l4, l5, l6] ∧
  Fx b H H' ∧ BagAt H' b (2000 + 1000 * i) ∧ GridN H H' s G
theorem ok_law_holds (T : Txt K mg) : FnG P w K mg base CX0 10 T.f_law_holds T.fd_law_holds ["_law_source_here", "_law_most"] spHolds := by
  refine fun_okN T.F_law_holds sc_law_holds (fun vs H Q E h => ?_) (fun cdv A outer s H vs Q E hG hr h => ?_)
  · obtain ⟨b, mo, c, rfl, _⟩ := h
    rfl
  · obtain ⟨b, mo, c, rfl, m1, m2, hB, hc, k⟩ := h
    apply Exists.intro
    apply And.intro
    · apply pss_cons
      · exact (ps_set (i := 2) sc_law_holds.nd rfl (.inl rfl) (pe_call (ok_law_net T) (hr.mono (by decide)) (by rfl) T.m_law_net T.F_law_net.kp T.b_law_net .nil pass0 (pa_cons (pv 0) (pa_cons (pv 1) pa_nil))))
      apply pss_cons
      · apply ps_for PassesOwn.never rfl
        · exact (pi_range1 (by rfl) T.n_range (pa_cons pe_int pa_nil))
        · exact (pg_name (i := 3) sc_law_holds.nd rfl (.inl rfl))
        · apply pss_cons
          · exact (ps_par (i := 5) (j := 6) (by rfl) sc_law_holds.nd rfl rfl (by decide) rfl rfl (pa_cons (pe_call (ok_law_stroll T) (hr.mono (by decide)) (by rfl) T.m_law_stroll T.F_law_stroll.kp T.b_law_stroll .nil pass0 (pa_cons (pv 0) (pa_cons (pv 2) (pa_cons (pe_op op_add pe_int (pe_call (ok_law_draw T) (hr.mono (by decide)) (by rfl) T.m_law_draw T.F_law_draw.kp T.b_law_draw .nil pass0 (pa_cons (pv 0) (pa_cons pe_int pa_nil)))) pa_nil)))) (pa_cons (pe_call (ok_law_some T) (hr.mono (by decide)) (by rfl) T.m_law_some T.F_law_some.kp T.b_law_some .nil pass0 (pa_cons (pv 0) (pa_cons (pe_callB (k_len (K := K) rfl) (by rfl) T.n_len PySem.boot_len (pa_cons (pv 2) pa_nil)) (pa_cons (pe_callB (k_len (K := K) rfl) (by rfl) T.n_len PySem.boot_len (pa_cons (pv 2) pa_nil)) pa_nil)))) pa_nil)) (by rfl))
          apply pss_cons
          · exact (ps_set (i := 4) sc_law_holds.nd rfl (.inl rfl) (pe_call (ok_law_visits T) (hr.mono (by decide)) (by rfl) T.m_law_visits T.F_law_visits.kp T.b_law_visits .nil pass0 (pa_cons (pv 0) (pa_cons pe_int pa_nil))))
          apply pss_one
          apply ps_if
          · exact (pt_cmpR op_ne (pe_callB (k_reprA (K := K) rfl hG hr.units) (by rfl) T.n_repr (by decide +kernel) (pa_cons (pe_call (ok_law_by_keyword T) (hr.mono (by decide)) (by rfl) T.m_law_by_keyword T.F_law_by_keyword.kp T.b_law_by_keyword .nil pass0 (pa_cons (pv 2) (pa_cons (pv 5) (pa_cons (pv 6) (pa_cons (pv 4) pa_nil))))) pa_nil)) (pe_callB (k_reprA (K := K) rfl hG hr.units) (by rfl) T.n_repr (by decide +kernel) (pa_cons (pe_call (ok_law_by_position T) (hr.mono (by decide)) (by rfl) T.m_law_by_position T.F_law_by_position.kp T.b_law_by_position .nil pass0 (pa_cons (pv 2) (pa_cons (pv 5) (pa_cons (pv 6) (pa_cons (pv 4) pa_nil))))) pa_nil)) (by rfl))
          · apply pss_one
            exact (ps_ret pe_bl)
          · exact pss_nil
      apply pss_one
      exact (ps_ret pe_bl)
    obtain ⟨ob, hob⟩ := hB.some
    refine seq_asg (fun v H' => ∃ s G, v = .ref s ∧ Fx b H H' ∧ BagAt H' b 2000 ∧ GridN H H' s G ∧ SiteOk G) (fun R hR => ?_) (fun v H1 hC => ?_)
    · walk_at "sx"
      refine ⟨b, mo, c, rfl, m1, m2, hB, by omega, fun s G H' f1 b1 g1 ok _ => hR _ _ ⟨s, G, rfl, f1, b1.mono (by omega), g1, ok⟩⟩
    obtain ⟨s, G, rfl, f1, b1, g1, ok⟩ := hC
    have n1 := ok.n1
    have n2 := ok.n2
    walk_at "sx"
    refine ⟨by omega, by omega, ?_⟩
    refine lg_rng (JSp H b mo s G) ⟨none, none, none, none, rfl, f1, by simpa using b1, g1⟩ (fun i σ' H' hi hP => ?_) (fun σ' H' hP => ?_)
    · obtain ⟨l3, l4, l5, l6, rfl, fx, hb, gn⟩ := hP
      have hi5 : i < 4 := hi
      walk_at "sx"
      refine ⟨b, _, _, rfl, by omega, big_of (by omega), hb, by omega, fun r1 H2 r10 r11 f2 b2 => ?_⟩
      walk_at "sx"
      have g2 := gn.nw (Nw.fx hob f2)
      refine ⟨b, s, G, (1 + r1).toNat, _, H, by rw [Int.toNat_of_nonneg (by omega)], g2, ⟨_, hob⟩, ok, by omega, by omega, b2, by omega, fun rw_ L H3 nw f3 b3 hL ne lk lt ll => ?_⟩
      have g3 := g2.nw (Nw.fx hob f3)
      obtain ⟨xs, hs, hl, _⟩ := g3.at.lst
      refine lenL (.inl (.inl hs)) ?_
      refine lenL (.inl (.inl hs)) ?_
      rw [hl]
      refine ⟨b, G.length, _, _, rfl, by omega, by omega, by omega, b3, by omega, fun rg M H4 ng f4 b4 hM nd ltM => ?_⟩
      have nwb := b2.apart nw
      have ngb := b3.apart ng
      refine ⟨_, _, ⟨rfl, rfl⟩, ?_⟩
      refine ⟨b, 12, _, rfl, by omega, b4, by omega, fun rt us H5 nt f5 b5 hT tl pg => ?_⟩
      have g5 := (g3.nw (Nw.fx hob f4)).nw (Nw.fx hob f5)
      have hL5 := f5 _ _ nwb (f4 _ _ nwb hL)
      have hM5 := f5 _ _ ngb hM
      have gd := gd_14 ok L M pg tl
      refine ⟨s, rw_, rg, rt, G, L, M, us, rfl, g5.at, ok, .inl (.inl hL5), ne, lt, by omega, .inl (.inl hM5), nd, ltM, .inl (.inl hT), tl, pg, fun x1 H6 e6 d6 => ?_⟩
      refine reprA d6 gd (by omega) (by omega) ?_
      refine ⟨s, rw_, rg, rt, G, L, M, us, rfl, (g5.ex e6).at, ok, .inl (.inl (e6 _ _ hL5)), ne, lt, by omega, .inl (.inl (e6 _ _ hM5)), nd, ltM, .inl (.inl (e6 _ _ hT)), tl, pg, fun x2 H7 e7 d7 => ?_⟩
      refine reprA d7 gd (by omega) (by omega) ?_
      refine x_neS.mpr ⟨_, rfl, ?_⟩
      rw [decide_eq_true rfl, if_neg (by decide)]
      have E := e6.trans e7
      exact ⟨_, _, _, _, rfl, (((fx.trans f2).trans f3).trans (f4.trans f5)).trans (Fx.of E), (b5.ex E).mono (by omega), g5.ex E⟩
    · obtain ⟨l3, l4, l5, l6, rfl, fx, hb, gn⟩ := hP
      walk_at "sx"
      exact k _ fx
end
end LW

set_option Elab.async false
set_option linter.all false
set_option maxRecDepth 100000
set_option maxHeartbeats 4000000
namespace LW
open PySem PySem.Spec PyProof.Rows L2 BC Evl TR EF L2.DX
local macro_rules | `(tactic| walk_at "sx") => `(tactic| try simp only [x_seq, x_next, x_brk, x_cnt, x_nev, x_ret, x_retN, x_drop, x_ifS, x_asg, x_gn, x_gsub, x_par, x_par3, x_aug, x_for, x_lc, x_rng1, x_rng2, x_rng3, x_ilist, x_itup, x_ienum, x_izip, x_izipA, x_istr, x_var, x_c, x_op, x_un, x_test, x_b, x_chain, x_and, x_or, x_not, x_andV, x_orV, x_notV, x_ife, x_nil, x_cons, x_lst, x_tup, x_cb, x_call, x_callK, x_bm, x_bm0, x_tru, x_sl, x_nopart, x_part, x_revL, x_I0, x_I, x_U, x_ip, x_ipC, x_eqI, x_neI, x_eqB, x_neB, x_eqS, x_neS, x_isB, x_isNB, x_lrg, x_gall, x_lenSet, x_augS, x_sortSet, x_mulS, x_fmtS, x_gstar, x_inS, x_addS, x_js0, x_js, x_jn, x_fmt, x_rg1, x_rg2, x_dnewK, x_dnewT, x_dget, x_dget1, x_dget2, x_din, x_dnotin, x_dput, x_ikeys, x_ghead, x_fld, x_sfld, x_prop, x_meth, x_make, x_dc,
  L2.start, List.map_cons, List.map_nil, List.length_cons, List.length_nil, Nat.reduceAdd, Nat.reduceSub, Nat.sub_self, Nat.zero_add, List.replicate, List.replicate_succ, List.replicate_zero, List.append_nil, List.cons_append, List.nil_append, List.set_cons_zero, List.set_cons_succ, List.getElem?_cons_zero, List.getElem?_cons_succ, Option.some.injEq, V.int.injEq, V.bl.injEq, V.ref.injEq, V.str.injEq, List.cons.injEq, and_true, true_and, exists_eq_left', exists_eq_left, exists_and_left, exists_eq, if_true, if_false, ite_true, ite_false, Bool.true_eq_false, Bool.false_eq_true, reduceIte, reduceCtorEq, Bool.not_true, Bool.not_false, decide_true, decide_false, decide_eq_true_eq, Bool.and_true, Bool.true_and, Bool.and_self, Bool.and_false, Bool.false_and, Bool.or_self, Bool.or_false, Bool.false_or, Bool.or_true, Bool.true_or, eq_self])
section
variable {P : Program} {w : World} {K : PySem.W.Frag} {mg : Str → Option Value} {base : Heap}
def spLaw (K : PySem.W.Frag) : Sp := fun vs H Q _ => ∃ (a : Addr) (ns : List Int), vs = [.ref a] ∧ SqL K H a (ns.map V.int) ∧ ns.length ≤ 63 ∧ ∀ H', Q (.bl true) H'
def JO (H1 : Hp) (a : Addr) (i : Nat) (σ' : L2.St) (H' : Hp) : Prop := ∃ l1 l2, σ' = [some (.ref a), l1, l2] ∧ Ex H1 H'
theorem ok_law (T : Txt K mg) : FnG P w K mg base CX0 11 T.f_law T.fd_law ["_law_script"] (spLaw K) := by
  refine fun_okN T.F_law sc_law (fun vs H Q E h => ?_) (fun cdv A outer s H vs Q E hG hr h => ?_)
  · obtain ⟨a, ns, rfl, _⟩ := h
    rfl
  · obtain ⟨a, ns, rfl, hA, hn, k⟩ := h
    apply Exists.intro
    apply And.intro
    · apply pss_cons
      · apply ps_for PassesOwn.never rfl
        · exact (k_pi_enum (K := K) rfl (by rfl) T.n_enumerate (pa_cons (pe_slice (k_sl_list (K := K) rfl) (pe_op (k_catS (K := K) rfl) (pv 0) (pe_lst (pa_cons pe_int pa_nil))) po_none (po_some (pe_callB (call_max2 rfl) (by rfl) T.n_max (by decide +kernel) (pa_cons pe_int (pa_cons (pe_callB (call_min2 rfl) (by rfl) T.n_min (by decide +kernel) (pa_cons (pe_callB (k_len (K := K) rfl) (by rfl) T.n_len PySem.boot_len (pa_cons (pv 0) pa_nil)) (pa_cons pe_int pa_nil))) pa_nil))))) pa_nil))
        · exact (k_tup (K := K) (n := 2) rfl rfl (pgs_cons (pg_name (i := 1) sc_law.nd rfl (.inl rfl)) (pgs_cons (pg_name (i := 2) sc_law.nd rfl (.inl rfl)) pgs_nil)))
        · apply pss_one
          apply ps_if
          · exact (pt_not (pt_val (pe_callG (ok_law_holds T) hG (hr.mono (by decide)) (by rfl) T.m_law_holds T.F_law_holds.kp T.b_law_holds .nil pass0 (pa_cons (pe_call (ok_law_source T) (hr.mono (by decide)) (by rfl) T.m_law_source T.F_law_source.kp T.b_law_source .nil pass0 (pa_cons (pv 2) (pa_cons (pv 1) pa_nil))) (pa_cons (pe_ifExp (pt_cmpR (k_eqD (K := K) rfl hr.units) (pv 0) (pe_lst pa_nil) (by rfl)) pe_int pe_int) pa_nil)))))
          · apply pss_one
            exact (ps_ret pe_bl)
          · exact pss_nil
      apply pss_one
      exact (ps_ret pe_bl)
    walk_at "sx"
    refine ⟨sz_ok (by omega), fun z nz => ?_⟩
    have ez := Ex.new nz (o := .lst [V.int 0])
    refine catS (ex_l ez hA) (.inl (.inl upd_same)) (sz_ok (by rw [List.length_map, List.length_singleton]; omega)) fun c nc => ?_
    have ec := Ex.new nc (o := .lst (ns.map V.int ++ [V.int 0]))
    have hA2 := ex_l (ez.trans ec) hA
    refine lenL hA2 ?_
    rw [List.length_map]
    refine ⟨_, _, ⟨rfl, rfl⟩, _, _, ⟨rfl, rfl⟩, ?_⟩
    refine slL (.inl (.inl upd_same)) fun L nL => ?_
    have hmem : ∀ x ∈ cutV (ns.map V.int ++ [V.int 0]) none (some (if (if (10 : Int) < ((ns.length : Nat) : Int) then (10 : Int) else ((ns.length : Nat) : Int)) > 1 then (if (10 : Int) < ((ns.length : Nat) : Int) then (10 : Int) else ((ns.length : Nat) : Int)) else 1)), ∃ n, x = V.int n := fun x hx => by
      rcases List.mem_append.mp (cutV_mem hx) with h | h
      · obtain ⟨n, _, e⟩ := List.mem_map.mp h
        exact ⟨n, e.symm⟩
      · exact ⟨0, List.mem_singleton.mp h⟩
    have hlen := cutV_len (ns.map V.int ++ [V.int 0]) none (some (if (if (10 : Int) < ((ns.length : Nat) : Int) then (10 : Int) else ((ns.length : Nat) : Int)) > 1 then (if (10 : Int) < ((ns.length : Nat) : Int) then (10 : Int) else ((ns.length : Nat) : Int)) else 1))
    rw [List.length_append, List.length_map, List.length_singleton] at hlen
    generalize (cutV (ns.map V.int ++ [V.int 0]) none (some (if (if (10 : Int) < ((ns.length : Nat) : Int) then (10 : Int) else ((ns.length : Nat) : Int)) > 1 then (if (10 : Int) < ((ns.length : Nat) : Int) then (10 : Int) else ((ns.length : Nat) : Int)) else 1))) = xs at hmem hlen ⊢
    have eL := Ex.new nL (o := .lst xs)
    have hL : (upd (upd (upd H z (.lst [V.int 0])) c (.lst (ns.map V.int ++ [V.int 0]))) L (.lst xs)) L = some (.lst xs) := upd_same
    have hA3 := ex_l eL hA2
    generalize (upd (upd (upd H z (.lst [V.int 0])) c (.lst (ns.map V.int ++ [V.int 0]))) L (.lst xs)) = H1 at hL hA3 ⊢
    refine ⟨L, rfl, xs, .inl (.inl hL), ?_⟩
    refine lg_enum (xs := xs) (JO H1 a) ⟨none, none, rfl, Ex.refl H1⟩ (fun i σ' H' hi hP => by obtain ⟨_, _, _, e⟩ := hP; exact .inl (.inl (e _ _ hL)))
      (fun i x σ' H' T hx hP nT => ?_) (fun σ' H' hP => ?_)
    · obtain ⟨l1, l2, rfl, e⟩ := hP
      obtain ⟨n, rfl⟩ := hmem x (List.mem_of_getElem? hx)
      have hi := (List.getElem?_eq_some_iff.mp hx).1
      refine g_two upd_same ?_
      have eT := Ex.new nT (o := .tup [V.int i, V.int n])
      simp only [List.set_cons_zero, List.set_cons_succ]
      walk_at "sx"
      refine ⟨n, i, rfl, by omega, fun b H2 nb e2 hb => ?_⟩
      have nbH : H' b = none := fresh_back eT nb
      have e12 := (e.trans eT).trans e2
      refine ⟨sz_ok (by omega), fun z nz => ?_⟩
      have ez := Ex.new nz (o := .lst [])
      refine eqInts (ms := []) (ex_l (e12.trans ez) hA3) (.inl (.inl upd_same)) ?_
      have fin : ∀ mo : Nat, 1 ≤ mo → mo ≤ 12 → spHolds [.ref b, .int mo] (upd H2 z (.lst [])) (fun x H3 => ∃ k, x = V.bl k ∧ (if (!k) = true then Q (.bl false) H3 else JO H1 a (i + 1) [some (.ref a), some (.int i), some (.int n)] H3)) E0 := fun mo h1 h2 => by
        refine ⟨b, mo, 0, rfl, h1, h2, hb.ex ez, by omega, fun H3 f3 => ⟨true, rfl, ?_⟩⟩
        rw [if_neg (by decide)]
        exact ⟨_, _, rfl, e.trans (((Fx.of (eT.trans e2)).trans ((Fx.of ez).trans f3)).ex nbH)⟩
      refine ⟨_, rfl, ?_⟩
      cases decide (ns = [])
      · rw [if_neg (by decide)]
        exact fin 12 (by omega) (by omega)
      · rw [if_pos rfl]
        exact fin 4 (by omega) (by omega)
    · obtain ⟨l1, l2, rfl, e⟩ := hP
      walk_at "sx"
      exact k _
end
end LW

set_option Elab.async false
set_option linter.all false
set_option maxRecDepth 100000
set_option maxHeartbeats 4000000
namespace LW
open PySem PySem.Spec PyProof.Rows L2 BC Evl TR EF L2.DX
theorem all_mk {l : PySem.W.OpenLaw} {w : World} {K : PySem.W.Frag} {h : Heap} {mg : Str → Option Value} {fa : Addr} (X : K.In h) (G : h.Ns mainGlobals mg) (hfa : mg "law" = some (.ref fa))
    {X0 : Addr} {cdX0 : ClassData}
    {X1 : Addr} {cdX1 : ClassData}
    {C0 : Addr}
    {f0 : Addr} {od0 an0 : Option Addr} {sl0 : Array (Option Value)} {oc0 kV0 dc0 pm0 cd0 ct0 : Value}
    {f1 : Addr} {od1 an1 : Option Addr} {sl1 : Array (Option Value)} {oc1 kV1 dc1 pm1 cd1 ct1 : Value}
    {f2 : Addr} {od2 an2 : Option Addr} {sl2 : Array (Option Value)} {oc2 kV2 dc2 pm2 cd2 ct2 : Value}
    {f3 : Addr} {od3 an3 : Option Addr} {sl3 : Array (Option Value)} {oc3 kV3 dc3 pm3 cd3 ct3 : Value}
    {f4 : Addr} {od4 an4 : Option Addr} {sl4 : Array (Option Value)} {oc4 kV4 dc4 pm4 cd4 ct4 : Value}
    {f5 : Addr} {od5 an5 : Option Addr} {sl5 : Array (Option Value)} {oc5 kV5 dc5 pm5 cd5 ct5 : Value}
    {f6 : Addr} {od6 an6 : Option Addr} {sl6 : Array (Option Value)} {oc6 kV6 dc6 pm6 cd6 ct6 : Value}
    {f7 : Addr} {od7 an7 : Option Addr} {sl7 : Array (Option Value)} {oc7 kV7 dc7 pm7 cd7 ct7 : Value}
    {f8 : Addr} {od8 an8 : Option Addr} {sl8 : Array (Option Value)} {oc8 kV8 dc8 pm8 cd8 ct8 : Value}
    {f9 : Addr} {od9 an9 : Option Addr} {sl9 : Array (Option Value)} {oc9 kV9 dc9 pm9 cd9 ct9 : Value}
    {f10 : Addr} {od10 an10 : Option Addr} {sl10 : Array (Option Value)} {oc10 kV10 dc10 pm10 cd10 ct10 : Value}
    {f11 : Addr} {od11 an11 : Option Addr} {sl11 : Array (Option Value)} {oc11 kV11 dc11 pm11 cd11 ct11 : Value}
    {f12 : Addr} {od12 an12 : Option Addr} {sl12 : Array (Option Value)} {oc12 kV12 dc12 pm12 cd12 ct12 : Value}
    {f13 : Addr} {od13 an13 : Option Addr} {sl13 : Array (Option Value)} {oc13 kV13 dc13 pm13 cd13 ct13 : Value}
    {f14 : Addr} {od14 an14 : Option Addr} {sl14 : Array (Option Value)} {oc14 kV14 dc14 pm14 cd14 ct14 : Value}
    {f15 : Addr} {od15 an15 : Option Addr} {sl15 : Array (Option Value)} {oc15 kV15 dc15 pm15 cd15 ct15 : Value}
    {f16 : Addr} {od16 an16 : Option Addr} {sl16 : Array (Option Value)} {oc16 kV16 dc16 pm16 cd16 ct16 : Value}
    {f17 : Addr} {od17 an17 : Option Addr} {sl17 : Array (Option Value)} {oc17 kV17 dc17 pm17 cd17 ct17 : Value}
    {f18 : Addr} {od18 an18 : Option Addr} {sl18 : Array (Option Value)} {oc18 kV18 dc18 pm18 cd18 ct18 : Value}
    {f19 : Addr} {od19 an19 : Option Addr} {sl19 : Array (Option Value)} {oc19 kV19 dc19 pm19 cd19 ct19 : Value}
    {f20 : Addr} {od20 an20 : Option Addr} {sl20 : Array (Option Value)} {oc20 kV20 dc20 pm20 cd20 ct20 : Value}
    {f21 : Addr} {od21 an21 : Option Addr} {sl21 : Array (Option Value)} {oc21 kV21 dc21 pm21 cd21 ct21 : Value}
    {f22 : Addr} {od22 an22 : Option Addr} {sl22 : Array (Option Value)} {oc22 kV22 dc22 pm22 cd22 ct22 : Value}
    {f23 : Addr} {od23 an23 : Option Addr} {sl23 : Array (Option Value)} {oc23 kV23 dc23 pm23 cd23 ct23 : Value}
    {f24 : Addr} {od24 an24 : Option Addr} {sl24 : Array (Option Value)} {oc24 kV24 dc24 pm24 cd24 ct24 : Value}
    {f25 : Addr} {od25 an25 : Option Addr} {sl25 : Array (Option Value)} {oc25 kV25 dc25 pm25 cd25 ct25 : Value}
    {f26 : Addr} {od26 an26 : Option Addr} {sl26 : Array (Option Value)} {oc26 kV26 dc26 pm26 cd26 ct26 : Value}
    {f27 : Addr} {od27 an27 : Option Addr} {sl27 : Array (Option Value)} {oc27 kV27 dc27 pm27 cd27 ct27 : Value}
    {f28 : Addr} {od28 an28 : Option Addr} {sl28 : Array (Option Value)} {oc28 kV28 dc28 pm28 cd28 ct28 : Value}
    {f29 : Addr} {od29 an29 : Option Addr} {sl29 : Array (Option Value)} {oc29 kV29 dc29 pm29 cd29 ct29 : Value}
    {f30 : Addr} {od30 an30 : Option Addr} {sl30 : Array (Option Value)} {oc30 kV30 dc30 pm30 cd30 ct30 : Value}
    {f31 : Addr} {od31 an31 : Option Addr} {sl31 : Array (Option Value)} {oc31 kV31 dc31 pm31 cd31 ct31 : Value}
    {f32 : Addr} {od32 an32 : Option Addr} {sl32 : Array (Option Value)} {oc32 kV32 dc32 pm32 cd32 ct32 : Value}
    {f33 : Addr} {od33 an33 : Option Addr} {sl33 : Array (Option Value)} {oc33 kV33 dc33 pm33 cd33 ct33 : Value}
    {f34 : Addr} {od34 an34 : Option Addr} {sl34 : Array (Option Value)} {oc34 kV34 dc34 pm34 cd34 ct34 : Value}
    {f35 : Addr} {od35 an35 : Option Addr} {sl35 : Array (Option Value)} {oc35 kV35 dc35 pm35 cd35 ct35 : Value}
    {f36 : Addr} {od36 an36 : Option Addr} {sl36 : Array (Option Value)} {oc36 kV36 dc36 pm36 cd36 ct36 : Value}
    {f37 : Addr} {od37 an37 : Option Addr} {sl37 : Array (Option Value)} {oc37 kV37 dc37 pm37 cd37 ct37 : Value}
    {f38 : Addr} {od38 an38 : Option Addr} {sl38 : Array (Option Value)} {oc38 kV38 dc38 pm38 cd38 ct38 : Value}
    {f39 : Addr} {od39 an39 : Option Addr} {sl39 : Array (Option Value)} {oc39 kV39 dc39 pm39 cd39 ct39 : Value}
    {f40 : Addr} {od40 an40 : Option Addr} {sl40 : Array (Option Value)} {oc40 kV40 dc40 pm40 cd40 ct40 : Value}
    {f41 : Addr} {od41 an41 : Option Addr} {sl41 : Array (Option Value)} {oc41 kV41 dc41 pm41 cd41 ct41 : Value}
    {f42 : Addr} {od42 an42 : Option Addr} {sl42 : Array (Option Value)} {oc42 kV42 dc42 pm42 cd42 ct42 : Value}
    {f43 : Addr} {od43 an43 : Option Addr} {sl43 : Array (Option Value)} {oc43 kV43 dc43 pm43 cd43 ct43 : Value}
    {f44 : Addr} {od44 an44 : Option Addr} {sl44 : Array (Option Value)} {oc44 kV44 dc44 pm44 cd44 ct44 : Value}
    {f45 : Addr} {od45 an45 : Option Addr} {sl45 : Array (Option Value)} {oc45 kV45 dc45 pm45 cd45 ct45 : Value}
    {f46 : Addr} {od46 an46 : Option Addr} {sl46 : Array (Option Value)} {oc46 kV46 dc46 pm46 cd46 ct46 : Value}
    {f47 : Addr} {od47 an47 : Option Addr} {sl47 : Array (Option Value)} {oc47 kV47 dc47 pm47 cd47 ct47 : Value}
    {f48 : Addr} {od48 an48 : Option Addr} {sl48 : Array (Option Value)} {oc48 kV48 dc48 pm48 cd48 ct48 : Value}
    {f49 : Addr} {od49 an49 : Option Addr} {sl49 : Array (Option Value)} {oc49 kV49 dc49 pm49 cd49 ct49 : Value}
    {f50 : Addr} {od50 an50 : Option Addr} {sl50 : Array (Option Value)} {oc50 kV50 dc50 pm50 cd50 ct50 : Value}
    {f51 : Addr} {od51 an51 : Option Addr} {sl51 : Array (Option Value)} {oc51 kV51 dc51 pm51 cd51 ct51 : Value}
    {f52 : Addr} {od52 an52 : Option Addr} {sl52 : Array (Option Value)} {oc52 kV52 dc52 pm52 cd52 ct52 : Value}
    {p52 : Addr} {rest52 : List Value}
    {f53 : Addr} {od53 an53 : Option Addr} {sl53 : Array (Option Value)} {oc53 kV53 dc53 pm53 cd53 ct53 : Value}
    {p53 : Addr} {rest53 : List Value}
    {tt_DIGITS : Tok}
    {tt_MOST_DIGITS : Tok}
    {tt_MOST_PAGE : Tok}
    {tt_MOST_PAGES : Tok}
    {tt_MOST_STEPS : Tok}
    {tt_MOST_VISITS : Tok}
    {tt_NEXT : Tok}
    (xn : PySem.W.specialIn K (.builtin "object.__class__") "__get__" = some (some (.builtin "getset_descriptor.__get__"))) (xt : PySem.W.takesIn K (.builtin "object.__class__") = some true)
    (ax0 : PySem.W.nsIn K mainGlobals "BreadcrumbsError" = some (some (.ref X0)))
    (kx0 : PySem.W.keepIn K (.ref X0) = true)
    (xx0 : PySem.W.excIn K X0 [.type "ValueError", .type "Exception", .type "BaseException", .type "object"] "ValueError.__new__" = true)
    (gx0 : PySem.W.findIn K (.ref X0) "__getattribute__" = some (some (.builtin "BaseException.__getattribute__")))
    (hx0 : PySem.W.findIn K (.ref X0) "__getattr__" = some none)
    (bx0 : PySem.W.subIn K (.ref X0) (.type "BaseException") = some true)
    (dx0 : PySem.W.hasDictIn K X0 = true)
    (cx0 : PySem.W.findIn K (.ref X0) "__class__" = some (some (.builtin "object.__class__")))
    (mx0 : PySem.W.mroIn K X0 (.type "object") = some true)
    (tx0 : PySem.W.typeIn K (.ref X0) = some (.type "type"))
    (lx0 : PySem.W.clsIn K X0 = some cdX0)
    (rx0 : cdX0.mro = [X0].map Value.ref ++ HandSPX.veTail)
    (ax1 : PySem.W.nsIn K mainGlobals "InvalidEffectError" = some (some (.ref X1)))
    (kx1 : PySem.W.keepIn K (.ref X1) = true)
    (xx1 : PySem.W.excIn K X1 [.type "ValueError", .type "Exception", .type "BaseException", .type "object"] "ValueError.__new__" = true)
    (gx1 : PySem.W.findIn K (.ref X1) "__getattribute__" = some (some (.builtin "BaseException.__getattribute__")))
    (hx1 : PySem.W.findIn K (.ref X1) "__getattr__" = some none)
    (bx1 : PySem.W.subIn K (.ref X1) (.type "BaseException") = some true)
    (dx1 : PySem.W.hasDictIn K X1 = true)
    (cx1 : PySem.W.findIn K (.ref X1) "__class__" = some (some (.builtin "object.__class__")))
    (mx1 : PySem.W.mroIn K X1 (.type "object") = some true)
    (tx1 : PySem.W.typeIn K (.ref X1) = some (.type "type"))
    (lx1 : PySem.W.clsIn K X1 = some cdX1)
    (rx1 : cdX1.mro = [X1, X0].map Value.ref ++ HandSPX.veTail)
    (ndx : [X0, X1].Nodup)
    (aC0 : PySem.W.nsIn K mainGlobals "Effect" = some (some (.ref C0))) (pg0 : PySem.W.plainGet K C0 Str.empty = true) (hd0 : PySem.W.hasDictIn K C0 = true) (po0 : PySem.W.plainOver K C0 = true) (sa0 : PySem.W.findIn K (.ref C0) "__setattr__" = some (some (.builtin "object.__setattr__")))
    (ka0 : PySem.W.findIn K (.ref C0) "__class__" = some (some (.builtin "object.__class__")))
    (kn0 : PySem.W.specialIn K (.builtin "object.__class__") "__get__" = some (some (.builtin "getset_descriptor.__get__")))
    (kt0 : PySem.W.takesIn K (.builtin "object.__class__") = some true)
    (km0 : PySem.W.mroIn K C0 (.type "object") = some true)
    (ke0 : PySem.W.isClsIn K C0 = true)
    (kf0 : PySem.W.typeIn K (.ref C0) = some (.type "type"))
    (nf0_list : PySem.W.notFirst K C0 (.type "list") = true)
    (nf0_tuple : PySem.W.notFirst K C0 (.type "tuple") = true)
    (nf0_dict : PySem.W.notFirst K C0 (.type "dict") = true)
    (nf0_int : PySem.W.notFirst K C0 (.type "int") = true)
    (nf0_str : PySem.W.notFirst K C0 (.type "str") = true)
    (nf0_bool : PySem.W.notFirst K C0 (.type "bool") = true)
    (nf0_NoneType : PySem.W.notFirst K C0 (.type "NoneType") = true)
    (sf0 : PySem.W.selfFirst K C0 = true)
    (ob0 : PySem.W.subIn K (.ref C0) (.type "object") = some true)
    (on0 : PySem.W.findIn K (.ref C0) "__ne__" = some (some (.builtin "object.__ne__")))
    (na0_begin_page : PySem.W.findIn K (.ref C0) "begin_page" = some none)
    (na0_pairs : PySem.W.findIn K (.ref C0) "pairs" = some none)
    (na0_exit_of : PySem.W.findIn K (.ref C0) "exit_of" = some none)
    (a0 : PySem.W.nsIn K mainGlobals "is_integer" = some (some (.ref f0))) (l0 : K.lookup f0 = some ⟨oc0, od0, .func (PySem.W.fnOf "is_integer" "is_integer" (defArgs s_is_integer) (defBody s_is_integer) (defScope s_is_integer) .none kV0 dc0 pm0 an0 cd0 ct0), sl0⟩) (c0 : PySem.W.codeIn K cd0 "is_integer" = true) (k0 : PySem.W.keepIn K (.ref f0) = true)
    (a1 : PySem.W.nsIn K mainGlobals "is_row" = some (some (.ref f1))) (l1 : K.lookup f1 = some ⟨oc1, od1, .func (PySem.W.fnOf "is_row" "is_row" (defArgs s_is_row) (defBody s_is_row) (defScope s_is_row) .none kV1 dc1 pm1 an1 cd1 ct1), sl1⟩) (c1 : PySem.W.codeIn K cd1 "is_row" = true) (k1 : PySem.W.keepIn K (.ref f1) = true)
    (a2 : PySem.W.nsIn K mainGlobals "is_site" = some (some (.ref f2))) (l2 : K.lookup f2 = some ⟨oc2, od2, .func (PySem.W.fnOf "is_site" "is_site" (defArgs s_is_site) (defBody s_is_site) (defScope s_is_site) .none kV2 dc2 pm2 an2 cd2 ct2), sl2⟩) (c2 : PySem.W.codeIn K cd2 "is_site" = true) (k2 : PySem.W.keepIn K (.ref f2) = true)
    (a3 : PySem.W.nsIn K mainGlobals "check_site" = some (some (.ref f3))) (l3 : K.lookup f3 = some ⟨oc3, od3, .func (PySem.W.fnOf "check_site" "check_site" (defArgs s_check_site) (defBody s_check_site) (defScope s_check_site) .none kV3 dc3 pm3 an3 cd3 ct3), sl3⟩) (c3 : PySem.W.codeIn K cd3 "check_site" = true) (k3 : PySem.W.keepIn K (.ref f3) = true)
    (a4 : PySem.W.nsIn K mainGlobals "check_page" = some (some (.ref f4))) (l4 : K.lookup f4 = some ⟨oc4, od4, .func (PySem.W.fnOf "check_page" "check_page" (defArgs s_check_page) (defBody s_check_page) (defScope s_check_page) .none kV4 dc4 pm4 an4 cd4 ct4), sl4⟩) (c4 : PySem.W.codeIn K cd4 "check_page" = true) (k4 : PySem.W.keepIn K (.ref f4) = true)
    (a5 : PySem.W.nsIn K mainGlobals "check_pages" = some (some (.ref f5))) (l5 : K.lookup f5 = some ⟨oc5, od5, .func (PySem.W.fnOf "check_pages" "check_pages" (defArgs s_check_pages) (defBody s_check_pages) (defScope s_check_pages) .none kV5 dc5 pm5 an5 cd5 ct5), sl5⟩) (c5 : PySem.W.codeIn K cd5 "check_pages" = true) (k5 : PySem.W.keepIn K (.ref f5) = true)
    (a6 : PySem.W.nsIn K mainGlobals "is_linked_on" = some (some (.ref f6))) (l6 : K.lookup f6 = some ⟨oc6, od6, .func (PySem.W.fnOf "is_linked_on" "is_linked_on" (defArgs s_is_linked_on) (defBody s_is_linked_on) (defScope s_is_linked_on) .none kV6 dc6 pm6 an6 cd6 ct6), sl6⟩) (c6 : PySem.W.codeIn K cd6 "is_linked_on" = true) (k6 : PySem.W.keepIn K (.ref f6) = true)
    (a7 : PySem.W.nsIn K mainGlobals "is_walk_on" = some (some (.ref f7))) (l7 : K.lookup f7 = some ⟨oc7, od7, .func (PySem.W.fnOf "is_walk_on" "is_walk_on" (defArgs s_is_walk_on) (defBody s_is_walk_on) (defScope s_is_walk_on) .none kV7 dc7 pm7 an7 cd7 ct7), sl7⟩) (c7 : PySem.W.codeIn K cd7 "is_walk_on" = true) (k7 : PySem.W.keepIn K (.ref f7) = true)
    (a8 : PySem.W.nsIn K mainGlobals "is_trail_on" = some (some (.ref f8))) (l8 : K.lookup f8 = some ⟨oc8, od8, .func (PySem.W.fnOf "is_trail_on" "is_trail_on" (defArgs s_is_trail_on) (defBody s_is_trail_on) (defScope s_is_trail_on) .none kV8 dc8 pm8 an8 cd8 ct8), sl8⟩) (c8 : PySem.W.codeIn K cd8 "is_trail_on" = true) (k8 : PySem.W.keepIn K (.ref f8) = true)
    (a9 : PySem.W.nsIn K mainGlobals "is_walk" = some (some (.ref f9))) (l9 : K.lookup f9 = some ⟨oc9, od9, .func (PySem.W.fnOf "is_walk" "is_walk" (defArgs s_is_walk) (defBody s_is_walk) (defScope s_is_walk) .none kV9 dc9 pm9 an9 cd9 ct9), sl9⟩) (c9 : PySem.W.codeIn K cd9 "is_walk" = true) (k9 : PySem.W.keepIn K (.ref f9) = true)
    (a10 : PySem.W.nsIn K mainGlobals "is_trail_of" = some (some (.ref f10))) (l10 : K.lookup f10 = some ⟨oc10, od10, .func (PySem.W.fnOf "is_trail_of" "is_trail_of" (defArgs s_is_trail_of) (defBody s_is_trail_of) (defScope s_is_trail_of) .none kV10 dc10 pm10 an10 cd10 ct10), sl10⟩) (c10 : PySem.W.codeIn K cd10 "is_trail_of" = true) (k10 : PySem.W.keepIn K (.ref f10) = true)
    (a11 : PySem.W.nsIn K mainGlobals "links_into" = some (some (.ref f11))) (l11 : K.lookup f11 = some ⟨oc11, od11, .func (PySem.W.fnOf "links_into" "links_into" (defArgs s_links_into) (defBody s_links_into) (defScope s_links_into) .none kV11 dc11 pm11 an11 cd11 ct11), sl11⟩) (c11 : PySem.W.codeIn K cd11 "links_into" = true) (k11 : PySem.W.keepIn K (.ref f11) = true)
    (a12 : PySem.W.nsIn K mainGlobals "reached_from" = some (some (.ref f12))) (l12 : K.lookup f12 = some ⟨oc12, od12, .func (PySem.W.fnOf "reached_from" "reached_from" (defArgs s_reached_from) (defBody s_reached_from) (defScope s_reached_from) .none kV12 dc12 pm12 an12 cd12 ct12), sl12⟩) (c12 : PySem.W.codeIn K cd12 "reached_from" = true) (k12 : PySem.W.keepIn K (.ref f12) = true)
    (a13 : PySem.W.nsIn K mainGlobals "reversed_rows" = some (some (.ref f13))) (l13 : K.lookup f13 = some ⟨oc13, od13, .func (PySem.W.fnOf "reversed_rows" "reversed_rows" (defArgs s_reversed_rows) (defBody s_reversed_rows) (defScope s_reversed_rows) .none kV13 dc13 pm13 an13 cd13 ct13), sl13⟩) (c13 : PySem.W.codeIn K cd13 "reversed_rows" = true) (k13 : PySem.W.keepIn K (.ref f13) = true)
    (a14 : PySem.W.nsIn K mainGlobals "is_two_way" = some (some (.ref f14))) (l14 : K.lookup f14 = some ⟨oc14, od14, .func (PySem.W.fnOf "is_two_way" "is_two_way" (defArgs s_is_two_way) (defBody s_is_two_way) (defScope s_is_two_way) .none kV14 dc14 pm14 an14 cd14 ct14), sl14⟩) (c14 : PySem.W.codeIn K cd14 "is_two_way" = true) (k14 : PySem.W.keepIn K (.ref f14) = true)
    (a15 : PySem.W.nsIn K mainGlobals "reversed_site" = some (some (.ref f15))) (l15 : K.lookup f15 = some ⟨oc15, od15, .func (PySem.W.fnOf "reversed_site" "reversed_site" (defArgs s_reversed_site) (defBody s_reversed_site) (defScope s_reversed_site) .none kV15 dc15 pm15 an15 cd15 ct15), sl15⟩) (c15 : PySem.W.codeIn K cd15 "reversed_site" = true) (k15 : PySem.W.keepIn K (.ref f15) = true)
    (a16 : PySem.W.nsIn K mainGlobals "site_without" = some (some (.ref f16))) (l16 : K.lookup f16 = some ⟨oc16, od16, .func (PySem.W.fnOf "site_without" "site_without" (defArgs s_site_without) (defBody s_site_without) (defScope s_site_without) .none kV16 dc16 pm16 an16 cd16 ct16), sl16⟩) (c16 : PySem.W.codeIn K cd16 "site_without" = true) (k16 : PySem.W.keepIn K (.ref f16) = true)
    (a17 : PySem.W.nsIn K mainGlobals "is_page" = some (some (.ref f17))) (l17 : K.lookup f17 = some ⟨oc17, od17, .func (PySem.W.fnOf "is_page" "is_page" (defArgs s_is_page) (defBody s_is_page) (defScope s_is_page) .none kV17 dc17 pm17 an17 cd17 ct17), sl17⟩) (c17 : PySem.W.codeIn K cd17 "is_page" = true) (k17 : PySem.W.keepIn K (.ref f17) = true)
    (a18 : PySem.W.nsIn K mainGlobals "is_visits" = some (some (.ref f18))) (l18 : K.lookup f18 = some ⟨oc18, od18, .func (PySem.W.fnOf "is_visits" "is_visits" (defArgs s_is_visits) (defBody s_is_visits) (defScope s_is_visits) .none kV18 dc18 pm18 an18 cd18 ct18), sl18⟩) (c18 : PySem.W.codeIn K cd18 "is_visits" = true) (k18 : PySem.W.keepIn K (.ref f18) = true)
    (a19 : PySem.W.nsIn K mainGlobals "is_trail" = some (some (.ref f19))) (l19 : K.lookup f19 = some ⟨oc19, od19, .func (PySem.W.fnOf "is_trail" "is_trail" (defArgs s_is_trail) (defBody s_is_trail) (defScope s_is_trail) .none kV19 dc19 pm19 an19 cd19 ct19), sl19⟩) (c19 : PySem.W.codeIn K cd19 "is_trail" = true) (k19 : PySem.W.keepIn K (.ref f19) = true)
    (a20 : PySem.W.nsIn K mainGlobals "check_visits" = some (some (.ref f20))) (l20 : K.lookup f20 = some ⟨oc20, od20, .func (PySem.W.fnOf "check_visits" "check_visits" (defArgs s_check_visits) (defBody s_check_visits) (defScope s_check_visits) .none kV20 dc20 pm20 an20 cd20 ct20), sl20⟩) (c20 : PySem.W.codeIn K cd20 "check_visits" = true) (k20 : PySem.W.keepIn K (.ref f20) = true)
    (a21 : PySem.W.nsIn K mainGlobals "check_trail" = some (some (.ref f21))) (l21 : K.lookup f21 = some ⟨oc21, od21, .func (PySem.W.fnOf "check_trail" "check_trail" (defArgs s_check_trail) (defBody s_check_trail) (defScope s_check_trail) .none kV21 dc21 pm21 an21 cd21 ct21), sl21⟩) (c21 : PySem.W.codeIn K cd21 "check_trail" = true) (k21 : PySem.W.keepIn K (.ref f21) = true)
    (a22 : PySem.W.nsIn K mainGlobals "visited" = some (some (.ref f22))) (l22 : K.lookup f22 = some ⟨oc22, od22, .func (PySem.W.fnOf "visited" "visited" (defArgs s_visited) (defBody s_visited) (defScope s_visited) .none kV22 dc22 pm22 an22 cd22 ct22), sl22⟩) (c22 : PySem.W.codeIn K cd22 "visited" = true) (k22 : PySem.W.keepIn K (.ref f22) = true)
    (a23 : PySem.W.nsIn K mainGlobals "exits_in" = some (some (.ref f23))) (l23 : K.lookup f23 = some ⟨oc23, od23, .func (PySem.W.fnOf "exits_in" "exits_in" (defArgs s_exits_in) (defBody s_exits_in) (defScope s_exits_in) .none kV23 dc23 pm23 an23 cd23 ct23), sl23⟩) (c23 : PySem.W.codeIn K cd23 "exits_in" = true) (k23 : PySem.W.keepIn K (.ref f23) = true)
    (a24 : PySem.W.nsIn K mainGlobals "is_pair" = some (some (.ref f24))) (l24 : K.lookup f24 = some ⟨oc24, od24, .func (PySem.W.fnOf "is_pair" "is_pair" (defArgs s_is_pair) (defBody s_is_pair) (defScope s_is_pair) .none kV24 dc24 pm24 an24 cd24 ct24), sl24⟩) (c24 : PySem.W.codeIn K cd24 "is_pair" = true) (k24 : PySem.W.keepIn K (.ref f24) = true)
    (a25 : PySem.W.nsIn K mainGlobals "leads_to_root" = some (some (.ref f25))) (l25 : K.lookup f25 = some ⟨oc25, od25, .func (PySem.W.fnOf "leads_to_root" "leads_to_root" (defArgs s_leads_to_root) (defBody s_leads_to_root) (defScope s_leads_to_root) .none kV25 dc25 pm25 an25 cd25 ct25), sl25⟩) (c25 : PySem.W.codeIn K cd25 "leads_to_root" = true) (k25 : PySem.W.keepIn K (.ref f25) = true)
    (a26 : PySem.W.nsIn K mainGlobals "are_exits" = some (some (.ref f26))) (l26 : K.lookup f26 = some ⟨oc26, od26, .func (PySem.W.fnOf "are_exits" "are_exits" (defArgs s_are_exits) (defBody s_are_exits) (defScope s_are_exits) .none kV26 dc26 pm26 an26 cd26 ct26), sl26⟩) (c26 : PySem.W.codeIn K cd26 "are_exits" = true) (k26 : PySem.W.keepIn K (.ref f26) = true)
    (a27 : PySem.W.nsIn K mainGlobals "check_effect" = some (some (.ref f27))) (l27 : K.lookup f27 = some ⟨oc27, od27, .func (PySem.W.fnOf "check_effect" "check_effect" (defArgs s_check_effect) (defBody s_check_effect) (defScope s_check_effect) .none kV27 dc27 pm27 an27 cd27 ct27), sl27⟩) (c27 : PySem.W.codeIn K cd27 "check_effect" = true) (k27 : PySem.W.keepIn K (.ref f27) = true)
    (a28 : PySem.W.nsIn K mainGlobals "effect_in" = some (some (.ref f28))) (l28 : K.lookup f28 = some ⟨oc28, od28, .func (PySem.W.fnOf "effect_in" "effect_in" (defArgs s_effect_in) (defBody s_effect_in) (defScope s_effect_in) .none kV28 dc28 pm28 an28 cd28 ct28), sl28⟩) (c28 : PySem.W.codeIn K cd28 "effect_in" = true) (k28 : PySem.W.keepIn K (.ref f28) = true)
    (a29 : PySem.W.nsIn K mainGlobals "effect_of" = some (some (.ref f29))) (l29 : K.lookup f29 = some ⟨oc29, od29, .func (PySem.W.fnOf "effect_of" "effect_of" (defArgs s_effect_of) (defBody s_effect_of) (defScope s_effect_of) .none kV29 dc29 pm29 an29 cd29 ct29), sl29⟩) (c29 : PySem.W.codeIn K cd29 "effect_of" = true) (k29 : PySem.W.keepIn K (.ref f29) = true)
    (a30 : PySem.W.nsIn K mainGlobals "number_in" = some (some (.ref f30))) (l30 : K.lookup f30 = some ⟨oc30, od30, .func (PySem.W.fnOf "number_in" "number_in" (defArgs s_number_in) (defBody s_number_in) (defScope s_number_in) .none kV30 dc30 pm30 an30 cd30 ct30), sl30⟩) (c30 : PySem.W.codeIn K cd30 "number_in" = true) (k30 : PySem.W.keepIn K (.ref f30) = true)
    (a31 : PySem.W.nsIn K mainGlobals "check_string" = some (some (.ref f31))) (l31 : K.lookup f31 = some ⟨oc31, od31, .func (PySem.W.fnOf "check_string" "check_string" (defArgs s_check_string) (defBody s_check_string) (defScope s_check_string) .none kV31 dc31 pm31 an31 cd31 ct31), sl31⟩) (c31 : PySem.W.codeIn K cd31 "check_string" = true) (k31 : PySem.W.keepIn K (.ref f31) = true)
    (a32 : PySem.W.nsIn K mainGlobals "format_site" = some (some (.ref f32))) (l32 : K.lookup f32 = some ⟨oc32, od32, .func (PySem.W.fnOf "format_site" "format_site" (defArgs s_format_site) (defBody s_format_site) (defScope s_format_site) .none kV32 dc32 pm32 an32 cd32 ct32), sl32⟩) (c32 : PySem.W.codeIn K cd32 "format_site" = true) (k32 : PySem.W.keepIn K (.ref f32) = true)
    (a33 : PySem.W.nsIn K mainGlobals "parse_site" = some (some (.ref f33))) (l33 : K.lookup f33 = some ⟨oc33, od33, .func (PySem.W.fnOf "parse_site" "parse_site" (defArgs s_parse_site) (defBody s_parse_site) (defScope s_parse_site) .none kV33 dc33 pm33 an33 cd33 ct33), sl33⟩) (c33 : PySem.W.codeIn K cd33 "parse_site" = true) (k33 : PySem.W.keepIn K (.ref f33) = true)
    (a34 : PySem.W.nsIn K mainGlobals "trail_string" = some (some (.ref f34))) (l34 : K.lookup f34 = some ⟨oc34, od34, .func (PySem.W.fnOf "trail_string" "trail_string" (defArgs s_trail_string) (defBody s_trail_string) (defScope s_trail_string) .none kV34 dc34 pm34 an34 cd34 ct34), sl34⟩) (c34 : PySem.W.codeIn K cd34 "trail_string" = true) (k34 : PySem.W.keepIn K (.ref f34) = true)
    (a35 : PySem.W.nsIn K mainGlobals "format_trail" = some (some (.ref f35))) (l35 : K.lookup f35 = some ⟨oc35, od35, .func (PySem.W.fnOf "format_trail" "format_trail" (defArgs s_format_trail) (defBody s_format_trail) (defScope s_format_trail) .none kV35 dc35 pm35 an35 cd35 ct35), sl35⟩) (c35 : PySem.W.codeIn K cd35 "format_trail" = true) (k35 : PySem.W.keepIn K (.ref f35) = true)
    (a36 : PySem.W.nsIn K mainGlobals "parse_trail" = some (some (.ref f36))) (l36 : K.lookup f36 = some ⟨oc36, od36, .func (PySem.W.fnOf "parse_trail" "parse_trail" (defArgs s_parse_trail) (defBody s_parse_trail) (defScope s_parse_trail) .none kV36 dc36 pm36 an36 cd36 ct36), sl36⟩) (c36 : PySem.W.codeIn K cd36 "parse_trail" = true) (k36 : PySem.W.keepIn K (.ref f36) = true)
    (a37 : PySem.W.nsIn K mainGlobals "format_effect" = some (some (.ref f37))) (l37 : K.lookup f37 = some ⟨oc37, od37, .func (PySem.W.fnOf "format_effect" "format_effect" (defArgs s_format_effect) (defBody s_format_effect) (defScope s_format_effect) .none kV37 dc37 pm37 an37 cd37 ct37), sl37⟩) (c37 : PySem.W.codeIn K cd37 "format_effect" = true) (k37 : PySem.W.keepIn K (.ref f37) = true)
    (a38 : PySem.W.nsIn K mainGlobals "parse_effect" = some (some (.ref f38))) (l38 : K.lookup f38 = some ⟨oc38, od38, .func (PySem.W.fnOf "parse_effect" "parse_effect" (defArgs s_parse_effect) (defBody s_parse_effect) (defScope s_parse_effect) .none kV38 dc38 pm38 an38 cd38 ct38), sl38⟩) (c38 : PySem.W.codeIn K cd38 "parse_effect" = true) (k38 : PySem.W.keepIn K (.ref f38) = true)
    (a39 : PySem.W.nsIn K mainGlobals "listed" = some (some (.ref f39))) (l39 : K.lookup f39 = some ⟨oc39, od39, .func (PySem.W.fnOf "listed" "listed" (defArgs s_listed) (defBody s_listed) (defScope s_listed) .none kV39 dc39 pm39 an39 cd39 ct39), sl39⟩) (c39 : PySem.W.codeIn K cd39 "listed" = true) (k39 : PySem.W.keepIn K (.ref f39) = true)
    (a40 : PySem.W.nsIn K mainGlobals "_law_source" = some (some (.ref f40))) (l40 : K.lookup f40 = some ⟨oc40, od40, .func (PySem.W.fnOf "_law_source" "_law_source" (defArgs s_law_source) (defBody s_law_source) (defScope s_law_source) .none kV40 dc40 pm40 an40 cd40 ct40), sl40⟩) (c40 : PySem.W.codeIn K cd40 "_law_source" = true) (k40 : PySem.W.keepIn K (.ref f40) = true)
    (a41 : PySem.W.nsIn K mainGlobals "_law_draw" = some (some (.ref f41))) (l41 : K.lookup f41 = some ⟨oc41, od41, .func (PySem.W.fnOf "_law_draw" "_law_draw" (defArgs s_law_draw) (defBody s_law_draw) (defScope s_law_draw) .none kV41 dc41 pm41 an41 cd41 ct41), sl41⟩) (c41 : PySem.W.codeIn K cd41 "_law_draw" = true) (k41 : PySem.W.keepIn K (.ref f41) = true)
    (a42 : PySem.W.nsIn K mainGlobals "_law_net" = some (some (.ref f42))) (l42 : K.lookup f42 = some ⟨oc42, od42, .func (PySem.W.fnOf "_law_net" "_law_net" (defArgs s_law_net) (defBody s_law_net) (defScope s_law_net) .none kV42 dc42 pm42 an42 cd42 ct42), sl42⟩) (c42 : PySem.W.codeIn K cd42 "_law_net" = true) (k42 : PySem.W.keepIn K (.ref f42) = true)
    (a43 : PySem.W.nsIn K mainGlobals "_law_stroll" = some (some (.ref f43))) (l43 : K.lookup f43 = some ⟨oc43, od43, .func (PySem.W.fnOf "_law_stroll" "_law_stroll" (defArgs s_law_stroll) (defBody s_law_stroll) (defScope s_law_stroll) .none kV43 dc43 pm43 an43 cd43 ct43), sl43⟩) (c43 : PySem.W.codeIn K cd43 "_law_stroll" = true) (k43 : PySem.W.keepIn K (.ref f43) = true)
    (a44 : PySem.W.nsIn K mainGlobals "_law_some" = some (some (.ref f44))) (l44 : K.lookup f44 = some ⟨oc44, od44, .func (PySem.W.fnOf "_law_some" "_law_some" (defArgs s_law_some) (defBody s_law_some) (defScope s_law_some) .none kV44 dc44 pm44 an44 cd44 ct44), sl44⟩) (c44 : PySem.W.codeIn K cd44 "_law_some" = true) (k44 : PySem.W.keepIn K (.ref f44) = true)
    (a45 : PySem.W.nsIn K mainGlobals "_law_visits" = some (some (.ref f45))) (l45 : K.lookup f45 = some ⟨oc45, od45, .func (PySem.W.fnOf "_law_visits" "_law_visits" (defArgs s_law_visits) (defBody s_law_visits) (defScope s_law_visits) .none kV45 dc45 pm45 an45 cd45 ct45), sl45⟩) (c45 : PySem.W.codeIn K cd45 "_law_visits" = true) (k45 : PySem.W.keepIn K (.ref f45) = true)
    (a46 : PySem.W.nsIn K mainGlobals "_law_trail" = some (some (.ref f46))) (l46 : K.lookup f46 = some ⟨oc46, od46, .func (PySem.W.fnOf "_law_trail" "_law_trail" (defArgs s_law_trail) (defBody s_law_trail) (defScope s_law_trail) .none kV46 dc46 pm46 an46 cd46 ct46), sl46⟩) (c46 : PySem.W.codeIn K cd46 "_law_trail" = true) (k46 : PySem.W.keepIn K (.ref f46) = true)
    (a47 : PySem.W.nsIn K mainGlobals "_law_by_keyword" = some (some (.ref f47))) (l47 : K.lookup f47 = some ⟨oc47, od47, .func (PySem.W.fnOf "_law_by_keyword" "_law_by_keyword" (defArgs s_law_by_keyword) (defBody s_law_by_keyword) (defScope s_law_by_keyword) .none kV47 dc47 pm47 an47 cd47 ct47), sl47⟩) (c47 : PySem.W.codeIn K cd47 "_law_by_keyword" = true) (k47 : PySem.W.keepIn K (.ref f47) = true)
    (a48 : PySem.W.nsIn K mainGlobals "_law_by_position" = some (some (.ref f48))) (l48 : K.lookup f48 = some ⟨oc48, od48, .func (PySem.W.fnOf "_law_by_position" "_law_by_position" (defArgs s_law_by_position) (defBody s_law_by_position) (defScope s_law_by_position) .none kV48 dc48 pm48 an48 cd48 ct48), sl48⟩) (c48 : PySem.W.codeIn K cd48 "_law_by_position" = true) (k48 : PySem.W.keepIn K (.ref f48) = true)
    (a49 : PySem.W.nsIn K mainGlobals "_law_holds" = some (some (.ref f49))) (l49 : K.lookup f49 = some ⟨oc49, od49, .func (PySem.W.fnOf "_law_holds" "_law_holds" (defArgs s_law_holds) (defBody s_law_holds) (defScope s_law_holds) .none kV49 dc49 pm49 an49 cd49 ct49), sl49⟩) (c49 : PySem.W.codeIn K cd49 "_law_holds" = true) (k49 : PySem.W.keepIn K (.ref f49) = true)
    (a50 : PySem.W.nsIn K mainGlobals "law" = some (some (.ref f50))) (l50 : K.lookup f50 = some ⟨oc50, od50, .func (PySem.W.fnOf "law" "law" (defArgs s_law) (defBody s_law) (defScope s_law) .none kV50 dc50 pm50 an50 cd50 ct50), sl50⟩) (c50 : PySem.W.codeIn K cd50 "law" = true) (k50 : PySem.W.keepIn K (.ref f50) = true)
    (a51 : PySem.W.findIn K (.ref C0) "__init__" = some (some (.ref f51))) (i51 : PySem.W.isFn K (.ref f51) = true) (l51 : K.lookup f51 = some ⟨oc51, od51, .func (PySem.W.fnOf "__init__" "Effect.__init__" (defArgs s_Effect___init) (defBody s_Effect___init) (defScope s_Effect___init) .none kV51 dc51 pm51 an51 cd51 ct51), sl51⟩) (c51 : PySem.W.codeIn K cd51 "Effect.__init__" = true) (k51 : PySem.W.keepIn K (.ref f51) = true)
    (mk0 : PySem.W.makesIn K C0 = true) (kc0 : PySem.W.keepIn K (.ref C0) = true)
    (a52 : PySem.W.findIn K (.ref C0) "first" = some (some (.ref p52))) (g52 : PySem.W.specialIn K (.ref p52) "__get__" = some (some (.builtin "property.__get__"))) (t52 : PySem.W.takesIn K (.ref p52) = some true) (r52 : PySem.W.recIn K p52 "property" = some (.ref f52 :: rest52)) (l52 : K.lookup f52 = some ⟨oc52, od52, .func (PySem.W.fnOf "first" "Effect.first" (defArgs s_Effect_first) (defBody s_Effect_first) (defScope s_Effect_first) .none kV52 dc52 pm52 an52 cd52 ct52), sl52⟩) (c52 : PySem.W.codeIn K cd52 "Effect.first" = true) (k52 : PySem.W.keepIn K (.ref f52) = true)
    (a53 : PySem.W.findIn K (.ref C0) "exits" = some (some (.ref p53))) (g53 : PySem.W.specialIn K (.ref p53) "__get__" = some (some (.builtin "property.__get__"))) (t53 : PySem.W.takesIn K (.ref p53) = some true) (r53 : PySem.W.recIn K p53 "property" = some (.ref f53 :: rest53)) (l53 : K.lookup f53 = some ⟨oc53, od53, .func (PySem.W.fnOf "exits" "Effect.exits" (defArgs s_Effect_exits) (defBody s_Effect_exits) (defScope s_Effect_exits) .none kV53 dc53 pm53 an53 cd53 ct53), sl53⟩) (c53 : PySem.W.codeIn K cd53 "Effect.exits" = true) (k53 : PySem.W.keepIn K (.ref f53) = true)
    (q_DIGITS : PySem.W.nsIn K mainGlobals "DIGITS" = some (some (.str "0123456789" tt_DIGITS)))
    (q_MOST_DIGITS : PySem.W.nsIn K mainGlobals "MOST_DIGITS" = some (some (.int 2 tt_MOST_DIGITS)))
    (q_MOST_PAGE : PySem.W.nsIn K mainGlobals "MOST_PAGE" = some (some (.int 39 tt_MOST_PAGE)))
    (q_MOST_PAGES : PySem.W.nsIn K mainGlobals "MOST_PAGES" = some (some (.int 12 tt_MOST_PAGES)))
    (q_MOST_STEPS : PySem.W.nsIn K mainGlobals "MOST_STEPS" = some (some (.int 60 tt_MOST_STEPS)))
    (q_MOST_VISITS : PySem.W.nsIn K mainGlobals "MOST_VISITS" = some (some (.int 300 tt_MOST_VISITS)))
    (q_NEXT : PySem.W.nsIn K mainGlobals "NEXT" = some (some (.str " > " tt_NEXT)))
    (qd : PySem.W.nsIn K cStatics "sys.int_max_str_digits" = some none)
    (z_abs : PySem.W.nsIn K mainGlobals "abs" = some none)
    (z_all : PySem.W.nsIn K mainGlobals "all" = some none)
    (z_any : PySem.W.nsIn K mainGlobals "any" = some none)
    (z_bool : PySem.W.nsIn K mainGlobals "bool" = some none)
    (z_dict : PySem.W.nsIn K mainGlobals "dict" = some none)
    (z_enumerate : PySem.W.nsIn K mainGlobals "enumerate" = some none)
    (z_int : PySem.W.nsIn K mainGlobals "int" = some none)
    (z_isinstance : PySem.W.nsIn K mainGlobals "isinstance" = some none)
    (z_len : PySem.W.nsIn K mainGlobals "len" = some none)
    (z_list : PySem.W.nsIn K mainGlobals "list" = some none)
    (z_max : PySem.W.nsIn K mainGlobals "max" = some none)
    (z_min : PySem.W.nsIn K mainGlobals "min" = some none)
    (z_range : PySem.W.nsIn K mainGlobals "range" = some none)
    (z_repr : PySem.W.nsIn K mainGlobals "repr" = some none)
    (z_set : PySem.W.nsIn K mainGlobals "set" = some none)
    (z_sorted : PySem.W.nsIn K mainGlobals "sorted" = some none)
    (z_str : PySem.W.nsIn K mainGlobals "str" = some none)
    (z_tuple : PySem.W.nsIn K mainGlobals "tuple" = some none)
    (z_zip : PySem.W.nsIn K mainGlobals "zip" = some none) :
    ∃ fd : FuncData, (∀ (s : Shared) (v : Value), BindsTo s fd ⟨[v], []⟩ [("_law_script", v)]) ∧ ∀ base : Heap, K.In base → base.Ns mainGlobals mg → FnG l.prog w K mg base CX0 11 fa fd ["_law_script"] (spLaw K) := by
  have e := hfa.symm.trans (PySem.W.mg_of X G a50)
  cases e
  let T : Txt K mg := ⟨X0, PySem.W.mg_of X G ax0, kx0, xx0, ⟨gx0, hx0, bx0, dx0, cx0, xn, xt, mx0⟩, tx0, bx0, ⟨cdX0, lx0, rx0⟩,
    X1, PySem.W.mg_of X G ax1, kx1, xx1, ⟨gx1, hx1, bx1, dx1, cx1, xn, xt, mx1⟩, tx1, bx1, ⟨cdX1, lx1, rx1⟩,
    ndx,
    C0, ⟨pg0, hd0, po0, sa0⟩, PySem.W.mg_of X G aC0,
    ⟨⟨pg0, hd0, po0, sa0⟩, ka0, kn0, kt0, km0, ke0, kf0, nf0_list, nf0_tuple, nf0_dict, nf0_int, nf0_str, nf0_bool, nf0_NoneType, sf0, ob0, on0⟩,
    na0_begin_page,
    na0_pairs,
    na0_exit_of,
    f0, _, fun_mk (st := s_is_integer) l0 c0 k0, PySem.W.mg_of X G a0, (fun_mk (st := s_is_integer) l0 c0 k0).binds fun _ _ _ _ _ _ us hl => match us, hl with | [_, _, _], _ => rfl,
    f1, _, fun_mk (st := s_is_row) l1 c1 k1, PySem.W.mg_of X G a1, (fun_mk (st := s_is_row) l1 c1 k1).binds fun _ _ _ _ _ _ us hl => match us, hl with | [_, _, _], _ => rfl,
    f2, _, fun_mk (st := s_is_site) l2 c2 k2, PySem.W.mg_of X G a2, (fun_mk (st := s_is_site) l2 c2 k2).binds fun _ _ _ _ _ _ us hl => match us, hl with | [_], _ => rfl,
    f3, _, fun_mk (st := s_check_site) l3 c3 k3, PySem.W.mg_of X G a3, (fun_mk (st := s_check_site) l3 c3 k3).binds fun _ _ _ _ _ _ us hl => match us, hl with | [_], _ => rfl,
    f4, _, fun_mk (st := s_check_page) l4 c4 k4, PySem.W.mg_of X G a4, (fun_mk (st := s_check_page) l4 c4 k4).binds fun _ _ _ _ _ _ us hl => match us, hl with | [_, _], _ => rfl,
    f5, _, fun_mk (st := s_check_pages) l5 c5 k5, PySem.W.mg_of X G a5, (fun_mk (st := s_check_pages) l5 c5 k5).binds fun _ _ _ _ _ _ us hl => match us, hl with | [_, _], _ => rfl,
    f6, _, fun_mk (st := s_is_linked_on) l6 c6 k6, PySem.W.mg_of X G a6, (fun_mk (st := s_is_linked_on) l6 c6 k6).binds fun _ _ _ _ _ _ us hl => match us, hl with | [_, _], _ => rfl,
    f7, _, fun_mk (st := s_is_walk_on) l7 c7 k7, PySem.W.mg_of X G a7, (fun_mk (st := s_is_walk_on) l7 c7 k7).binds fun _ _ _ _ _ _ us hl => match us, hl with | [_, _], _ => rfl,
    f8, _, fun_mk (st := s_is_trail_on) l8 c8 k8, PySem.W.mg_of X G a8, (fun_mk (st := s_is_trail_on) l8 c8 k8).binds fun _ _ _ _ _ _ us hl => match us, hl with | [_, _], _ => rfl,
    f9, _, fun_mk (st := s_is_walk) l9 c9 k9, PySem.W.mg_of X G a9, (fun_mk (st := s_is_walk) l9 c9 k9).binds fun _ _ _ _ _ _ us hl => match us, hl with | [_, _], _ => rfl,
    f10, _, fun_mk (st := s_is_trail_of) l10 c10 k10, PySem.W.mg_of X G a10, (fun_mk (st := s_is_trail_of) l10 c10 k10).binds fun _ _ _ _ _ _ us hl => match us, hl with | [_, _], _ => rfl,
    f11, _, fun_mk (st := s_links_into) l11 c11 k11, PySem.W.mg_of X G a11, (fun_mk (st := s_links_into) l11 c11 k11).binds fun _ _ _ _ _ _ us hl => match us, hl with | [_, _], _ => rfl,
    f12, _, fun_mk (st := s_reached_from) l12 c12 k12, PySem.W.mg_of X G a12, (fun_mk (st := s_reached_from) l12 c12 k12).binds fun _ _ _ _ _ _ us hl => match us, hl with | [_, _], _ => rfl,
    f13, _, fun_mk (st := s_reversed_rows) l13 c13 k13, PySem.W.mg_of X G a13, (fun_mk (st := s_reversed_rows) l13 c13 k13).binds fun _ _ _ _ _ _ us hl => match us, hl with | [_], _ => rfl,
    f14, _, fun_mk (st := s_is_two_way) l14 c14 k14, PySem.W.mg_of X G a14, (fun_mk (st := s_is_two_way) l14 c14 k14).binds fun _ _ _ _ _ _ us hl => match us, hl with | [_], _ => rfl,
    f15, _, fun_mk (st := s_reversed_site) l15 c15 k15, PySem.W.mg_of X G a15, (fun_mk (st := s_reversed_site) l15 c15 k15).binds fun _ _ _ _ _ _ us hl => match us, hl with | [_], _ => rfl,
    f16, _, fun_mk (st := s_site_without) l16 c16 k16, PySem.W.mg_of X G a16, (fun_mk (st := s_site_without) l16 c16 k16).binds fun _ _ _ _ _ _ us hl => match us, hl with | [_, _], _ => rfl,
    f17, _, fun_mk (st := s_is_page) l17 c17 k17, PySem.W.mg_of X G a17, (fun_mk (st := s_is_page) l17 c17 k17).binds fun _ _ _ _ _ _ us hl => match us, hl with | [_], _ => rfl,
    f18, _, fun_mk (st := s_is_visits) l18 c18 k18, PySem.W.mg_of X G a18, (fun_mk (st := s_is_visits) l18 c18 k18).binds fun _ _ _ _ _ _ us hl => match us, hl with | [_], _ => rfl,
    f19, _, fun_mk (st := s_is_trail) l19 c19 k19, PySem.W.mg_of X G a19, (fun_mk (st := s_is_trail) l19 c19 k19).binds fun _ _ _ _ _ _ us hl => match us, hl with | [_], _ => rfl,
    f20, _, fun_mk (st := s_check_visits) l20 c20 k20, PySem.W.mg_of X G a20, (fun_mk (st := s_check_visits) l20 c20 k20).binds fun _ _ _ _ _ _ us hl => match us, hl with | [_], _ => rfl,
    f21, _, fun_mk (st := s_check_trail) l21 c21 k21, PySem.W.mg_of X G a21, (fun_mk (st := s_check_trail) l21 c21 k21).binds fun _ _ _ _ _ _ us hl => match us, hl with | [_], _ => rfl,
    f22, _, fun_mk (st := s_visited) l22 c22 k22, PySem.W.mg_of X G a22, (fun_mk (st := s_visited) l22 c22 k22).binds fun _ _ _ _ _ _ us hl => match us, hl with | [_, _], _ => rfl,
    f23, _, fun_mk (st := s_exits_in) l23 c23 k23, PySem.W.mg_of X G a23, (fun_mk (st := s_exits_in) l23 c23 k23).binds fun _ _ _ _ _ _ us hl => match us, hl with | [_], _ => rfl,
    f24, _, fun_mk (st := s_is_pair) l24 c24 k24, PySem.W.mg_of X G a24, (fun_mk (st := s_is_pair) l24 c24 k24).binds fun _ _ _ _ _ _ us hl => match us, hl with | [_], _ => rfl,
    f25, _, fun_mk (st := s_leads_to_root) l25 c25 k25, PySem.W.mg_of X G a25, (fun_mk (st := s_leads_to_root) l25 c25 k25).binds fun _ _ _ _ _ _ us hl => match us, hl with | [_, _, _], _ => rfl,
    f26, _, fun_mk (st := s_are_exits) l26 c26 k26, PySem.W.mg_of X G a26, (fun_mk (st := s_are_exits) l26 c26 k26).binds fun _ _ _ _ _ _ us hl => match us, hl with | [_], _ => rfl,
    f27, _, fun_mk (st := s_check_effect) l27 c27 k27, PySem.W.mg_of X G a27, (fun_mk (st := s_check_effect) l27 c27 k27).binds fun _ _ _ _ _ _ us hl => match us, hl with | [_], _ => rfl,
    f28, _, fun_mk (st := s_effect_in) l28 c28 k28, PySem.W.mg_of X G a28, (fun_mk (st := s_effect_in) l28 c28 k28).binds fun _ _ _ _ _ _ us hl => match us, hl with | [_], _ => rfl,
    f29, _, fun_mk (st := s_effect_of) l29 c29 k29, PySem.W.mg_of X G a29, (fun_mk (st := s_effect_of) l29 c29 k29).binds fun _ _ _ _ _ _ us hl => match us, hl with | [_], _ => rfl,
    f30, _, fun_mk (st := s_number_in) l30 c30 k30, PySem.W.mg_of X G a30, (fun_mk (st := s_number_in) l30 c30 k30).binds fun _ _ _ _ _ _ us hl => match us, hl with | [_], _ => rfl,
    f31, _, fun_mk (st := s_check_string) l31 c31 k31, PySem.W.mg_of X G a31, (fun_mk (st := s_check_string) l31 c31 k31).binds fun _ _ _ _ _ _ us hl => match us, hl with | [_], _ => rfl,
    f32, _, fun_mk (st := s_format_site) l32 c32 k32, PySem.W.mg_of X G a32, (fun_mk (st := s_format_site) l32 c32 k32).binds fun _ _ _ _ _ _ us hl => match us, hl with | [_], _ => rfl,
    f33, _, fun_mk (st := s_parse_site) l33 c33 k33, PySem.W.mg_of X G a33, (fun_mk (st := s_parse_site) l33 c33 k33).binds fun _ _ _ _ _ _ us hl => match us, hl with | [_], _ => rfl,
    f34, _, fun_mk (st := s_trail_string) l34 c34 k34, PySem.W.mg_of X G a34, (fun_mk (st := s_trail_string) l34 c34 k34).binds fun _ _ _ _ _ _ us hl => match us, hl with | [_], _ => rfl,
    f35, _, fun_mk (st := s_format_trail) l35 c35 k35, PySem.W.mg_of X G a35, (fun_mk (st := s_format_trail) l35 c35 k35).binds fun _ _ _ _ _ _ us hl => match us, hl with | [_], _ => rfl,
    f36, _, fun_mk (st := s_parse_trail) l36 c36 k36, PySem.W.mg_of X G a36, (fun_mk (st := s_parse_trail) l36 c36 k36).binds fun _ _ _ _ _ _ us hl => match us, hl with | [_], _ => rfl,
    f37, _, fun_mk (st := s_format_effect) l37 c37 k37, PySem.W.mg_of X G a37, (fun_mk (st := s_format_effect) l37 c37 k37).binds fun _ _ _ _ _ _ us hl => match us, hl with | [_], _ => rfl,
    f38, _, fun_mk (st := s_parse_effect) l38 c38 k38, PySem.W.mg_of X G a38, (fun_mk (st := s_parse_effect) l38 c38 k38).binds fun _ _ _ _ _ _ us hl => match us, hl with | [_], _ => rfl,
    f39, _, fun_mk (st := s_listed) l39 c39 k39, PySem.W.mg_of X G a39, (fun_mk (st := s_listed) l39 c39 k39).binds fun _ _ _ _ _ _ us hl => match us, hl with | [_], _ => rfl,
    f40, _, fun_mk (st := s_law_source) l40 c40 k40, PySem.W.mg_of X G a40, (fun_mk (st := s_law_source) l40 c40 k40).binds fun _ _ _ _ _ _ us hl => match us, hl with | [_, _], _ => rfl,
    f41, _, fun_mk (st := s_law_draw) l41 c41 k41, PySem.W.mg_of X G a41, (fun_mk (st := s_law_draw) l41 c41 k41).binds fun _ _ _ _ _ _ us hl => match us, hl with | [_, _], _ => rfl,
    f42, _, fun_mk (st := s_law_net) l42 c42 k42, PySem.W.mg_of X G a42, (fun_mk (st := s_law_net) l42 c42 k42).binds fun _ _ _ _ _ _ us hl => match us, hl with | [_, _], _ => rfl,
    f43, _, fun_mk (st := s_law_stroll) l43 c43 k43, PySem.W.mg_of X G a43, (fun_mk (st := s_law_stroll) l43 c43 k43).binds fun _ _ _ _ _ _ us hl => match us, hl with | [_, _, _], _ => rfl,
    f44, _, fun_mk (st := s_law_some) l44 c44 k44, PySem.W.mg_of X G a44, (fun_mk (st := s_law_some) l44 c44 k44).binds fun _ _ _ _ _ _ us hl => match us, hl with | [_, _, _], _ => rfl,
    f45, _, fun_mk (st := s_law_visits) l45 c45 k45, PySem.W.mg_of X G a45, (fun_mk (st := s_law_visits) l45 c45 k45).binds fun _ _ _ _ _ _ us hl => match us, hl with | [_, _], _ => rfl,
    f46, _, fun_mk (st := s_law_trail) l46 c46 k46, PySem.W.mg_of X G a46, (fun_mk (st := s_law_trail) l46 c46 k46).binds fun _ _ _ _ _ _ us hl => match us, hl with | [_], _ => rfl,
    f47, _, fun_mk (st := s_law_by_keyword) l47 c47 k47, PySem.W.mg_of X G a47, (fun_mk (st := s_law_by_keyword) l47 c47 k47).binds fun _ _ _ _ _ _ us hl => match us, hl with | [_, _, _, _], _ => rfl,
    f48, _, fun_mk (st := s_law_by_position) l48 c48 k48, PySem.W.mg_of X G a48, (fun_mk (st := s_law_by_position) l48 c48 k48).binds fun _ _ _ _ _ _ us hl => match us, hl with | [_, _, _, _], _ => rfl,
    f49, _, fun_mk (st := s_law_holds) l49 c49 k49, PySem.W.mg_of X G a49, (fun_mk (st := s_law_holds) l49 c49 k49).binds fun _ _ _ _ _ _ us hl => match us, hl with | [_, _], _ => rfl,
    fa, _, fun_mk (st := s_law) l50 c50 k50, PySem.W.mg_of X G a50, (fun_mk (st := s_law) l50 c50 k50).binds fun _ _ _ _ _ _ us hl => match us, hl with | [_], _ => rfl,
    f51, _, fun_mk (st := s_Effect___init) l51 c51 k51, (fun_mk (st := s_Effect___init) l51 c51 k51).binds fun _ _ _ _ _ _ us hl => match us, hl with | [_, _, _], _ => rfl, ⟨mk0, a51, i51, kc0⟩,
    f52, _, fun_mk (st := s_Effect_first) l52 c52 k52, (fun_mk (st := s_Effect_first) l52 c52 k52).binds fun _ _ _ _ _ _ us hl => match us, hl with | [_], _ => rfl, p52, ⟨a52, g52, t52, ⟨rest52, r52⟩⟩,
    f53, _, fun_mk (st := s_Effect_exits) l53 c53 k53, (fun_mk (st := s_Effect_exits) l53 c53 k53).binds fun _ _ _ _ _ _ us hl => match us, hl with | [_], _ => rfl, p53, ⟨a53, g53, t53, ⟨rest53, r53⟩⟩,
    BC.Fun.kb (fun_mk (st := s_format_effect) l37 c37 k37) fun _ _ _ _ _ _ us ws h1 h2 => match us, h1, ws, h2 with | [], _, [_], _ => rfl,
    BC.Fun.kb (fun_mk (st := s_format_site) l32 c32 k32) fun _ _ _ _ _ _ us ws h1 h2 => match us, h1, ws, h2 with | [], _, [_], _ => rfl,
    BC.Fun.kb (fun_mk (st := s_format_trail) l35 c35 k35) fun _ _ _ _ _ _ us ws h1 h2 => match us, h1, ws, h2 with | [], _, [_], _ => rfl,
    BC.Fun.kb (fun_mk (st := s_is_site) l2 c2 k2) fun _ _ _ _ _ _ us ws h1 h2 => match us, h1, ws, h2 with | [], _, [_], _ => rfl,
    BC.Fun.kb (fun_mk (st := s_is_trail_of) l10 c10 k10) fun _ _ _ _ _ _ us ws h1 h2 => match us, h1, ws, h2 with | [], _, [_, _], _ => rfl,
    BC.Fun.kb (fun_mk (st := s_is_two_way) l14 c14 k14) fun _ _ _ _ _ _ us ws h1 h2 => match us, h1, ws, h2 with | [], _, [_], _ => rfl,
    BC.Fun.kb (fun_mk (st := s_is_walk) l9 c9 k9) fun _ _ _ _ _ _ us ws h1 h2 => match us, h1, ws, h2 with | [], _, [_, _], _ => rfl,
    BC.Fun.kb (fun_mk (st := s_links_into) l11 c11 k11) fun _ _ _ _ _ _ us ws h1 h2 => match us, h1, ws, h2 with | [], _, [_, _], _ => rfl,
    BC.Fun.kb (fun_mk (st := s_listed) l39 c39 k39) fun _ _ _ _ _ _ us ws h1 h2 => match us, h1, ws, h2 with | [], _, [_], _ => rfl,
    BC.Fun.kb (fun_mk (st := s_parse_effect) l38 c38 k38) fun _ _ _ _ _ _ us ws h1 h2 => match us, h1, ws, h2 with | [], _, [_], _ => rfl,
    BC.Fun.kb (fun_mk (st := s_parse_site) l33 c33 k33) fun _ _ _ _ _ _ us ws h1 h2 => match us, h1, ws, h2 with | [], _, [_], _ => rfl,
    BC.Fun.kb (fun_mk (st := s_parse_trail) l36 c36 k36) fun _ _ _ _ _ _ us ws h1 h2 => match us, h1, ws, h2 with | [], _, [_], _ => rfl,
    BC.Fun.kb (fun_mk (st := s_reached_from) l12 c12 k12) fun _ _ _ _ _ _ us ws h1 h2 => match us, h1, ws, h2 with | [], _, [_, _], _ => rfl,
    BC.Fun.kb (fun_mk (st := s_reversed_site) l15 c15 k15) fun _ _ _ _ _ _ us ws h1 h2 => match us, h1, ws, h2 with | [], _, [_], _ => rfl,
    BC.Fun.kb (fun_mk (st := s_site_without) l16 c16 k16) fun _ _ _ _ _ _ us ws h1 h2 => match us, h1, ws, h2 with | [], _, [_, _], _ => rfl,
    tt_DIGITS, PySem.W.mg_of X G q_DIGITS,
    tt_MOST_DIGITS, PySem.W.mg_of X G q_MOST_DIGITS,
    tt_MOST_PAGE, PySem.W.mg_of X G q_MOST_PAGE,
    tt_MOST_PAGES, PySem.W.mg_of X G q_MOST_PAGES,
    tt_MOST_STEPS, PySem.W.mg_of X G q_MOST_STEPS,
    tt_MOST_VISITS, PySem.W.mg_of X G q_MOST_VISITS,
    tt_NEXT, PySem.W.mg_of X G q_NEXT,
    qd,
    PySem.W.mg_none_of X G z_abs,
    PySem.W.mg_none_of X G z_all,
    PySem.W.mg_none_of X G z_any,
    PySem.W.mg_none_of X G z_bool,
    PySem.W.mg_none_of X G z_dict,
    PySem.W.mg_none_of X G z_enumerate,
    PySem.W.mg_none_of X G z_int,
    PySem.W.mg_none_of X G z_isinstance,
    PySem.W.mg_none_of X G z_len,
    PySem.W.mg_none_of X G z_list,
    PySem.W.mg_none_of X G z_max,
    PySem.W.mg_none_of X G z_min,
    PySem.W.mg_none_of X G z_range,
    PySem.W.mg_none_of X G z_repr,
    PySem.W.mg_none_of X G z_set,
    PySem.W.mg_none_of X G z_sorted,
    PySem.W.mg_none_of X G z_str,
    PySem.W.mg_none_of X G z_tuple,
    PySem.W.mg_none_of X G z_zip⟩
  exact ⟨T.fd_law, fun s v => .of_eq rfl, fun base _ _ => ok_law T⟩

end LW
open PySem PySem.W PyProof.Rows
set_option maxHeartbeats 0 in
theorem PySem.Challenge.cw_breadcrumbs_k14_keyword_arguments_holds : PySem.Challenge.rw_breadcrumbs_k14_keyword_arguments.Holds := by
  w_on; o_law; k_head; (case hw => w_witness2)
  k_fill
  refine BC.walk_G (l := PySem.Challenge.rw_breadcrumbs_k14_keyword_arguments) (n := 63) (k := 11) (x := "_law_script") (sp := fun w => LW.spLaw _) rfl (by decide) rfl ⟨rfl, by decide, by decide⟩ (fun w h Y => PySem.W.kIn_of Y) ?F (fun w H a ns hl hS => ⟨a, ns, rfl, hS, hl, fun _ => rfl⟩)
  case F =>
    intro w mg fa h KX G hmg
    refine' LW.all_mk KX G hmg ?xn ?xt ?ax0 ?kx0 ?xx0 ?gx0 ?hx0 ?bx0 ?dx0 ?cx0 ?mx0 ?tx0 ?lx0 ?rx0 ?ax1 ?kx1 ?xx1 ?gx1 ?hx1 ?bx1 ?dx1 ?cx1 ?mx1 ?tx1 ?lx1 ?rx1 ?ndx ?aC0 ?pg0 ?hd0 ?po0 ?sa0 ?ka0 ?kn0 ?kt0 ?km0 ?ke0 ?kf0 ?nf0_list ?nf0_tuple ?nf0_dict ?nf0_int ?nf0_str ?nf0_bool ?nf0_NoneType ?sf0 ?ob0 ?on0 ?na0_begin_page ?na0_pairs ?na0_exit_of ?a0 ?l0 ?c0 ?k0 ?a1 ?l1 ?c1 ?k1 ?a2 ?l2 ?c2 ?k2 ?a3 ?l3 ?c3 ?k3 ?a4 ?l4 ?c4 ?k4 ?a5 ?l5 ?c5 ?k5 ?a6 ?l6 ?c6 ?k6 ?a7 ?l7 ?c7 ?k7 ?a8 ?l8 ?c8 ?k8 ?a9 ?l9 ?c9 ?k9 ?a10 ?l10 ?c10 ?k10 ?a11 ?l11 ?c11 ?k11 ?a12 ?l12 ?c12 ?k12 ?a13 ?l13 ?c13 ?k13 ?a14 ?l14 ?c14 ?k14 ?a15 ?l15 ?c15 ?k15 ?a16 ?l16 ?c16 ?k16 ?a17 ?l17 ?c17 ?k17 ?a18 ?l18 ?c18 ?k18 ?a19 ?l19 ?c19 ?k19 ?a20 ?l20 ?c20 ?k20 ?a21 ?l21 ?c21 ?k21 ?a22 ?l22 ?c22 ?k22 ?a23 ?l23 ?c23 ?k23 ?a24 ?l24 ?c24 ?k24 ?a25 ?l25 ?c25 ?k25 ?a26 ?l26 ?c26 ?k26 ?a27 ?l27 ?c27 ?k27 ?a28 ?l28 ?c28 ?k28 ?a29 ?l29 ?c29 ?k29 ?a30 ?l30 ?c30 ?k30 ?a31 ?l31 ?c31 ?k31 ?a32 ?l32 ?c32 ?k32 ?a33 ?l33 ?c33 ?k33 ?a34 ?l34 ?c34 ?k34 ?a35 ?l35 ?c35 ?k35 ?a36 ?l36 ?c36 ?k36 ?a37 ?l37 ?c37 ?k37 ?a38 ?l38 ?c38 ?k38 ?a39 ?l39 ?c39 ?k39 ?a40 ?l40 ?c40 ?k40 ?a41 ?l41 ?c41 ?k41 ?a42 ?l42 ?c42 ?k42 ?a43 ?l43 ?c43 ?k43 ?a44 ?l44 ?c44 ?k44 ?a45 ?l45 ?c45 ?k45 ?a46 ?l46 ?c46 ?k46 ?a47 ?l47 ?c47 ?k47 ?a48 ?l48 ?c48 ?k48 ?a49 ?l49 ?c49 ?k49 ?a50 ?l50 ?c50 ?k50 ?a51 ?i51 ?l51 ?c51 ?k51 ?mk0 ?kc0 ?a52 ?g52 ?t52 ?r52 ?l52 ?c52 ?k52 ?a53 ?g53 ?t53 ?r53 ?l53 ?c53 ?k53 ?q_DIGITS ?q_MOST_DIGITS ?q_MOST_PAGE ?q_MOST_PAGES ?q_MOST_STEPS ?q_MOST_VISITS ?q_NEXT ?qd ?z_abs ?z_all ?z_any ?z_bool ?z_dict ?z_enumerate ?z_int ?z_isinstance ?z_len ?z_list ?z_max ?z_min ?z_range ?z_repr ?z_set ?z_sorted ?z_str ?z_tuple ?z_zip
    (case xn => k_is); (case xt => k_is); (case ax0 => k_is); (case kx0 => k_is); (case xx0 => k_exc); (case gx0 => k_is); (case hx0 => k_is); (case bx0 => k_is); (case dx0 => k_is); (case cx0 => k_is); (case mx0 => k_is); (case tx0 => k_is); (case lx0 => k_is); (case rx0 => rfl); (case ax1 => k_is); (case kx1 => k_is); (case xx1 => k_exc); (case gx1 => k_is); (case hx1 => k_is); (case bx1 => k_is); (case dx1 => k_is); (case cx1 => k_is); (case mx1 => k_is); (case tx1 => k_is); (case lx1 => k_is); (case rx1 => rfl); (case ndx => decide); (case aC0 => k_is); (case pg0 => k_is); (case hd0 => k_is); (case po0 => k_is); (case sa0 => k_is); (case ka0 => k_is); (case kn0 => k_is); (case kt0 => k_is); (case km0 => k_is); (case ke0 => k_is); (case kf0 => k_is); (case nf0_list => k_is); (case nf0_tuple => k_is); (case nf0_dict => k_is); (case nf0_int => k_is); (case nf0_str => k_is); (case nf0_bool => k_is); (case nf0_NoneType => k_is); (case sf0 => k_is); (case ob0 => k_is); (case on0 => k_is); (case na0_begin_page => k_is); (case na0_pairs => k_is); (case na0_exit_of => k_is); (case a0 => k_is); (case l0 => k_is); (case c0 => k_is); (case k0 => k_is); (case a1 => k_is); (case l1 => k_is); (case c1 => k_is); (case k1 => k_is); (case a2 => k_is); (case l2 => k_is); (case c2 => k_is); (case k2 => k_is); (case a3 => k_is); (case l3 => k_is); (case c3 => k_is); (case k3 => k_is); (case a4 => k_is); (case l4 => k_is); (case c4 => k_is); (case k4 => k_is); (case a5 => k_is); (case l5 => k_is); (case c5 => k_is); (case k5 => k_is); (case a6 => k_is); (case l6 => k_is); (case c6 => k_is); (case k6 => k_is); (case a7 => k_is); (case l7 => k_is); (case c7 => k_is); (case k7 => k_is); (case a8 => k_is); (case l8 => k_is); (case c8 => k_is); (case k8 => k_is); (case a9 => k_is); (case l9 => k_is); (case c9 => k_is); (case k9 => k_is); (case a10 => k_is); (case l10 => k_is); (case c10 => k_is); (case k10 => k_is); (case a11 => k_is); (case l11 => k_is); (case c11 => k_is); (case k11 => k_is); (case a12 => k_is); (case l12 => k_is); (case c12 => k_is); (case k12 => k_is); (case a13 => k_is); (case l13 => k_is); (case c13 => k_is); (case k13 => k_is); (case a14 => k_is); (case l14 => k_is); (case c14 => k_is); (case k14 => k_is); (case a15 => k_is); (case l15 => k_is); (case c15 => k_is); (case k15 => k_is); (case a16 => k_is); (case l16 => k_is); (case c16 => k_is); (case k16 => k_is); (case a17 => k_is); (case l17 => k_is); (case c17 => k_is); (case k17 => k_is); (case a18 => k_is); (case l18 => k_is); (case c18 => k_is); (case k18 => k_is); (case a19 => k_is); (case l19 => k_is); (case c19 => k_is); (case k19 => k_is); (case a20 => k_is); (case l20 => k_is); (case c20 => k_is); (case k20 => k_is); (case a21 => k_is); (case l21 => k_is); (case c21 => k_is); (case k21 => k_is); (case a22 => k_is); (case l22 => k_is); (case c22 => k_is); (case k22 => k_is); (case a23 => k_is); (case l23 => k_is); (case c23 => k_is); (case k23 => k_is); (case a24 => k_is); (case l24 => k_is); (case c24 => k_is); (case k24 => k_is); (case a25 => k_is); (case l25 => k_is); (case c25 => k_is); (case k25 => k_is); (case a26 => k_is); (case l26 => k_is); (case c26 => k_is); (case k26 => k_is); (case a27 => k_is); (case l27 => k_is); (case c27 => k_is); (case k27 => k_is); (case a28 => k_is); (case l28 => k_is); (case c28 => k_is); (case k28 => k_is); (case a29 => k_is); (case l29 => k_is); (case c29 => k_is); (case k29 => k_is); (case a30 => k_is); (case l30 => k_is); (case c30 => k_is); (case k30 => k_is); (case a31 => k_is); (case l31 => k_is); (case c31 => k_is); (case k31 => k_is); (case a32 => k_is); (case l32 => k_is); (case c32 => k_is); (case k32 => k_is); (case a33 => k_is); (case l33 => k_is); (case c33 => k_is); (case k33 => k_is); (case a34 => k_is); (case l34 => k_is); (case c34 => k_is); (case k34 => k_is); (case a35 => k_is); (case l35 => k_is); (case c35 => k_is); (case k35 => k_is); (case a36 => k_is); (case l36 => k_is); (case c36 => k_is); (case k36 => k_is); (case a37 => k_is); (case l37 => k_is); (case c37 => k_is); (case k37 => k_is); (case a38 => k_is); (case l38 => k_is); (case c38 => k_is); (case k38 => k_is); (case a39 => k_is); (case l39 => k_is); (case c39 => k_is); (case k39 => k_is); (case a40 => k_is); (case l40 => k_is); (case c40 => k_is); (case k40 => k_is); (case a41 => k_is); (case l41 => k_is); (case c41 => k_is); (case k41 => k_is); (case a42 => k_is); (case l42 => k_is); (case c42 => k_is); (case k42 => k_is); (case a43 => k_is); (case l43 => k_is); (case c43 => k_is); (case k43 => k_is); (case a44 => k_is); (case l44 => k_is); (case c44 => k_is); (case k44 => k_is); (case a45 => k_is); (case l45 => k_is); (case c45 => k_is); (case k45 => k_is); (case a46 => k_is); (case l46 => k_is); (case c46 => k_is); (case k46 => k_is); (case a47 => k_is); (case l47 => k_is); (case c47 => k_is); (case k47 => k_is); (case a48 => k_is); (case l48 => k_is); (case c48 => k_is); (case k48 => k_is); (case a49 => k_is); (case l49 => k_is); (case c49 => k_is); (case k49 => k_is); (case a50 => k_is); (case l50 => k_is); (case c50 => k_is); (case k50 => k_is); (case a51 => k_is); (case i51 => k_is); (case l51 => k_is); (case c51 => k_is); (case k51 => k_is); (case mk0 => k_is); (case kc0 => k_is); (case a52 => k_is); (case g52 => k_is); (case t52 => k_is); (case r52 => k_is); (case l52 => k_is); (case c52 => k_is); (case k52 => k_is); (case a53 => k_is); (case g53 => k_is); (case t53 => k_is); (case r53 => k_is); (case l53 => k_is); (case c53 => k_is); (case k53 => k_is); (case q_DIGITS => k_is); (case q_MOST_DIGITS => k_is); (case q_MOST_PAGE => k_is); (case q_MOST_PAGES => k_is); (case q_MOST_STEPS => k_is); (case q_MOST_VISITS => k_is); (case q_NEXT => k_is); (case qd => k_is); (case z_abs => k_is); (case z_all => k_is); (case z_any => k_is); (case z_bool => k_is); (case z_dict => k_is); (case z_enumerate => k_is); (case z_int => k_is); (case z_isinstance => k_is); (case z_len => k_is); (case z_list => k_is); (case z_max => k_is); (case z_min => k_is); (case z_range => k_is); (case z_repr => k_is); (case z_set => k_is); (case z_sorted => k_is); (case z_str => k_is); (case z_tuple => k_is); (case z_zip => k_is)

