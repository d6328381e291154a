import PyProof.Rows.All
import Wide.All
import OpenK.AllK
import Wide.FinOn
import HandS.ForMost
import HandS.IsInst
import HandS.Style
import HandS.Wide
import HandS.Evl
import HandS.Zip
import HandS.SortKw
import HandS.Conv
import HandS.TupLe
import HandS.RaiseMore
import HandS.Defaults
import HandS.SetFor
import HandS.Strs
import HandS.GenList
import HandS.DictTup
import HandS.Iter
import KE.KDictCopyH
import KE.KDictWalk
import KE.KDictDisplayH
import KE.SortData
import HandS.Property
import HandS.DictComp
import HandS.ListItems
import HandS.SortRule
import HandS.ExcIs
import HandS.ExcValue
import HandS.TryOnly
import HandS.HotCalls
import HandS.WordsExc
import HandS.ExcOwn
import HandS.CallSlots
import KE.KDictOf
import KE.KCallOwn
import KE.KSortTupAny
import HandS.Deep
import PySem.Challenge.RW_breadcrumbs_k80_orders_of_few_pages
set_option Elab.async false
set_option linter.all false
set_option maxRecDepth 100000
set_option maxHeartbeats 4000000
namespace BC
open PySem PySem.Spec PyProof.Rows L2
section
variable {X : Cx}
/-- a power of a number of any size that matters here -/
def CPowX (i j : Int) : Prop := 0 ≤ j ∧ j ≤ 1000 ∧ i.natAbs.log2 < 100000
theorem op_powX : OpR X (binaryOp .Pow) (rI CPowX fun i j => .int (i ^ j.toNat)) := opI fun i j _ _ _ _ _ hc q => by
  obtain ⟨h0, h1, h2⟩ := hc
  refine pow_int h0 ?_ q
  have hb : Builtin.Int.intBits i ≤ 100000 := by
    unfold Builtin.Int.intBits
    split <;> omega
  have h3 : (Builtin.Int.intBits i : Int) * j ≤ 100000 * j := Int.mul_le_mul_of_nonneg_right (by omega) h0
  omega
/-- a product: one factor small, or both of bounded size -/
def CMulX (i j : Int) : Prop := CMul i j ∨ CMulW i j
theorem op_mulX : OpR X (binaryOp .Mult) (rI CMulX fun i j => .int (i * j)) := opI fun _ _ _ _ _ _ _ hc q => by
  rcases hc with hc | hc
  · exact mul_int q hc.ok
  · exact mul_int q hc.ok
theorem op_fdivX : OpR X (binaryOp .FloorDiv) (rI CDivW fun i j => .int (i / j)) := op_fdivW
theorem op_modX : OpR X (binaryOp .Mod) (rI (fun _ j => 0 < j) fun i j => .int (i % j)) := opI fun i j _ _ _ _ _ hc q => by
  refine mod_int' (show j ≠ 0 by omega) ?_
  rw [Int.fmod_eq_emod_of_nonneg i (by omega)]
  exact q
def ipC (C : Int → Int → Prop) (f : Int → Int → Int) : TIp := fun x y H Q => ∃ i j, x = .int i ∧ y = .int j ∧ C i j ∧ Q (.int (f i j)) H
theorem ip_mulX : PIp X .Mult (ipC CMulX fun i j => i * j) := by
  intro pins s σ H x y v u Q I r1 r2 h
  obtain ⟨i, j, rfl, rfl, hc, q⟩ := h
  obtain ⟨t, rfl⟩ := r1
  obtain ⟨t', rfl⟩ := r2
  have ok : IntMulOk i j := by
    rcases hc with hc | hc
    · exact hc.ok
    · exact hc.ok
  exact imul_int ⟨.int (i * j), H, I.tok _, ⟨_, rfl⟩, q⟩ ok
end
end BC

/-! ### readings opened one construct at a time: full applications alone, so that what stands in a loop is left closed -/
namespace BC
open PySem PySem.Spec PyProof.Rows L2
section
variable {K : PySem.W.Frag} {σ : L2.St} {H : Hp} {Q : VK} {QT : Bool → Hp → Prop} {QA : List V → Hp → Prop} {D : Ends} {ta tb tc : TE} {t u : TT} {a : TA} {r r' : R2} {i j : Nat} {v x y : V} {s1 s2 : TS} {g : TG} {QG : L2.St → Hp → Prop}
def LoopG (J : It) (g : TG) (tb : TS) : TS := fun D σ H => ∃ W : Nat → Nat → L2.St → Hp → Prop, (∃ m, W 0 m σ H) ∧ ∀ i m σ H, W i m σ H →
  (J.stop i H ∧ D.nx σ H) ∨ (J.go i H ∧ ∃ N : L2.St → Hp → Prop, (∀ σ' H', N σ' H' → ∃ m', m' < m ∧ W (i + 1) m' σ' H') ∧ ∀ x H', J.yld i H x H' → g x σ H' fun σ2 H2 => tb { D with nx := N, ct := N, bk := D.nx } σ2 H2)
def LcG (J : It) (g : TG) (tt : TT) (te : TE) (vs : List Nat) (σ : L2.St) (Dl : Addr) (H1 : Hp) (Q : VK) : Prop := ∃ W : Nat → Nat → Hp → Prop, (∃ m, W 0 m (upd H1 Dl (.lst []))) ∧ ∀ i m H, W i m H →
  (J.stop i H ∧ Q (.ref Dl) H) ∨ (J.go i H ∧ ∃ Nx : Hp → Prop, (∀ H', Nx H' → ∃ m', m' < m ∧ W (i + 1) m' H') ∧ ∀ x H', J.yld i H x H' → g x (wipe σ vs) H' fun σ2 H2 => wipe σ2 vs = wipe σ vs ∧ tt σ2 H2 fun b H3 =>
    if b = true then te σ2 H3 fun y H4 => ∃ acc, H4 Dl = some (.lst acc) ∧ acc.length < sizeLine ∧ Nx (upd H4 Dl (.lst (acc ++ [y]))) else Nx H3)
theorem x_seq : tSeq s1 s2 D σ H = s1 { D with nx := s2 D } σ H := rfl
theorem x_next : tNext D σ H = D.nx σ H := rfl
theorem x_brk : tBreak D σ H = D.bk σ H := rfl
theorem x_cnt : tCont D σ H = D.ct σ H := rfl
theorem x_nev : tNever D σ H = False := rfl
theorem x_ret : tRet ta D σ H = ta σ H D.rt := rfl
theorem x_retN : tRetN D σ H = D.rt .non H := rfl
theorem x_drop : tDrop ta D σ H = ta σ H (fun _ H1 => D.nx σ H1) := rfl
theorem x_ifS : tIfS t s1 s2 D σ H = t σ H (fun b H1 => if b = true then s1 D σ H1 else s2 D σ H1) := rfl
theorem x_asg : tAsg ta g D σ H = ta σ H (fun x H1 => g x σ H1 D.nx) := rfl
theorem x_gn : gName i v σ H QG = QG (σ.set i (some v)) H := rfl
theorem x_gsub {o ix : TE} {st : TSet} : gSub o ix st v σ H QG = o σ H (fun o H1 => ix σ H1 fun i H2 => st o i v H2 fun H3 => QG σ H3) := rfl
theorem x_par : tPar i j a D σ H = a σ H (fun vs H1 => ∃ v w, vs = [v, w] ∧ D.nx ((σ.set i (some v)).set j (some w)) H1) := rfl
theorem x_par3 {l : Nat} : tPar3 i j l a D σ H = a σ H (fun vs H1 => ∃ u v w, vs = [u, v, w] ∧ D.nx (((σ.set i (some u)).set j (some v)).set l (some w)) H1) := rfl
theorem x_aug {ti : TIp} : tAug i ta ti D σ H = ∃ x, σ[i]? = some (some x) ∧ ta σ H fun y H1 => ti x y H1 fun z H2 => D.nx (σ.set i (some z)) H2 := rfl
theorem x_for {wi : TI} : tFor wi g s1 D σ H = wi σ H (fun J H1 => LoopG J g s1 D σ H1) := rfl
theorem x_lc {wi : TI} {vs : List Nat} : tLc wi g t ta vs σ H Q = wi σ H (fun J H1 => ∀ Dl, H1 Dl = none → LcG J g t ta vs σ Dl H1 Q) := rfl
theorem x_rng1 {R : It → Hp → Prop} : iRng1 a σ H R = a σ H (fun vs H1 => ∃ j : Int, vs = [.int j] ∧ -(2 ^ 62) ≤ j ∧ j < 2 ^ 62 ∧ R (Itr 0 j.toNat) H1) := rfl
theorem x_rng2 {R : It → Hp → Prop} : iRng2 a σ H R = a σ H (fun vs H1 => ∃ i j : Int, vs = [.int i, .int j] ∧ (-(2 ^ 62) ≤ i ∧ i < 2 ^ 62 ∧ -(2 ^ 62) ≤ j ∧ j < 2 ^ 62) ∧ R (Itr i (j - i).toNat) H1) := rfl
theorem x_rng3 {R : It → Hp → Prop} : iRng3 a σ H R = a σ H (fun vs H1 => ∃ (i j c : Int) (n : Nat), vs = [.int i, .int j, .int c] ∧ RgC i j c n ∧ R (Itc i c n) H1) := rfl
theorem x_ilist {R : It → Hp → Prop} : iList K ta σ H R = ta σ H (fun x H1 => ∃ a, x = .ref a ∧ (∃ xs, SqL K H1 a xs) ∧ R (Itl K a) H1) := rfl
theorem x_itup {R : It → Hp → Prop} : iTup K ta σ H R = ta σ H (fun x H1 => ∃ a, x = .ref a ∧ (∃ xs, SqT K H1 a xs) ∧ R (Itt K a) H1) := rfl
theorem x_ienum {R : It → Hp → Prop} : iEnum K a σ H R = a σ H (fun vs H1 => ∃ a xs, vs = [.ref a] ∧ SqL K H1 a xs ∧ R (Ite K a) H1) := rfl
theorem x_izip {R : It → Hp → Prop} : iZip K a σ H R = a σ H (fun vs H1 => ∃ a b xs ys, vs = [.ref a, .ref b] ∧ SqL K H1 a xs ∧ SqL K H1 b ys ∧ R (Itz K a b) H1) := rfl
theorem x_istr {R : It → Hp → Prop} : iStr ta σ H R = ta σ H (fun v H1 => ∃ x, v = .str x ∧ R (Its x) H1) := rfl
theorem x_var : tVar i σ H Q = ∃ v, σ[i]? = some (some v) ∧ Q v H := rfl
theorem x_c : tC v σ H Q = Q v H := rfl
theorem x_op : tOp r ta tb σ H Q = ta σ H (fun x H1 => tb σ H1 fun y H2 => r x y H2 Q) := rfl
theorem x_un {ru : V → Hp → VK → Prop} : tUn ru ta σ H Q = ta σ H (fun x H1 => ru x H1 Q) := rfl
theorem x_test : tTest ta σ H QT = ta σ H (fun x H' => ∃ k, x = .bl k ∧ QT k H') := rfl
theorem x_b : tB ta σ H QT = ta σ H (fun x H' => ∃ k, x = .bl k ∧ QT k H') := rfl
theorem x_chain : tChain r r' ta tb tc σ H Q = ta σ H (fun x H1 => tb σ H1 fun y H2 => r x y H2 fun z H3 => ∃ k, z = .bl k ∧ (if k = true then tc σ H3 fun w' H4 => r' y w' H4 Q else Q (.bl false) H3)) := rfl
theorem x_and : tAnd t u σ H QT = t σ H (fun c H1 => if c = true then u σ H1 QT else QT false H1) := rfl
theorem x_or : tOr t u σ H QT = t σ H (fun c H1 => if c = true then QT true H1 else u σ H1 QT) := rfl
theorem x_not : tNot t σ H QT = t σ H (fun c H1 => QT (!c) H1) := rfl
theorem x_andV : tAndV ta tb σ H Q = ta σ H (fun x H1 => ∃ c, x = .bl c ∧ if c = true then tb σ H1 Q else Q (.bl false) H1) := rfl
theorem x_orV : tOrV ta tb σ H Q = ta σ H (fun x H1 => ∃ c, x = .bl c ∧ if c = true then Q (.bl true) H1 else tb σ H1 Q) := rfl
theorem x_notV : tNotV ta σ H Q = ta σ H (fun x H1 => ∃ c, x = .bl c ∧ Q (.bl (!c)) H1) := rfl
theorem x_ife : tIf t ta tb σ H Q = t σ H (fun c H1 => if c = true then ta σ H1 Q else tb σ H1 Q) := rfl
theorem x_nil : tNil σ H QA = QA [] H := rfl
theorem x_cons {rest : TA} : tCons ta rest σ H QA = ta σ H (fun x H1 => rest σ H1 fun xs H2 => QA (x :: xs) H2) := rfl
theorem x_lst : tLst a σ H Q = a σ H (fun xs H1 => xs.length ≤ sizeLine ∧ ∀ p, H1 p = none → Q (.ref p) (upd H1 p (.lst xs))) := rfl
theorem x_tup : tTup a σ H Q = a σ H (fun xs H1 => xs.length ≤ sizeLine ∧ ∀ p, H1 p = none → Q (.ref p) (upd H1 p (.tup xs))) := rfl
theorem x_cb {rc : List V → Hp → VK → Prop} : tCB rc a σ H Q = a σ H (fun vs H1 => rc vs H1 Q) := rfl
theorem x_call {sp : Sp} {dvs : List V} {E : XK} : tCall sp dvs E a σ H Q = a σ H (fun vs H1 => sp (vs ++ dvs) H1 Q E) := rfl
theorem x_callK {sp : Sp} {gV : List V → List V → List V} {E : XK} {b : TA} : tCallK sp gV E a b σ H Q = a σ H (fun vs H1 => b σ H1 fun zs H2 => sp (gV vs zs) H2 Q E) := rfl
theorem x_bm {T : String} {rm : V → List V → Hp → VK → Prop} : tBM K T rm ta a σ H Q = ta σ H (fun x H1 => tyV K T x H1 ∧ a σ H1 fun xs H2 => rm x xs H2 Q) := rfl
theorem x_bm0 {T : String} {rm : V → List V → Hp → VK → Prop} : tBM0 K T rm ta σ H Q = ta σ H (fun x H1 => tyV K T x H1 ∧ rm x [] H1 Q) := rfl
theorem x_sl {rs : V → Option Int → Option Int → Hp → VK → Prop} {tl th : TO} : tSl rs ta tl th σ H Q = ta σ H (fun x H1 => tl σ H1 fun l H2 => th σ H2 fun u H3 => rs x l u H3 Q) := rfl
theorem x_nopart {QO : Option Int → Hp → Prop} : tNoPart σ H QO = QO none H := rfl
theorem x_part {QO : Option Int → Hp → Prop} : tPart ta σ H QO = ta σ H (fun x H1 => ∃ i, x = .int i ∧ QO (some i) H1) := rfl
theorem x_revL : tRevL K ta σ H Q = ta σ H (fun x H1 => ∃ a xs, x = .ref a ∧ SqL K H1 a xs ∧ ∀ p, H1 p = none → Q (.ref p) (upd H1 p (.lst xs.reverse))) := rfl
theorem x_I0 {f : Int → Int → V} {m n : Int} : rI0 f (.int m) (.int n) H Q ↔ Q (f m n) H := ⟨fun ⟨i, j, e1, e2, q⟩ => by cases e1; cases e2; exact q, fun q => ⟨m, n, rfl, rfl, q⟩⟩
theorem x_I {C : Int → Int → Prop} {f : Int → Int → V} {m n : Int} : rI C f (.int m) (.int n) H Q ↔ C m n ∧ Q (f m n) H := ⟨fun ⟨i, j, e1, e2, q⟩ => by cases e1; cases e2; exact q, fun q => ⟨m, n, rfl, rfl, q⟩⟩
theorem x_U {f : Int → V} {m : Int} : rU f (.int m) H Q ↔ Q (f m) H := ⟨fun ⟨i, e1, q⟩ => by cases e1; exact q, fun q => ⟨m, rfl, q⟩⟩
theorem x_ip {f : Int → Int → Int} {m n : Int} : ipI f (.int m) (.int n) H Q ↔ Q (.int (f m n)) H := ⟨fun ⟨i, j, e1, e2, q⟩ => by cases e1; cases e2; exact q, fun q => ⟨m, n, rfl, rfl, q⟩⟩
theorem x_ipC {C : Int → Int → Prop} {f : Int → Int → Int} {m n : Int} : ipC C f (.int m) (.int n) H Q ↔ C m n ∧ Q (.int (f m n)) H := ⟨fun ⟨i, j, e1, e2, q⟩ => by cases e1; cases e2; exact q, fun q => ⟨m, n, rfl, rfl, q⟩⟩
theorem x_eqI {m n : Int} : rEq (.int m) (.int n) H Q ↔ Q (.bl (decide (m = n))) H := by
  unfold rEq
  rw [show scal (V.int m) (V.int n) = true from rfl]
  by_cases e : m = n
  · subst e; simp
  · simp [e]
theorem x_neI {m n : Int} : rNe (.int m) (.int n) H Q ↔ Q (.bl (!decide (m = n))) H := by
  unfold rNe
  rw [show scal (V.int m) (V.int n) = true from rfl]
  by_cases e : m = n
  · subst e; simp
  · simp [e]
end
/-! ### the rules that speak of the written part, by its own name -/
section
variable {X : Cx} {K : PySem.W.Frag}
theorem k_pi_list {tg l : Expr} {tl : TE} (hK : X.K = K) (hl : PE X l tl) : PI X tg l (iList K tl) := by subst hK; exact pi_list hl
theorem k_pi_tup {tg l : Expr} {tl : TE} (hK : X.K = K) (hl : PE X l tl) : PI X tg l (iTup K tl) := by subst hK; exact pi_tup hl
theorem k_pi_enum {e : Expr} {ta : TA} {p pos tpos : Pos} {elts : List Expr} {kk : Nat} (hK : X.K = K) (hg : Gl X "enumerate") (hm : X.mg "enumerate" = none) (ha : PA X [e] ta) (hs : starEach [e] X.env = [(false, eval e X.env)] := by rfl) : PI X (.Tuple elts kk tpos) (.Call (.Name "enumerate" p) [e] [] pos) (iEnum K ta) := by subst hK; exact pi_enum hg hm ha hs
theorem k_pi_zip {e e2 : Expr} {ta : TA} {p pos tpos : Pos} {elts : List Expr} {kk : Nat} (hK : X.K = K) (hg : Gl X "zip") (hm : X.mg "zip" = none) (ha : PA X [e, e2] ta)
    (hs : starEach [e, e2] X.env = (false, eval e X.env) :: starEach [e2] X.env := by rfl) (hpl : (backTo pos (starEach [e2] X.env)).any (·.1) = false := by rfl) : PI X (.Tuple elts kk tpos) (.Call (.Name "zip" p) [e, e2] [] pos) (iZip K ta) := by subst hK; exact pi_zip hg hm ha hs hpl
theorem k_ix_list (hK : X.K = K) : IxR X (rIxL K) := by subst hK; exact ix_list
theorem k_ix_tup (hK : X.K = K) : IxR X (rIxT K) := by subst hK; exact ix_tup
theorem k_sl_list (hK : X.K = K) : SlR X (rSlL K) := by subst hK; exact sl_list
theorem k_in (hK : X.K = K) : OpR X (compareOp .In) (rIn K false) := by subst hK; exact op_in_seq
theorem k_notIn (hK : X.K = K) : OpR X (compareOp .NotIn) (rIn K true) := by subst hK; exact op_notIn_seq
theorem k_eqD (hK : X.K = K) (hu : X.A.units + 64 < cLine) : OpR X (compareOp .Eq) (rEqD K) := by subst hK; exact op_eqD hu
theorem k_neD (hK : X.K = K) (hu : X.A.units + 64 < cLine) : OpR X (compareOp .NotEq) (rNeD K) := by subst hK; exact op_neD hu
def rLen (K : PySem.W.Frag) : List V → Hp → VK → Prop := fun xs H Q => ∃ p ys, xs = [.ref p] ∧ (SqL K H p ys ∨ SqT K H p ys) ∧ Q (.int ys.length) H
def rListOf (K : PySem.W.Frag) : List V → Hp → VK → Prop := fun xs H Q => ∃ p ys, xs = [.ref p] ∧ (SqL K H p ys ∨ SqT K H p ys) ∧ ∀ l, H l = none → Q (.ref l) (upd H l (.lst ys))
def rTupOf (K : PySem.W.Frag) : List V → Hp → VK → Prop := fun xs H Q => ∃ p ys, xs = [.ref p] ∧ ((SqL K H p ys ∧ ∀ l, H l = none → Q (.ref l) (upd H l (.tup ys))) ∨ (SqT K H p ys ∧ Q (.ref p) H))
theorem k_len (hK : X.K = K) : CallR X (.builtin "len") (rLen K) := by subst hK; exact call_len_seq
theorem k_listOf (hK : X.K = K) : CallR X (.type "list") (rListOf K) := by subst hK; exact call_list_of
theorem k_tupOf (hK : X.K = K) : CallR X (.type "tuple") (rTupOf K) := by subst hK; exact call_tuple_of
theorem k_isi (hK : X.K = K) : CallR X (.builtin "isinstance") (rIsi K) := by subst hK; exact call_isi
theorem k_sum (hK : X.K = K) (hc : X.calm = true) : CallR X (.builtin "sum") (rSum K) := by subst hK; exact cr_sum hc
theorem k_all (hK : X.K = K) (hc : X.calm = true) : CallR X (.builtin "all") (rAll K) := by subst hK; exact cr_all hc
theorem k_any (hK : X.K = K) (hc : X.calm = true) : CallR X (.builtin "any") (rAny K) := by subst hK; exact cr_any hc
theorem k_sorted (hK : X.K = K) : CallR X (.builtin "sorted") (rSorted K) := by subst hK; exact cr_sorted
def tTruK (K : PySem.W.Frag) (ta : TE) : TT := fun σ H Q => ta σ H fun x H' => ∃ k, TruV K x H' k ∧ Q k H'
theorem k_truth {a : Expr} {ta : TE} (hK : X.K = K) (ha : PE X a ta) (he : ∀ whole, isTrue a X.env whole = (do let v ← whole; standAt a.pos; holding [v] (truthy v))) : PT X a (tTruK K ta) := by subst hK; exact pt_truth ha he
theorem k_tup {es : List Expr} {k n : Nat} {pos : Pos} {t : TGs} (hK : X.K = K) (hc : X.calm = true) (h : PGs X es t)
    (hn : (assignEach es X.env).length = n := by rfl) (hst : (assignEach es X.env).findIdx? (·.1) = none := by rfl) : PG X (.Tuple es k pos) (gTup K n t) := by subst hK; exact pg_tup hc h hn hst
theorem k_bm0 {T : String} {to : TE} {r : V → List V → Hp → VK → Prop} {e : Expr} (hK : X.K = K) (h : PE X e (tBM0 X.K T r to)) : PE X e (tBM0 K T r to) := by subst hK; exact h
theorem k_bm {T : String} {to : TE} {ta : TA} {r : V → List V → Hp → VK → Prop} {e : Expr} (hK : X.K = K) (h : PE X e (tBM X.K T r to ta)) : PE X e (tBM K T r to ta) := by subst hK; exact h
theorem k_rev {e : Expr} {te : TE} {k : Nat} {p1 p2 p3 pos : Pos} (hK : X.K = K) (he : PE X e te) : PE X (.Subscript e (.Slice none none (some (.UnaryOp .USub (.Constant (.int 1) k p1) p2)) p3) pos) (tRevL K te) := by subst hK; exact pe_revL he
theorem k_index (hK : X.K = K) : MtR X "list.index" (rIndex K) := by subst hK; exact mt_index
end
section
variable {K : PySem.W.Frag} {σ : L2.St} {H : Hp} {ta : TE} {QT : Bool → Hp → Prop}
theorem x_tru : tTruK K ta σ H QT = ta σ H (fun x H' => ∃ k, TruV K x H' k ∧ QT k H') := rfl
end
/-! ### loops -/
section
variable {K : PySem.W.Frag} {σ : L2.St} {H : Hp} {D : Ends} {g : TG} {tb : TS}
theorem lg_rng {lo : Int} {n : Nat} (Pv : Nat → L2.St → Hp → Prop) (h0 : Pv 0 σ H)
    (hs : ∀ i σ H, i < n → Pv i σ H → g (.int (lo + i)) σ H fun σ2 H2 => tb { D with nx := Pv (i + 1), ct := Pv (i + 1), bk := D.nx } σ2 H2) (hd : ∀ σ H, Pv n σ H → D.nx σ H) : LoopG (Itr lo n) g tb D σ H := for_range Pv h0 hs hd
theorem lg_rngC {lo c : Int} {n : Nat} (Pv : Nat → L2.St → Hp → Prop) (h0 : Pv 0 σ H)
    (hs : ∀ i σ H, i < n → Pv i σ H → g (.int (lo + (i : Nat) * c)) σ H fun σ2 H2 => tb { D with nx := Pv (i + 1), ct := Pv (i + 1), bk := D.nx } σ2 H2) (hd : ∀ σ H, Pv n σ H → D.nx σ H) : LoopG (Itc lo c n) g tb D σ H := for_rangeC Pv h0 hs hd
theorem lg_list {a : Addr} {xs : List V} (Pv : Nat → L2.St → Hp → Prop) (h0 : Pv 0 σ H) (hl : ∀ i σ H, i ≤ xs.length → Pv i σ H → SqL K H a xs)
    (hs : ∀ i x σ H, xs[i]? = some x → Pv i σ H → g x σ H fun σ2 H2 => tb { D with nx := Pv (i + 1), ct := Pv (i + 1), bk := D.nx } σ2 H2) (hd : ∀ σ H, Pv xs.length σ H → D.nx σ H) : LoopG (Itl K a) g tb D σ H := for_list Pv h0 hl hs hd
/-- enumerate over a list that stands still: each pair is a new tuple -/
theorem lg_enum {a : Addr} {xs : List V} (Pv : Nat → L2.St → Hp → Prop) (h0 : Pv 0 σ H) (hl : ∀ i σ H, i ≤ xs.length → Pv i σ H → SqL K H a xs)
    (hs : ∀ i x σ H T, xs[i]? = some x → Pv i σ H → H T = none → g (.ref T) σ (upd H T (.tup [.int (i : Nat), x])) fun σ2 H2 => tb { D with nx := Pv (i + 1), ct := Pv (i + 1), bk := D.nx } σ2 H2) (hd : ∀ σ H, Pv xs.length σ H → D.nx σ H) : LoopG (Ite K a) g tb D σ H := by
  refine ⟨fun i m σ H => m = xs.length - i ∧ i ≤ xs.length ∧ Pv i σ H, ⟨xs.length, by simp, Nat.zero_le _, h0⟩, ?_⟩
  rintro i m σ H ⟨rfl, hi, p⟩
  have q := hl i σ H hi p
  by_cases hlt : i < xs.length
  · refine .inr ⟨⟨xs, xs[i], q, by simp [hlt]⟩, Pv (i + 1), fun σ' H' p' => ⟨xs.length - (i + 1), by omega, rfl, hlt, p'⟩, fun x H' y => ?_⟩
    obtain ⟨T, x', rfl, hT, rfl, f⟩ := y
    exact hs i x' σ H T (f xs q) p hT
  · have e : i = xs.length := by omega
    subst e
    exact .inl ⟨⟨xs, q, Nat.le_refl _⟩, hd σ H p⟩
/-- a pair unpacked -/
theorem g_two {i j : Nat} {T : Addr} {x y : V} {QG : L2.St → Hp → Prop} (h : H T = some (.tup [x, y])) (q : QG ((σ.set i (some x)).set j (some y)) H) : gTup K 2 (gCons (gName i) (gCons (gName j) gNil)) (.ref T) σ H QG :=
  ⟨T, [x, y], rfl, .inl (.inl h), rfl, x, [y], rfl, y, [], rfl, rfl, q⟩
end
/-! ### comprehensions over lists whose elements are given by a function of the turn -/
section
variable {K : PySem.W.Frag} {σ : L2.St} {H1 : Hp} {g : TG} {tt : TT} {te : TE} {vs : List Nat} {Dl : Addr} {Q : VK}
theorem lc_g (n : Nat) {J : It} (Pv : Nat → Hp → Prop) (h0 : Pv 0 (upd H1 Dl (.lst []))) (hst : ∀ H, Pv n H → J.stop n H) (hgo : ∀ i H, i < n → Pv i H → J.go i H)
    (hs : ∀ i H x H', i < n → Pv i H → J.yld i H x H' → g x (wipe σ vs) H' fun σ2 H2 => wipe σ2 vs = wipe σ vs ∧ tt σ2 H2 fun b H3 =>
      if b = true then te σ2 H3 fun y H4 => ∃ acc, H4 Dl = some (.lst acc) ∧ acc.length < sizeLine ∧ Pv (i + 1) (upd H4 Dl (.lst (acc ++ [y]))) else Pv (i + 1) H3) (hd : ∀ H, Pv n H → Q (.ref Dl) H) : LcG J g tt te vs σ Dl H1 Q := by
  refine ⟨fun i m H => m = n - i ∧ i ≤ n ∧ Pv i H, ⟨n, by simp, Nat.zero_le _, h0⟩, ?_⟩
  rintro i m H ⟨rfl, hi, p⟩
  by_cases hlt : i < n
  · exact .inr ⟨hgo i H hlt p, Pv (i + 1), fun H' p' => ⟨n - (i + 1), by omega, rfl, hlt, p'⟩, fun x H' y => hs i H x H' hlt p y⟩
  · have e : i = n := by omega
    subst e
    exact .inl ⟨hst H p, hd H p⟩
end
/-! ### comprehensions that change nothing -/
section
variable {K : PySem.W.Frag} {σ : L2.St} {H1 : Hp} {g : TG} {tt : TT} {te : TE} {vs : List Nat} {Dl : Addr} {Q : VK}
def kept (n : Nat) (keep : Nat → Bool) (f : Nat → V) : List V := ((List.range n).filter keep).map f
theorem kept_yes {n : Nat} {k : Nat → Bool} {f : Nat → V} (h : k n = true) : kept (n + 1) k f = kept n k f ++ [f n] := by
  unfold kept
  rw [List.range_succ, List.filter_append, List.map_append]
  simp [h]
theorem kept_no {n : Nat} {k : Nat → Bool} {f : Nat → V} (h : k n = false) : kept (n + 1) k f = kept n k f := by
  unfold kept
  rw [List.range_succ, List.filter_append, List.map_append]
  simp [h]
theorem kept_len (n : Nat) (k : Nat → Bool) (f : Nat → V) : (kept n k f).length ≤ n := by
  unfold kept
  rw [List.length_map]
  exact Nat.le_trans (List.length_filter_le _ _) (by rw [List.length_range]; exact Nat.le_refl _)
theorem kept_all (n : Nat) (f : Nat → V) : kept n (fun _ => true) f = (List.range n).map f := by
  unfold kept
  rw [List.filter_eq_self.mpr (by simp)]
theorem lc_pure {J : It} (n : Nat) (item : Nat → L2.St) (keep : Nat → Bool) (f : Nat → V) (hD : H1 Dl = none) (hn : n ≤ 100000)
    (hst : ∀ H', Evl.Ex H1 H' → J.stop n H') (hgo : ∀ i H', i < n → Evl.Ex H1 H' → J.go i H')
    (hy : ∀ i H' x H'' (QG : L2.St → Hp → Prop), i < n → Evl.Ex H1 H' → J.yld i H' x H'' → (Evl.Ex H' H'' → QG (item i) H'') → g x (wipe σ vs) H'' QG)
    (hw : ∀ i, i < n → wipe (item i) vs = wipe σ vs) (ht : ∀ i, i < n → Evl.EvT tt (item i) H1 (keep i)) (he : ∀ i, i < n → keep i = true → Evl.Ev te (item i) H1 (f i))
    (hd : ∀ H', Evl.Ex H1 H' → H' Dl = some (.lst (kept n keep f)) → Q (.ref Dl) H') : LcG J g tt te vs σ Dl H1 Q := by
  refine lc_g n (fun i H' => Evl.Ex H1 H' ∧ H' Dl = some (.lst (kept i keep f))) ⟨Evl.Ex.new hD, upd_same⟩ (fun H' h => hst H' h.1) (fun i H' hi h => hgo i H' hi h.1) (fun i H' x H'' hi h y => ?_) (fun H' h => hd H' h.1 h.2)
  obtain ⟨e, hl⟩ := h
  refine hy i H' x H'' _ hi e y fun e2 => ⟨hw i hi, ht i hi H'' (e.trans e2) _ fun H3 e3 => ?_⟩
  have hl3 := e3 _ _ (e2 _ _ hl)
  cases hk : keep i with
  | false =>
    show (if false = true then _ else _)
    rw [if_neg Bool.false_ne_true, kept_no hk]
    exact ⟨(e.trans e2).trans e3, hl3⟩
  | true =>
    show (if true = true then _ else _)
    rw [if_pos rfl]
    refine he i hi hk H3 ((e.trans e2).trans e3) _ fun H4 e4 => ⟨_, e4 _ _ hl3, Nat.lt_of_lt_of_le (Nat.lt_of_le_of_lt (kept_len i keep f) hi) (Nat.le_trans hn (by decide)), ?_⟩
    rw [kept_yes hk]
    exact ⟨(((e.trans e2).trans e3).trans e4).mut hD, upd_same⟩
theorem tyes {σ : L2.St} {H : Hp} : Evl.EvT tYes σ H true := fun H1 _ _ q => q H1 (Evl.Ex.refl H1)
theorem lc_enum {a : Addr} {xs : List V} {j k : Nat} (keep : Nat → Bool) (f : Nat → V) (hx : SqL K H1 a xs) (hD : H1 Dl = none) (hn : xs.length ≤ 100000)
    (hw : ∀ u v : V, wipe (((wipe σ vs).set j (some u)).set k (some v)) vs = wipe σ vs)
    (ht : ∀ i x, xs[i]? = some x → Evl.EvT tt (((wipe σ vs).set j (some (.int (i : Nat)))).set k (some x)) H1 (keep i))
    (he : ∀ i x, xs[i]? = some x → keep i = true → Evl.Ev te (((wipe σ vs).set j (some (.int (i : Nat)))).set k (some x)) H1 (f i))
    (hd : ∀ H', Evl.Ex H1 H' → H' Dl = some (.lst (kept xs.length keep f)) → Q (.ref Dl) H') : LcG (Ite K a) (gTup K 2 (gCons (gName j) (gCons (gName k) gNil))) tt te vs σ Dl H1 Q := by
  refine lc_pure xs.length (fun i => ((wipe σ vs).set j (some (.int (i : Nat)))).set k (some (xs.getD i .non))) keep f hD hn (fun H' e => ⟨xs, Evl.ex_l e hx, Nat.le_refl _⟩) (fun i H' hi e => ⟨xs, xs[i], Evl.ex_l e hx, List.getElem?_eq_getElem hi⟩)
    (fun i H' x H'' QG hi e y q => ?_) (fun i hi => hw _ _) (fun i hi => ht i _ (by rw [List.getD_eq_getElem?_getD, List.getElem?_eq_getElem hi]; rfl)) (fun i hi => he i _ (by rw [List.getD_eq_getElem?_getD, List.getElem?_eq_getElem hi]; rfl)) hd
  obtain ⟨T, v, rfl, hT, rfl, hf⟩ := y
  have hv := hf xs (Evl.ex_l e hx)
  have e1 : xs.getD i .non = v := by rw [List.getD_eq_getElem?_getD, hv]; rfl
  refine g_two upd_same ?_
  have q2 := q (Evl.Ex.new hT)
  rw [e1] at q2
  exact q2
theorem lc_list {a : Addr} {xs : List V} {j : Nat} (keep : Nat → Bool) (f : Nat → V) (hx : SqL K H1 a xs) (hD : H1 Dl = none) (hn : xs.length ≤ 100000)
    (hw : ∀ u : V, wipe ((wipe σ vs).set j (some u)) vs = wipe σ vs)
    (ht : ∀ i x, xs[i]? = some x → Evl.EvT tt ((wipe σ vs).set j (some x)) H1 (keep i))
    (he : ∀ i x, xs[i]? = some x → keep i = true → Evl.Ev te ((wipe σ vs).set j (some x)) H1 (f i))
    (hd : ∀ H', Evl.Ex H1 H' → H' Dl = some (.lst (kept xs.length keep f)) → Q (.ref Dl) H') : LcG (Itl K a) (gName j) tt te vs σ Dl H1 Q := by
  refine lc_pure xs.length (fun i => (wipe σ vs).set j (some (xs.getD i .non))) keep f hD hn (fun H' e => ⟨xs, Evl.ex_l e hx, Nat.le_refl _⟩) (fun i H' hi e => ⟨xs, xs[i], Evl.ex_l e hx, List.getElem?_eq_getElem hi⟩)
    (fun i H' x H'' QG hi e y q => ?_) (fun i hi => hw _) (fun i hi => ht i _ (by rw [List.getD_eq_getElem?_getD, List.getElem?_eq_getElem hi]; rfl)) (fun i hi => he i _ (by rw [List.getD_eq_getElem?_getD, List.getElem?_eq_getElem hi]; rfl)) hd
  obtain ⟨rfl, hf⟩ := y
  have hv := hf xs (Evl.ex_l e hx)
  have e1 : xs.getD i .non = x := by rw [List.getD_eq_getElem?_getD, hv]; rfl
  show QG _ _
  rw [← e1]
  exact q (Evl.Ex.refl _)
theorem lc_rng {lo : Int} {n j : Nat} (keep : Nat → Bool) (f : Nat → V) (hD : H1 Dl = none) (hn : n ≤ 100000)
    (hw : ∀ u : V, wipe ((wipe σ vs).set j (some u)) vs = wipe σ vs)
    (ht : ∀ i, i < n → Evl.EvT tt ((wipe σ vs).set j (some (.int (lo + i)))) H1 (keep i))
    (he : ∀ i, i < n → keep i = true → Evl.Ev te ((wipe σ vs).set j (some (.int (lo + i)))) H1 (f i))
    (hd : ∀ H', Evl.Ex H1 H' → H' Dl = some (.lst (kept n keep f)) → Q (.ref Dl) H') : LcG (Itr lo n) (gName j) tt te vs σ Dl H1 Q := by
  refine lc_pure n (fun i => (wipe σ vs).set j (some (.int (lo + i)))) keep f hD hn (fun H' e => Nat.le_refl _) (fun i H' hi e => hi)
    (fun i H' x H'' QG hi e y q => ?_) (fun i hi => hw _) ht he hd
  obtain ⟨rfl, rfl⟩ := y
  exact q (Evl.Ex.refl _)
end
/-! ### operations on values -/
section
variable {K : PySem.W.Frag} {H : Hp} {Q : VK}
theorem isi_int {i : Int} {T : String} {b : Bool} (h : kitB "int" T = some b) (q : Q (.bl b) H) : rIsi K [.int i, .ty T] H Q :=
  ⟨.int i, .ty T, .type "int", .type T, b, rfl, .ty T, .base (.int i), kit_ty h, q⟩
theorem ixL {p : Addr} {xs : List V} {i : Int} {v : V} (h : SqL K H p xs) (hi : atI xs i = some v) (q : Q v H) : rIxL K (.ref p) (.int i) H Q := ⟨p, xs, i, v, rfl, rfl, h, hi, q⟩
theorem setL {p : Addr} {xs : List V} {i : Int} {j : Nat} {v : V} {R : Hp → Prop} (h : H p = some (.lst xs)) (hj : ixN xs.length i = some j) (q : R (upd H p (.lst (xs.set j v)))) : rSetL (.ref p) (.int i) v H R := ⟨p, xs, i, j, rfl, rfl, h, hj, q⟩
theorem repL {p : Addr} {xs : List V} {k : Int} (h : H p = some (.lst xs)) (h1 : -(2 ^ 63) ≤ k) (h2 : k < 2 ^ 63) (hz : xs.length * k.toNat ≤ sizeLine) (q : ∀ l, H l = none → Q (.ref l) (upd H l (.lst (List.replicate k.toNat xs).flatten))) : rRep (.ref p) (.int k) H Q := ⟨p, k, xs, rfl, rfl, h, h1, h2, hz, q⟩
theorem catL {p b : Addr} {xs ys : List V} (h : H p = some (.lst xs)) (hb : H b = some (.lst ys)) (hz : xs.length + ys.length ≤ sizeLine) (q : ∀ l, H l = none → Q (.ref l) (upd H l (.lst (xs ++ ys)))) : rCat (.ref p) (.ref b) H Q := ⟨p, b, xs, ys, rfl, rfl, h, hb, hz, q⟩
theorem sumL {p : Addr} {ns : List Int} (h : SqL K H p (ns.map V.int)) (q : Q (.int ns.sum) H) : rSum K [.ref p] H Q := ⟨p, ns, rfl, h, q⟩
theorem appL {p : Addr} {xs : List V} {y : V} (h : H p = some (.lst xs)) (hz : xs.length < sizeLine) (q : Q .non (upd H p (.lst (xs ++ [y])))) : rAppend (.ref p) [y] H Q := ⟨p, xs, y, rfl, rfl, h, hz, q⟩
theorem tyL {p : Addr} {xs : List V} (h : H p = some (.lst xs)) : tyV K "list" (.ref p) H := Or.inl ⟨rfl, _, Or.inl (Or.inl h)⟩
theorem atI_n {xs : List V} {i : Int} {j : Nat} {v : V} (e : i = (j : Int)) (h : xs[j]? = some v) : atI xs i = some v := by
  subst e
  have hj := (List.getElem?_eq_some_iff.mp h).1
  unfold atI ixN
  rw [if_pos (by omega), if_pos (by omega)]
  exact h
theorem ixN_n {n : Nat} {i : Int} {j : Nat} (e : i = (j : Int)) (h : j < n) : ixN n i = some j := by
  subst e
  unfold ixN
  rw [if_pos (by omega), if_pos (by omega)]
  rfl
theorem sz_ok {n : Nat} (h : n ≤ 100000) : n ≤ sizeLine := Nat.le_trans h (by decide)
theorem sz_lt {n : Nat} (h : n < 100000) : n < sizeLine := Nat.lt_of_lt_of_le h (by decide)
end
end BC

set_option Elab.async false
set_option linter.all false
set_option maxRecDepth 100000
set_option maxHeartbeats 4000000
namespace BC
open PySem PySem.Spec PyProof.Rows L2 Evl RZ
/-! ### all but the object at b stands -/
def Fx (b : Addr) (H H' : Hp) : Prop := ∀ a o, a ≠ b → H a = some o → H' a = some o
theorem Fx.refl (b : Addr) (H : Hp) : Fx b H H := fun _ _ _ h => h
theorem Fx.trans {b : Addr} {H H1 H2 : Hp} (x : Fx b H H1) (y : Fx b H1 H2) : Fx b H H2 := fun a o n h => y a o n (x a o n h)
theorem Fx.of {b : Addr} {H H' : Hp} (e : Ex H H') : Fx b H H' := fun a o _ h => e a o h
theorem Fx.put {b : Addr} {H : Hp} {o : HO} : Fx b H (upd H b o) := fun a u n h => by rw [upd_ne n]; exact h
theorem Fx.ex {b : Addr} {H H' : Hp} (x : Fx b H H') (h : H b = none) : Ex H H' := fun a o e => x a o (ne_of_none e h) e
theorem Fx.l {K : PySem.W.Frag} {b a : Addr} {H H' : Hp} {xs : List V} (x : Fx b H H') (n : a ≠ b) (h : SqL K H a xs) : SqL K H' a xs := by
  rcases h with h | h
  · rcases h with h | ⟨o, h⟩
    · exact .inl (.inl (x a _ n h))
    · exact .inl (.inr ⟨o, x a _ n h⟩)
  · exact .inr h
/-! ### lists -/
theorem cutV_mem {xs : List V} {lo hi : Option Int} {x : V} (h : x ∈ cutV xs lo hi) : x ∈ xs := by
  unfold cutV at h
  exact List.mem_of_mem_drop (List.mem_of_mem_take h)
theorem cutV_len (xs : List V) (lo hi : Option Int) : (cutV xs lo hi).length ≤ xs.length := by
  unfold cutV
  rw [List.length_take, List.length_drop]
  omega
theorem two_at0 {x y r : Int} {n : Nat} (h0 : 0 ≤ r) (h1 : r < 2) (hx0 : 0 ≤ x) (hx1 : x ≤ n) (hy0 : 0 ≤ y) (hy1 : y ≤ n) : ∃ m : Nat, m ≤ n ∧ atI [V.int x, V.int y] r = some (.int m) := by
  by_cases e : r = 0
  · exact ⟨x.toNat, by omega, by rw [Int.toNat_of_nonneg hx0]; exact atI_n (j := 0) e rfl⟩
  · exact ⟨y.toNat, by omega, by rw [Int.toNat_of_nonneg hy0]; exact atI_n (j := 1) (by omega) rfl⟩
theorem two_at {x y r : Int} {n : Nat} (h0 : 0 ≤ r) (h1 : r < 2) (hx0 : 1 ≤ x) (hx1 : x ≤ n) (hy0 : 1 ≤ y) (hy1 : y ≤ n) : ∃ m : Nat, 1 ≤ m ∧ m ≤ n ∧ atI [V.int x, V.int y] r = some (.int m) := by
  by_cases e : r = 0
  · exact ⟨x.toNat, by omega, by omega, by rw [Int.toNat_of_nonneg (by omega)]; exact atI_n (j := 0) e rfl⟩
  · exact ⟨y.toNat, by omega, by omega, by rw [Int.toNat_of_nonneg (by omega)]; exact atI_n (j := 1) (by omega) rfl⟩
/-- a written list read at a drawn place -/
theorem pick {xs : List V} {r : Int} (h0 : 0 ≤ r) (h1 : r < xs.length) : ∃ v, v ∈ xs ∧ atI xs r = some v := by
  have hj : r.toNat < xs.length := by omega
  exact ⟨xs[r.toNat], List.getElem_mem hj, atI_n (j := r.toNat) (by omega) (List.getElem?_eq_getElem hj)⟩
theorem rep_one (n : Nat) (v : V) : (List.replicate n [v]).flatten = List.replicate n v := by
  induction n with
  | zero => rfl
  | succ n ih => rw [List.replicate_succ, List.flatten_cons, ih]; rfl
theorem take_succ {xs : List V} {i : Nat} {v : V} (h : xs[i]? = some v) : xs.take (i + 1) = xs.take i ++ [v] := by
  rw [List.take_add_one, h]
  rfl
theorem log2_small {i : Int} {k : Nat} (hk : 0 < k) (h : i.natAbs < 2 ^ k) : i.natAbs.log2 < k := PySem.Flt.log2_lt_of hk h
/-! ### kinds -/
section
variable {X : Cx} {K : PySem.W.Frag} {H : Hp} {Q : VK}
theorem k_pi_zipA {e e2 : Expr} {ta : TA} {p pos tpos : Pos} {elts : List Expr} {kk : Nat} (hK : X.K = K) (hg : Gl X "zip") (hm : X.mg "zip" = none) (ha : PA X [e, e2] ta)
    (hs : starEach [e, e2] X.env = (false, eval e X.env) :: starEach [e2] X.env := by rfl) (hpl : (backTo pos (starEach [e2] X.env)).any (·.1) = false := by rfl) : PI X (.Tuple elts kk tpos) (.Call (.Name "zip" p) [e, e2] [] pos) (iZipA K ta) := by subst hK; exact pi_zipA hg hm ha hs hpl
theorem k_isiT (hK : X.K = K) : CallR X (.builtin "isinstance") (rIsiT K) := by subst hK; exact call_isiT
theorem tyx_l {a : Addr} {xs : List V} (h : SqL K H a xs) : TyX K H (.ref a) (.type "list") := by
  rcases h with (h | ⟨o, h⟩) | ⟨o, its, n, h, c, _⟩
  · exact .base (.lst h)
  · exact .base (.frz h)
  · exact .kList h c
theorem tyx_t {a : Addr} {xs : List V} (h : SqT K H a xs) : TyX K H (.ref a) (.type "tuple") := by
  rcases h with (h | ⟨o, h⟩) | ⟨o, its, n, h, c, _⟩
  · exact .base (.tup h)
  · exact .fTuple h
  · exact .kTuple h c
def tyn : PyData → String
  | .none => "NoneType"
  | .bool _ => "bool"
  | .int _ => "int"
  | .str _ => "str"
  | .list _ => "list"
  | .tuple _ => "tuple"
  | .dict _ => "dict"
theorem tyx_d {v : V} {d : PyData} (h : Dp K H v d) : TyX K H v (.type (tyn d)) := by
  cases h with
  | non => exact .base .non
  | bl b => exact .base (.bl b)
  | int i => exact .base (.int i)
  | str x => exact .base (.str x)
  | lst h _ => exact tyx_l h
  | tup h _ => exact tyx_t h
theorem isi_x {v : V} {A T : String} {b : Bool} (h : TyX K H v (.type A)) (hk : kitB A T = some b) (q : Q (.bl b) H) : rIsi K [v, .ty T] H Q :=
  ⟨v, .ty T, .type A, .type T, b, rfl, .ty T, h, kit_ty hk, q⟩
theorem kit_two {A B C : String} {b c : Bool} (h1 : kitB A B = some b) (h2 : kitB A C = some c) : PySem.W.kitAny K (.type A) [.type B, .type C] = some (b || c) := by
  refine kitAny_cons (kit_ty h1) (fun e => ?_) (fun e => by rw [e]; rfl)
  subst e
  refine kitAny_cons (kit_ty h2) (fun e => ?_) (fun e => by rw [e]; rfl)
  subst e
  exact kitAny_nil
theorem isiT2 {v : V} {p : Addr} {A B C : String} {b c : Bool} (h : TyX K H v (.type A)) (hp : H p = some (.tup [.ty B, .ty C])) (h1 : kitB A B = some b) (h2 : kitB A C = some c) (q : Q (.bl (b || c)) H) : rIsiT K [v, .ref p] H Q :=
  ⟨v, p, [.ty B, .ty C], .type A, [.type B, .type C], b || c, rfl, hp, .cons (.ty B) (.cons (.ty C) .nil), h, kit_two h1 h2, q⟩
theorem ex_d {H H' : Hp} (e : Ex H H') : ∀ (d : PyData) (v : V), Dp K H v d → Dp K H' v d
  | .none, _, h => by cases h; exact .non
  | .bool _, _, h => by cases h; exact .bl _
  | .int _, _, h => by cases h; exact .int _
  | .str _, _, h => by cases h; exact .str _
  | .dict _, _, h => by cases h
  | .list ds, _, h => by
    cases h with
    | lst h1 h2 => exact .lst (ex_l e h1) (all ds _ h2)
  | .tuple ds, _, h => by
    cases h with
    | tup h1 h2 => exact .tup (ex_t e h1) (all ds _ h2)
where
  all : ∀ (ds : List PyData) (vs : List V), DpAll K H vs ds → DpAll K H' vs ds
  | [], _, h => by cases h; exact .nil
  | d :: ds, _, h => by
    cases h with
    | cons h1 h2 => exact .cons (ex_d e d _ h1) (all ds _ h2)
theorem dp_len : ∀ {vs : List V} {ds : List PyData}, DpAll K H vs ds → vs.length = ds.length
  | _, _, .nil => rfl
  | _, _, .cons _ h => by rw [List.length_cons, List.length_cons, dp_len h]
theorem dp_at : ∀ {vs : List V} {ds : List PyData} {i : Nat} {v : V}, DpAll K H vs ds → vs[i]? = some v → ∃ d, ds[i]? = some d ∧ Dp K H v d
  | _, _, _, _, .nil, e => by simp at e
  | _, _, 0, _, .cons h _, e => by simp at e; subst e; exact ⟨_, rfl, h⟩
  | _, _, i + 1, _, .cons _ h, e => by
    obtain ⟨d, e1, e2⟩ := dp_at (i := i) h (by simpa using e)
    exact ⟨d, by simpa using e1, e2⟩
theorem dp_ints : ∀ ns : List Int, DpAll K H (ns.map V.int) (ns.map PyData.int)
  | [] => .nil
  | n :: ns => .cons (.int n) (dp_ints ns)
/-- data of so many levels, of moderate size -/
inductive Sh : Nat → PyData → Prop
  | non (n : Nat) : Sh n .none
  | bl (n : Nat) (b : Bool) : Sh n (.bool b)
  | int (n : Nat) (i : Int) : Sh n (.int i)
  | str (n : Nat) (x : Str) : Sh n (.str x)
  | lst {n : Nat} {ds : List PyData} (hl : ds.length ≤ 100000) (h : ∀ d ∈ ds, Sh n d) : Sh (n + 1) (.list ds)
  | tup {n : Nat} {ds : List PyData} (hl : ds.length ≤ 100000) (h : ∀ d ∈ ds, Sh n d) : Sh (n + 1) (.tuple ds)
theorem sh_ints (ns : List Int) (h : ns.length ≤ 100000) : Sh 1 (.list (ns.map PyData.int)) := .lst (by rw [List.length_map]; exact h) fun d hd => by
  obtain ⟨n, _, rfl⟩ := List.mem_map.mp hd
  exact .int 0 n
end
/-! ### more readings -/
section
variable {K : PySem.W.Frag} {σ : L2.St} {H H1 : Hp} {g : TG} {tt : TT} {te : TE} {vs : List Nat} {Dl : Addr} {Q : VK}
theorem x_eqB {m n : Bool} : rEq (.bl m) (.bl n) H Q ↔ Q (.bl (decide (m = n))) H := by
  unfold rEq
  rw [show scal (V.bl m) (V.bl n) = true from rfl]
  cases m <;> cases n <;> simp
theorem x_neB {m n : Bool} : rNe (.bl m) (.bl n) H Q ↔ Q (.bl (!decide (m = n))) H := by
  unfold rNe
  rw [show scal (V.bl m) (V.bl n) = true from rfl]
  cases m <;> cases n <;> simp
theorem x_eqS {m n : Str} : rEq (.str m) (.str n) H Q ↔ Q (.bl (decide (m = n))) H := by
  unfold rEq
  rw [show scal (V.str m) (V.str n) = true from rfl]
  by_cases e : m = n
  · subst e; simp
  · simp [e]
theorem x_neS {m n : Str} : rNe (.str m) (.str n) H Q ↔ Q (.bl (!decide (m = n))) H := by
  unfold rNe
  rw [show scal (V.str m) (V.str n) = true from rfl]
  by_cases e : m = n
  · subst e; simp
  · simp [e]
theorem allL {p : Addr} {bs : List Bool} (h : SqL K H p (bs.map V.bl)) (q : Q (.bl (bs.all id)) H) : rAll K [.ref p] H Q := ⟨p, bs, rfl, h, q⟩
theorem anyL {p : Addr} {bs : List Bool} (h : SqL K H p (bs.map V.bl)) (q : Q (.bl (bs.any id)) H) : rAny K [.ref p] H Q := ⟨p, bs, rfl, h, q⟩
theorem lenL {p : Addr} {xs : List V} (h : SqL K H p xs) (q : Q (.int (xs.length : Nat)) H) : rLen K [.ref p] H Q := ⟨p, xs, rfl, .inl h, q⟩
theorem lenT {p : Addr} {xs : List V} (h : SqT K H p xs) (q : Q (.int (xs.length : Nat)) H) : rLen K [.ref p] H Q := ⟨p, xs, rfl, .inr h, q⟩
theorem x_izipA {a : TA} {R : It → Hp → Prop} : iZipA K a σ H R = a σ H (fun vs H1 => ∃ a b xs ys, vs = [.ref a, .ref b] ∧ ((SqL K H1 a xs ∧ SqL K H1 b ys ∧ R (Itz K a b) H1) ∨ (SqT K H1 a xs ∧ SqT K H1 b ys ∧ R (ItzT K a b) H1))) := rfl
theorem eq_same {v : V} (h : scal v v = true) (q : Q (.bl true) H) : rEq v v H Q := ⟨h, by rw [decide_eq_true rfl]; exact q⟩
theorem g_three {i j l : Nat} {T : Addr} {x y z : V} {QG : L2.St → Hp → Prop} (h : H T = some (.tup [x, y, z])) (q : QG (((σ.set i (some x)).set j (some y)).set l (some z)) H) : gTup K 3 (gCons (gName i) (gCons (gName j) (gCons (gName l) gNil))) (.ref T) σ H QG :=
  ⟨T, [x, y, z], rfl, .inl (.inl h), rfl, x, [y, z], rfl, y, [z], rfl, z, [], rfl, rfl, q⟩
theorem lc_zip {a b : Addr} {xs ys : List V} {j k : Nat} (keep : Nat → Bool) (f : Nat → V) (hx : SqL K H1 a xs) (hy : SqL K H1 b ys) (he0 : xs.length = ys.length) (hD : H1 Dl = none) (hn : xs.length ≤ 100000)
    (hw : ∀ u v : V, wipe (((wipe σ vs).set j (some u)).set k (some v)) vs = wipe σ vs)
    (ht : ∀ i x y, xs[i]? = some x → ys[i]? = some y → Evl.EvT tt (((wipe σ vs).set j (some x)).set k (some y)) H1 (keep i))
    (he : ∀ i x y, xs[i]? = some x → ys[i]? = some y → keep i = true → Evl.Ev te (((wipe σ vs).set j (some x)).set k (some y)) H1 (f i))
    (hd : ∀ H', Evl.Ex H1 H' → H' Dl = some (.lst (kept xs.length keep f)) → Q (.ref Dl) H') : LcG (Itz K a b) (gTup K 2 (gCons (gName j) (gCons (gName k) gNil))) tt te vs σ Dl H1 Q := by
  have gx : ∀ i, i < xs.length → xs[i]? = some (xs.getD i .non) := fun i hi => by rw [List.getD_eq_getElem?_getD, List.getElem?_eq_getElem hi]; rfl
  have gy : ∀ i, i < xs.length → ys[i]? = some (ys.getD i .non) := fun i hi => by rw [List.getD_eq_getElem?_getD, List.getElem?_eq_getElem (by omega)]; rfl
  refine lc_pure xs.length (fun i => ((wipe σ vs).set j (some (xs.getD i .non))).set k (some (ys.getD i .non))) keep f hD hn (fun H' e => ⟨xs, ys, Evl.ex_l e hx, Evl.ex_l e hy, .inl (Nat.le_refl _)⟩)
    (fun i H' hi e => ⟨xs, ys, _, _, Evl.ex_l e hx, Evl.ex_l e hy, gx i hi, gy i hi⟩)
    (fun i H' x H'' QG hi e y q => ?_) (fun i hi => hw _ _) (fun i hi => ht i _ _ (gx i hi) (gy i hi)) (fun i hi => he i _ _ (gx i hi) (gy i hi)) hd
  obtain ⟨T, u, v, rfl, hT, rfl, hf, hf2⟩ := y
  have hu := hf xs (Evl.ex_l e hx)
  have hv := hf2 ys (Evl.ex_l e hy)
  have e1 : xs.getD i .non = u := by rw [List.getD_eq_getElem?_getD, hu]; rfl
  have e2 : ys.getD i .non = v := by rw [List.getD_eq_getElem?_getD, hv]; rfl
  refine g_two upd_same ?_
  have q2 := q (Evl.Ex.new hT)
  rw [e1, e2] at q2
  exact q2
theorem lc_zipT {a b : Addr} {xs ys : List V} {j k : Nat} (keep : Nat → Bool) (f : Nat → V) (hx : SqT K H1 a xs) (hy : SqT K H1 b ys) (he0 : xs.length = ys.length) (hD : H1 Dl = none) (hn : xs.length ≤ 100000)
    (hw : ∀ u v : V, wipe (((wipe σ vs).set j (some u)).set k (some v)) vs = wipe σ vs)
    (ht : ∀ i x y, xs[i]? = some x → ys[i]? = some y → Evl.EvT tt (((wipe σ vs).set j (some x)).set k (some y)) H1 (keep i))
    (he : ∀ i x y, xs[i]? = some x → ys[i]? = some y → keep i = true → Evl.Ev te (((wipe σ vs).set j (some x)).set k (some y)) H1 (f i))
    (hd : ∀ H', Evl.Ex H1 H' → H' Dl = some (.lst (kept xs.length keep f)) → Q (.ref Dl) H') : LcG (ItzT K a b) (gTup K 2 (gCons (gName j) (gCons (gName k) gNil))) tt te vs σ Dl H1 Q := by
  have gx : ∀ i, i < xs.length → xs[i]? = some (xs.getD i .non) := fun i hi => by rw [List.getD_eq_getElem?_getD, List.getElem?_eq_getElem hi]; rfl
  have gy : ∀ i, i < xs.length → ys[i]? = some (ys.getD i .non) := fun i hi => by rw [List.getD_eq_getElem?_getD, List.getElem?_eq_getElem (by omega)]; rfl
  refine lc_pure xs.length (fun i => ((wipe σ vs).set j (some (xs.getD i .non))).set k (some (ys.getD i .non))) keep f hD hn (fun H' e => ⟨xs, ys, Evl.ex_t e hx, Evl.ex_t e hy, .inl (Nat.le_refl _)⟩)
    (fun i H' hi e => ⟨xs, ys, _, _, Evl.ex_t e hx, Evl.ex_t e hy, gx i hi, gy i hi⟩)
    (fun i H' x H'' QG hi e y q => ?_) (fun i hi => hw _ _) (fun i hi => ht i _ _ (gx i hi) (gy i hi)) (fun i hi => he i _ _ (gx i hi) (gy i hi)) hd
  obtain ⟨T, u, v, rfl, hT, rfl, hf, hf2⟩ := y
  have hu := hf xs (Evl.ex_t e hx)
  have hv := hf2 ys (Evl.ex_t e hy)
  have e1 : xs.getD i .non = u := by rw [List.getD_eq_getElem?_getD, hu]; rfl
  have e2 : ys.getD i .non = v := by rw [List.getD_eq_getElem?_getD, hv]; rfl
  refine g_two upd_same ?_
  have q2 := q (Evl.Ex.new hT)
  rw [e1, e2] at q2
  exact q2
theorem all_true (n : Nat) : ((List.replicate n true).all id) = true := by
  induction n with
  | zero => rfl
  | succ n ih => rw [List.replicate_succ, List.all_cons, ih]; rfl
theorem kept_const (n : Nat) (v : V) : kept n (fun _ => true) (fun _ => v) = List.replicate n v := by
  rw [kept_all]
  apply List.ext_getElem?
  intro j
  rw [List.getElem?_map]
  by_cases h : j < n
  · rw [List.getElem?_range h, List.getElem?_replicate, if_pos h]
    rfl
  · rw [List.getElem?_eq_none (by rw [List.length_range]; omega), List.getElem?_eq_none (by rw [List.length_replicate]; omega)]
    rfl
end
end BC

set_option Elab.async false
set_option linter.all false
set_option maxRecDepth 100000
set_option maxHeartbeats 4000000
/-! repr of lists wants to know that no repr is under way around: promises that hold where nothing is guarded -/
namespace BC
open PySem PySem.Spec PyProof.Rows L2 Evl
/-- nothing is guarded around -/
def G0 (A : Around) : Prop := A.guards = some []
theorem G0.deeper {A : Around} (g : G0 A) (env : Env) : G0 (A.deeper env) := g
/-- FnOk where nothing is guarded around -/
structure FnG (P : Program) (w : World) (K : PySem.W.Frag) (mg : Str → Option Value) (base : Heap) (CX : CXT) (k : Nat) (f : Addr) (fd : FuncData) (ps : List Str) (sp : Sp) : Prop where
  size : ∀ vs H Q E, sp vs H Q E → vs.length = ps.length
  go : ∀ (A : Around) (outer : List Env) (s : Shared) (H : Hp) (args : Args) (us : List Value) (vs : List V) (Q : VK) (E : XK), G0 A → Room k A → Env0 P w K mg base A outer s H →
    BindsTo s fd args (ps.zip us) → Vals vs us → sp vs H Q E → codeAny (model P w) A (.call (.ref f) args) (CR CX outer P w H s Q E) s
section
variable {P : Program} {w : World} {K : PySem.W.Frag} {mg : Str → Option Value} {base : Heap} {CX : CXT} {k : Nat} {f : Addr} {fd : FuncData} {ps : List Str} {sp : Sp}
theorem FnG.of (F : FnOk P w K mg base CX k f fd ps sp) : FnG P w K mg base CX k f fd ps sp :=
  ⟨F.len, fun A outer s H args us vs Q E _ => F.run A outer s H args us vs Q E⟩
theorem FnG.up (F : FnG P w K mg base CX k f fd ps sp) {j : Nat} (h : k ≤ j) : FnG P w K mg base CX j f fd ps sp :=
  ⟨F.size, fun A outer s H args us vs Q E g hr => F.go A outer s H args us vs Q E g (hr.mono h)⟩
/-- the rule for a def -/
theorem fun_okG {x qual : Str} {st : Stmt} {N : List Str} (F : Fun K x qual st f fd) (S : FnScope N ps (defScope st)) (size : ∀ vs H Q E, sp vs H Q E → vs.length = ps.length)
    (body : ∀ (cdv : Value) (A : Around) (outer : List Env) (s : Shared) (H : Hp) (vs : List V) (Q : VK) (E : XK), G0 (A.deeper (envOfC qual (defScope st) s.heap.objs.size f cdv)) → Room k (A.deeper (envOfC qual (defScope st) s.heap.objs.size f cdv)) → sp vs H Q E →
      ∃ t, PSs (cxOf CX P w K mg base N qual (defScope st) f cdv A outer s H E) (defBody st) t ∧ t { nx := fun _ H' => Q .non H', rt := Q } (start N vs) H) : FnG P w K mg base CX (k + 1) f fd ps sp := by
  obtain ⟨oc, od, kV, doc, pm, an, cdv, ct, osl, rfl, lk, hcd⟩ := F.ex
  refine ⟨size, fun A outer s H args us vs Q E g room env bind vals prom => ?_⟩
  have inK : K.In s.heap := env.mod.kin.keeps fun b o q => (env.bs b o q).1
  have loose : s.heap.NoLimit := env.mod.nolimit.keeps fun b o q => (env.bs b o q).1
  have kinds : ∀ z ∈ ps.zip us, (defScope st).names.lookup z.1 = some .local ∨ ((defScope st).names.lookup z.1 = some .cell ∧ ((cellsFrom (s.heap.objs.size + 1) (defScope st).names []).lookup z.1).isSome = true) := by
    rintro ⟨n, v⟩ hz
    have hn := (List.of_mem_zip hz).1
    rcases S.par n hn with h | h
    · exact Or.inl h
    · exact Or.inr ⟨h, PySem.W.cellsFrom_some _ _ _ (Or.inl h)⟩
  refine codeAny_call_function room.depth (inK _ _ lk) rfl S.co S.gen rfl (PySem.W.codeRec_of inK hcd) (bind _ _ _ _ ?_)
  refine wpAny_newFunctionEnv_cells S.kind kinds fun env' e1 s1 into => ?_
  subst e1
  refine ⟨loose.keeps into.toInCall.keep, codeAny_func ?_⟩
  obtain ⟨t, deriv, read⟩ := body cdv A outer s H vs Q E (g.deeper _) (room.deeper _) prom
  have I := inv_start (CX := CX) (E := E) S room.hd env (size _ _ _ _ prom) vals into
  refine wpAny_mono (deriv.run [] s1 (start N vs) H _ I read) (fun flow s' ends => ?_) fun _ _ q => q
  have done : ∀ {σ2 : L2.St} {H2 : Hp} {v : V} {u : Value}, Inv (cxOf CX P w K mg base N qual (defScope st) f cdv A outer s H E) [] σ2 H2 s' → RelV v u → Q v H2 → CE outer P w H s Q u s' := by
    intro σ2 H2 v u J rel q
    exact ⟨v, H2, J.os, J.bare, J.base, J.hok, rel, q⟩
  match flow, ends with
  | .ret u, ends =>
    obtain ⟨v, σ2, H2, J, rel, q⟩ := ends
    exact done J rel q
  | .next, ends =>
    obtain ⟨σ2, H2, J, q⟩ := ends
    exact done (v := V.non) (u := Value.none) J rfl q
  | .brk, ends =>
    obtain ⟨_, _, _, q⟩ := ends
    exact q.elim
  | .cont, ends =>
    obtain ⟨_, _, _, q⟩ := ends
    exact q.elim
end
section
variable {X : Cx} {CX : CXT} {k : Nat} {f : Addr} {fd : FuncData} {ps : List Str} {sp : Sp} {dvs : List V} {ds : List Value} {E : XK} {x : Str} {p pos : Pos} {e : Expr} {es : List Expr} {t : TA}
theorem call_G {pins : List (Addr × Obj)} {σ : L2.St} {H : Hp} {s : Shared} {Q : VK} {us : List Value} {vs : List V} (F : FnG X.prog X.w X.K X.mg X.base CX k f fd ps sp) (g : G0 X.A) (hr : Room k X.A) (hb : Binds X.K fd ps ds) (hd : Vals dvs ds)
    (hx : Passes CX X E) (I : Inv X pins σ H s) (r : Vals vs us) (h : sp (vs ++ dvs) H Q E) : wpAny (model X.prog X.w) X.A (call (.ref f) us) (EP X pins σ Q) X.xe s := by
  have both : Vals (vs ++ dvs) (us ++ ds) := r.append hd
  have many : (us ++ ds).length = ps.length := both.length.symm.trans (F.size _ _ _ _ h)
  have run := F.go X.A X.stack s H ⟨us, []⟩ (us ++ ds) (vs ++ dvs) Q E g hr I.env0 (hb s us I.kIn many) both h
  refine wpAny_call (codeAny_mono run fun res s' q => ?_)
  match res, q with
  | .error err, q => exact hx pins σ H s err s' I q
  | .ok (.ret u), q => exact I.after q
theorem pe_callG (F : FnG X.prog X.w X.K X.mg X.base CX k f fd ps sp) (g : G0 X.A) (hr : Room k X.A) (hg : Gl X x) (hm : X.mg x = some (.ref f)) (hk : PySem.W.keepIn X.K (.ref f) = true) (hb : Binds X.K fd ps ds) (hd : Vals dvs ds) (hx : Passes CX X E)
    (ha : PA X (e :: es) t) (hdb : (x == ("__debug__" : Str)) = false := by decide) (he : starEach (e :: es) X.env = (false, eval e X.env) :: starEach es X.env := by rfl) (hpl : (backTo pos (starEach es X.env)).any (·.1) = false := by rfl) :
    PE X (.Call (.Name x p) (e :: es) [] pos) (tCall sp dvs E t) := by
  constructor
  intro pins s σ H Q I h
  have args := ha.run pos pins s σ H _ I h
  refine wpAny_Call_Name_kw (ld_glob I hg hm (PySem.W.callWith_K (h₀ := X.base) I.ok.mod.kin hk (thn args ?_) he hpl) hdb)
  rintro us s1 ⟨vs, H1, I1, r, q⟩
  exact ⟨I1.kIn, call_G F g hr hb hd hx I1 r q⟩
end

/-! ### the law's own call, for a promise of this kind -/
section
variable {P : Program} {w : World} {K : PySem.W.Frag} {mg mb : Str → Option Value} {k : Nat} {fa a : Addr} {fd : FuncData} {x : Str} {sp : Sp} {s : Shared} {vs : List Value} {ns : List Int}
/-- the abstract heap at the entry: the script alone, locked; or nothing, where the script is the module's own -/
def entryH (a : Addr) (vs : List Value) (ns : List Int) (own : Bool) : Hp := fun b => if own = false ∧ b = a then some (.frz { cls := .type "list", data := .seq vs.toArray } (.lst (ns.map V.int))) else none
theorem entry_other {own : Bool} {b : Addr} (h : b ≠ a) : entryH a vs ns own b = none := if_neg fun z => h z.2
theorem entry_own {b : Addr} : entryH a vs ns true b = none := if_neg fun z => nomatch z.1
theorem entry_at : entryH a vs ns false a = some (.frz { cls := .type "list", data := .seq vs.toArray } (.lst (ns.map V.int))) := if_pos ⟨rfl, rfl⟩
theorem entry_case {own : Bool} {b : Addr} {o : HO} (h : entryH a vs ns own b = some o) : own = false ∧ b = a ∧ o = .frz { cls := .type "list", data := .seq vs.toArray } (.lst (ns.map V.int)) := by
  unfold entryH at h
  by_cases q : own = false ∧ b = a
  · rw [if_pos q] at h
    exact ⟨q.1, q.2, (Option.some.inj h).symm⟩
  · rw [if_neg q] at h
    cases h
theorem law_goG (hK : K.In s.heap) (hns : s.heap.Ns mainGlobals mg) (hb : s.heap.Ns builtinsNs mb) (hbb : ∀ x : Str, x ≠ "__name__" → mb x = bootBuiltins x) (hlim : s.heap.NoLimit) (hg : s.gens = #[])
    (ha : s.heap.get? a = some { cls := .type "list", data := .seq vs.toArray }) (hi : IntsAre vs ns) (hl : ns.length ≤ sizeLine) (hr : Room k callerA)
    (F : ∀ base : Heap, K.In base → base.Ns mainGlobals mg → FnG P w K mg base CX0 k fa fd [x] sp) (bind : ∀ (s : Shared) (u : Value), BindsTo s fd ⟨[u], []⟩ [(x, u)])
    (prom : ∀ H : Hp, SqL K H a (ns.map V.int) → sp [.ref a] H (fun v _ => v = .bl true) fun _ _ _ => False) :
    codeAny (model P w) callerA (.call (.ref fa) ⟨[.ref a], []⟩) (fun r s' => r = .ok (.ret (.bool true)) ∧ OldK s.heap s'.heap ∧ s'.os = s.os ∧ AllBare s'.gens) s := by
  have rv := vals_ints hi
  have many := hi.length
  obtain ⟨own, hown⟩ : ∃ own : Bool, own = (K.lookup a).isSome := ⟨_, rfl⟩
  let H : Hp := entryH a vs ns own
  have reads : SqL K H a (ns.map V.int) := by
    cases q : K.lookup a with
    | none =>
      have e : own = false := by rw [hown, q]; rfl
      exact Or.inl (Or.inr ⟨_, by show entryH a vs ns own a = _; rw [e]; exact entry_at⟩)
    | some o =>
      have z := hK a o q
      rw [ha] at z
      cases z
      refine Or.inr ⟨_, vs.toArray, _, q, rfl, rfl, rfl, ?_, ?_⟩
      · rw [List.size_toArray, many]
        exact hl
      · exact rv
  have held : HOk P w H s.heap := fun b o q => by
    obtain ⟨_, rfl, rfl⟩ := entry_case q
    exact ⟨ha, by rw [List.length_map]; exact hl, vs, _, rv, ha⟩
  have spare : ∀ {b : Addr} {o : Obj}, s.heap.get? b = some o → (∀ u n, o.data ≠ .seq u n) → H b = none := fun {b o} e d => by
    cases q : H b with
    | none => rfl
    | some u =>
      obtain ⟨_, rfl, _⟩ := entry_case q
      rw [ha] at e
      cases e
      exact absurd rfl (d _ _)
  have nsT : ∀ {b : Addr} {m : Str → Option Value}, s.heap.Ns b m → (hidT s.heap H).Ns b m := by
    rintro b m ⟨o, es, ep, e, d, r⟩
    exact ⟨o, es, ep, hidT_get e (spare e fun u n z => by rw [d] at z; cases z), d, r⟩
  have kT : K.In (hidT s.heap H) := fun b o e => hidT_get (hK b o e) (by
    cases q : H b with
    | none => rfl
    | some u =>
      obtain ⟨z, rfl, _⟩ := entry_case q
      rw [hown, e] at z
      cases z)
  have module : Mod K mg (hidT s.heap H) := ⟨kT, nsT hns, ⟨mb, nsT hb, hbb⟩, by obtain ⟨mc, h1, h2⟩ := hlim; exact ⟨mc, nsT h1, h2⟩⟩
  have entry : Env0 P w K mg (hidT s.heap H) callerA [] s H :=
    ⟨rfl, module, fun b o e => of_hidT e, Nat.le_of_eq (hidT_size _ _), trivial, fun b z => (List.not_mem_nil z).elim, held, .of_eq hg⟩
  have ran := (F _ kT (nsT hns)).go callerA [] s H ⟨[.ref a], []⟩ [.ref a] [.ref a] _ _ rfl hr entry (bind s (.ref a)) (.cons rfl .nil) (prom H reads)
  refine codeAny_mono ran fun r s' q => ?_
  match r, q with
  | .ok (.ret u), q =>
    obtain ⟨v, H', os, bare, un, held', rel, fin⟩ := q
    obtain rfl : v = .bl true := fin
    obtain rfl : u = Value.bool true := rel
    refine ⟨rfl, OldK.of_keep fun b o e => ?_, os, bare⟩
    cases q : H b with
    | none => exact un.keep b o e q (fun z => (List.not_mem_nil z).elim) List.not_mem_nil
    | some u =>
      obtain ⟨_, rfl, rfl⟩ := entry_case q
      have z := (held' _ _ (un.frzs _ _ _ q)).1
      rw [ha] at e
      cases e
      exact z
theorem walk_G {l : PySem.W.OpenLaw} {n k : Nat} {q : Program} {loose : List Str} {XP : (Str → Option Value) → Heap → Prop} {YP : World → Heap → Prop} {d : DefRec} {K : Params → PySem.W.Frag} {sp : World → Sp} {x : Str}
    (hn : l.most = some n) (hn2 : n ≤ sizeLine) (hdf : d.params.defaults = []) (hr : Room k callerA) (hY : ∀ (w : World) (h : Heap), YP w h → (K w.params).In h)
    (F : ∀ (w : World) (mg : Str → Option Value) (fa : Addr) (h : Heap), (K w.params).In h → h.Ns mainGlobals mg → mg d.name = some (.ref fa) →
      ∃ fd : FuncData, (∀ (s : Shared) (u : Value), BindsTo s fd ⟨[u], []⟩ [(x, u)]) ∧ ∀ base : Heap, (K w.params).In base → base.Ns mainGlobals mg → FnG l.prog w (K w.params) mg base CX0 k fa fd [x] (sp w))
    (prom : ∀ (w : World) (H : Hp) (a : Addr) (ns : List Int), ns.length ≤ n → SqL (K w.params) H a (ns.map V.int) → sp w [.ref a] H (fun v _ => v = .bl true) fun _ _ _ => False) :
    PySem.W.WalkO q loose XP YP l.row.toRowW d [] (fun f vs => PySem.call f vs) := by
  refine Att.attach_call hn hdf ?_
  intro w s0 s1 mg mb fa o pm cd doc a vs ns G Y _ hd hcd hmg hobj hints hlen hg
  have inK := hY w _ Y
  obtain ⟨fd, bind, keep⟩ := F w mg fa _ inK G.T.g hmg
  exact law_goG inK G.T.g G.T.b G.T.builtins G.T.nolimit hg hobj hints (Nat.le_trans hlen hn2) hr keep bind fun H hS => prom w H a ns hlen hS
end
end BC

set_option Elab.async false
set_option linter.all false
set_option maxRecDepth 100000
set_option maxHeartbeats 4000000
/-! repr, keywords, more readings -/
namespace BC
open PySem PySem.Spec PyProof.Rows L2 Evl
section
variable {X : Cx} {K : PySem.W.Frag} {σ : L2.St} {H : Hp} {Q : VK}
/-- repr of lists, tuples and what lies in them -/
def rRepr (K : PySem.W.Frag) : List V → Hp → VK → Prop := fun xs H Q => ∃ a d, xs = [.ref a] ∧ Dp K H (.ref a) d ∧ d.showable = true ∧ d.depth ≤ 60 ∧ d.hasDict = false ∧ d.shown.length ≤ sizeLine ∧ Q (.str d.shown) H
theorem k_repr (hK : X.K = K) (g : G0 X.A) (hu : X.A.units + 64 < cLine) : CallR X (.builtin "repr") (rRepr K) := by
  subst hK
  intro pins s σ H xs us Q I r h
  obtain ⟨a, d, rfl, hd, h1, h2, h3, h4, q⟩ := h
  obtain ⟨u, rfl, rfl⟩ := vals1 r
  obtain ⟨as, rd⟩ := Dp.reads I d (.ref a) (.ref a) hd rfl
  exact repr_of_reads' rd h1 (PyData.noDict_hsm h3) g (by omega) (fun _ _ e => e) (fun h' u tk hk => ⟨.str _, H, I.kept hk, ⟨_, rfl⟩, q⟩) h4
def rIsB : R2 := fun x y H Q => ∃ a b, x = .bl a ∧ y = .bl b ∧ Q (.bl (decide (a = b))) H
def rIsNB : R2 := fun x y H Q => ∃ a b, x = .bl a ∧ y = .bl b ∧ Q (.bl (!decide (a = b))) H
theorem op_isB : OpR X (compareOp .Is) rIsB := op_is_bl
theorem op_isNB : OpR X (compareOp .IsNot) rIsNB := op_isnot_bl
theorem x_isB {a b : Bool} : rIsB (.bl a) (.bl b) H Q ↔ Q (.bl (decide (a = b))) H := ⟨fun ⟨i, j, e1, e2, q⟩ => by cases e1; cases e2; exact q, fun q => ⟨a, b, rfl, rfl, q⟩⟩
theorem x_isNB {a b : Bool} : rIsNB (.bl a) (.bl b) H Q ↔ Q (.bl (!decide (a = b))) H := ⟨fun ⟨i, j, e1, e2, q⟩ => by cases e1; cases e2; exact q, fun q => ⟨a, b, rfl, rfl, q⟩⟩
theorem x_lrg {te : L2.St → Hp → (Int → Int → Hp → Prop) → Prop} : tLstRg te σ H Q = te σ H fun a b H1 => RgOk a b ∧ ∀ q, H1 q = none → Q (.ref q) (upd H1 q (.lst (rgV a b))) := rfl
theorem x_rg1 {ta : TE} {R : Int → Int → Hp → Prop} : tRg1 ta σ H R = ta σ H fun x H1 => ∃ n, x = .int n ∧ R 0 n H1 := rfl
theorem x_rg2 {ta tb : TE} {R : Int → Int → Hp → Prop} : tRg2 ta tb σ H R = ta σ H fun x H1 => tb σ H1 fun y H2 => ∃ i j, x = .int i ∧ y = .int j ∧ R i j H2 := rfl
end
theorem Fx.mut {b r : Addr} {H H' : Hp} {o : HO} (f : Fx b H H') (n : H r = none) : Fx b H (upd H' r o) := fun a u na h => by rw [upd_ne (ne_of_none h n)]; exact f a u na h
theorem fx_none {b x : Addr} {H H' : Hp} (h : Fx b H H') (n : H' x = none) (nb : x ≠ b) : H x = none := by
  cases e : H x with
  | none => rfl
  | some o => rw [h _ _ nb e] at n; cases n
/-- a promise that asks for more -/
theorem weak {P : Program} {w : World} {K : PySem.W.Frag} {mg : Str → Option Value} {base : Heap} {CX : CXT} {k : Nat} {f : Addr} {fd : FuncData} {ps : List Str} {sp sp' : Sp} (F : FnOk P w K mg base CX k f fd ps sp) (h : ∀ vs H Q E, sp' vs H Q E → sp vs H Q E) : FnOk P w K mg base CX k f fd ps sp' :=
  ⟨fun vs H Q E q => F.len vs H Q E (h _ _ _ _ q), fun A outer s H args us vs Q E hr env bind vals q => F.run A outer s H args us vs Q E hr env bind vals (h _ _ _ _ q)⟩
/-! ### a cut: what stands after one statement -/
section
variable {σ : L2.St} {H : Hp} {D : Ends} {ta : TE} {s1 s2 : TS} {i : Nat}
theorem seq_asg (C : V → Hp → Prop) (h1 : ∀ R : VK, (∀ v H', C v H' → R v H') → ta σ H R) (h2 : ∀ v H', C v H' → s2 D (σ.set i (some v)) H') : tSeq (tAsg ta (gName i)) s2 D σ H := h1 _ h2
theorem seq_cut (C : L2.St → Hp → Prop) (h1 : ∀ N : L2.St → Hp → Prop, (∀ σ' H', C σ' H' → N σ' H') → s1 { D with nx := N } σ H) (h2 : ∀ σ' H', C σ' H' → s2 D σ' H') : tSeq s1 s2 D σ H := h1 _ h2
end
/-! ### keywords -/
def kg {α : Type} (d : α) (a b : Nat) (perm : List Nat) (us ws : List α) : List α := if us.length = a ∧ ws.length = b then perm.map fun i => (us ++ ws).getD i d else []
theorem vals_getD : ∀ {vs : List V} {us : List Value}, Vals vs us → ∀ i, RelV (vs.getD i .non) (us.getD i .none)
  | [], [], .nil, _ => rfl
  | _ :: _, _ :: _, .cons h _, 0 => h
  | _ :: _, _ :: _, .cons _ r, i + 1 => vals_getD r i
theorem vals_perm {vs : List V} {us : List Value} (r : Vals vs us) : ∀ p : List Nat, Vals (p.map fun i => vs.getD i .non) (p.map fun i => us.getD i .none)
  | [] => .nil
  | i :: p => .cons (vals_getD r i) (vals_perm r p)
theorem kg_rel {a b : Nat} {p : List Nat} {vs : List V} {us : List Value} {zs : List V} {ws : List Value} (r : Vals vs us) (z : Vals zs ws) : Vals (kg .non a b p vs zs) (kg .none a b p us ws) := by
  unfold kg
  rw [r.length, z.length]
  split
  · exact vals_perm (r.append z) p
  · exact .nil
theorem kg_mk {K : PySem.W.Frag} {fd : FuncData} {q : Str} {ps ks : List Str} {a b : Nat} {p : List Nat} (h : ∀ us ws : List Value, us.length = a → ws.length = b → bindArgs fd ⟨us, ks.zip ws⟩ = pure ((q :: ps).zip (p.map fun i => (us ++ ws).getD i .none))) :
    KBinds K fd (q :: ps) ks (kg .none a b p) (kg .non a b p) := by
  refine ⟨fun s us ws _ hl => ?_, kg_rel⟩
  unfold kg at hl ⊢
  split at hl
  · next c =>
    rw [if_pos c]
    exact .of_eq (h us ws c.1 c.2)
  · cases hl
theorem fun_okN {P : Program} {w : World} {K : PySem.W.Frag} {mg : Str → Option Value} {base : Heap} {CX : CXT} {k : Nat} {f : Addr} {fd : FuncData} {ps : List Str} {sp : Sp} {x qual : Str} {st : Stmt} {N : List Str} (F : Fun K x qual st f fd) (S : FnScope N ps (defScope st)) (size : ∀ vs H Q E, sp vs H Q E → vs.length = ps.length)
    (body : ∀ (cdv : Value) (A : Around) (outer : List Env) (s : Shared) (H : Hp) (vs : List V) (Q : VK) (E : XK), G0 (A.deeper (envOfC qual (defScope st) s.heap.objs.size f cdv)) → Room k (A.deeper (envOfC qual (defScope st) s.heap.objs.size f cdv)) → sp vs H Q E →
      ∃ t, PSs (cxOf CX P w K mg base N qual (defScope st) f cdv A outer s H E).nox (defBody st) t ∧ t { nx := fun _ H' => Q .non H', rt := Q } (start N vs) H) : FnG P w K mg base CX (k + 1) f fd ps sp :=
  fun_okG F S size fun cdv A outer s H vs Q E hG hr h => let ⟨t, d, q⟩ := body cdv A outer s H vs Q E hG hr h; ⟨t, d.nox, q⟩
theorem Fun.kb {K : PySem.W.Frag} {x qual q : Str} {st : Stmt} {f : Addr} {fd : FuncData} {ps ks : List Str} {a b : Nat} {p : List Nat} (F : Fun K x qual st f fd)
    (h : ∀ (kV doc pm : Value) (an : Option Addr) (cdv ct : Value) (us ws : List Value), us.length = a → ws.length = b → bindArgs (PySem.W.fnOf x qual (defArgs st) (defBody st) (defScope st) .none kV doc pm an cdv ct) ⟨us, ks.zip ws⟩ = pure ((q :: ps).zip (p.map fun i => (us ++ ws).getD i .none))) :
    KBinds K fd (q :: ps) ks (kg .none a b p) (kg .non a b p) := by
  obtain ⟨oc, od, kV, doc, pm, an, cdv, ct, osl, rfl, lk, hcd⟩ := F.ex
  exact kg_mk (h kV doc pm an cdv ct)
section
variable {X : Cx} {CX : CXT} {k : Nat} {f : Addr} {fd : FuncData} {ps ks : List Str} {sp : Sp} {E : XK} {x : Str} {p pos : Pos} {e : Expr} {es : List Expr} {kws : List Keyword} {t tk : TA} {g : List Value → List Value → List Value} {gV : List V → List V → List V}
theorem pe_callK0 (F : FnOk X.prog X.w X.K X.mg X.base CX k f fd ps sp) (hr : Room k X.A) (hg : Gl X x) (hm : X.mg x = some (.ref f)) (hk : PySem.W.keepIn X.K (.ref f) = true) (hb : KBinds X.K fd ps ks g gV) (hx : Passes CX X E)
    (hkw : PK X kws tk) (hall : (backToKw pos (keywordEach kws X.env)).all (·.1.isSome) = true := by rfl) (hks : (backToKw pos (keywordEach kws X.env)).filterMap (·.1) = ks := by rfl)
    (hdb : (x == ("__debug__" : Str)) = false := by decide)
    (hpl : ((backTo pos (starEach [] X.env)).any (·.1) || (backToKw pos (keywordEach kws X.env)).any (·.1.isNone)) = false := by rfl) :
    PE X (.Call (.Name x p) [] kws pos) (tCallK sp gV E tNil tk) := by
  refine ⟨fun pins s σ H Q I h => ?_⟩
  refine wpAny_Call_Name_kw (ld_glob I hg hm ?_ hdb)
  refine PySem.W.callWith_KW0 (h₀ := X.base) I.ok.mod.kin hk hall (thn (hkw.run pos pins s σ H _ I h) fun ws s2 ⟨zs, H2, I2, rz, q2⟩ => ⟨I2.kIn, ?_⟩) hpl
  rw [hks]
  exact run_fnk F hr hb hx I2 .nil rz q2
theorem run_fnkG {pins : List (Addr × Obj)} {σ : L2.St} {H : Hp} {s : Shared} {Q : VK} {us ws : List Value} {vs zs : List V} (F : FnG X.prog X.w X.K X.mg X.base CX k f fd ps sp) (g0 : G0 X.A) (hr : Room k X.A) (hb : KBinds X.K fd ps ks g gV) (hx : Passes CX X E)
    (I : Inv X pins σ H s) (r : Vals vs us) (rz : Vals zs ws) (h : sp (gV vs zs) H Q E) : wpAny (model X.prog X.w) X.A (call (.ref f) us (ks.zip ws)) (EP X pins σ Q) X.xe s := by
  have r2 := hb.rel r rz
  have hl : (g us ws).length = ps.length := by rw [← r2.length]; exact F.size _ _ _ _ h
  refine wpAny_call (codeAny_mono (F.go X.A X.stack s H ⟨us, ks.zip ws⟩ (g us ws) (gV vs zs) Q E g0 hr I.env0 (hb.to s us ws I.kIn hl) r2 h) fun r s' hq => ?_)
  cases r with
  | error e => exact hx pins σ H s e s' I hq
  | ok fl =>
    cases fl with
    | ret u => exact I.after hq
    | next => exact False.elim hq
    | brk => exact False.elim hq
    | cont => exact False.elim hq
theorem pe_callKG (F : FnG X.prog X.w X.K X.mg X.base CX k f fd ps sp) (g0 : G0 X.A) (hr : Room k X.A) (hg : Gl X x) (hm : X.mg x = some (.ref f)) (hk : PySem.W.keepIn X.K (.ref f) = true) (hb : KBinds X.K fd ps ks g gV) (hx : Passes CX X E)
    (ha : PA X (e :: es) t) (hkw : PK X kws tk) (hall : (backToKw pos (keywordEach kws X.env)).all (·.1.isSome) = true := by rfl) (hks : (backToKw pos (keywordEach kws X.env)).filterMap (·.1) = ks := by rfl)
    (hdb : (x == ("__debug__" : Str)) = false := by decide) (he : starEach (e :: es) X.env = (false, eval e X.env) :: starEach es X.env := by rfl)
    (hpl : ((backTo pos (starEach (e :: es) X.env)).any (·.1) || (backToKw pos (keywordEach kws X.env)).any (·.1.isNone)) = false := by rfl) :
    PE X (.Call (.Name x p) (e :: es) kws pos) (tCallK sp gV E t tk) := by
  refine ⟨fun pins s σ H Q I h => ?_⟩
  refine wpAny_Call_Name_kw (ld_glob I hg hm ?_ hdb)
  refine PySem.W.callWith_KW (h₀ := X.base) I.ok.mod.kin hk hall (thn (ha.run pos pins s σ H _ I h) fun us s1 ⟨vs, H1, I1, r, q⟩ => ?_) hpl he
  refine thn (hkw.run pos pins s1 σ H1 _ I1 q) fun ws s2 ⟨zs, H2, I2, rz, q2⟩ => ⟨I2.kIn, ?_⟩
  rw [hks]
  exact run_fnkG F g0 hr hb hx I2 r rz q2
end
end BC

set_option Elab.async false
set_option linter.all false
set_option maxRecDepth 100000
set_option maxHeartbeats 4000000
/-! xs[:] = ys -/
namespace BC
open PySem PySem.Spec PyProof.Rows L2 Evl
theorem bounds_all (n : Nat) : sliceBounds none none none n = (((0 : Nat) : Int), ((n : Nat) : Int), 1) := by
  simp [sliceBounds]
section
variable {prog : Program} {w : World} {A : Around} {s : Shared} {E : Value → Shared → Prop}
theorem setItem_all {l b sl : Addr} {items new : Array Value} {n n2 : Nat} {vl vu : Value} {Q : Unit → Shared → Prop}
    (e : s.heap.get? l = some { cls := .type "list", data := .seq items n }) (e2 : s.heap.get? b = some { cls := .type "list", data := .seq new n2 }) (hne : l ≠ b)
    (hs : s.heap.IsSliceOf sl vl vu .none) (pl : IsPart vl none) (pu : IsPart vu none)
    (hsz : items.size + new.size ≤ sizeLine) (h : Q () { s with heap := s.heap.update l (Obj.mapSeq fun xs => xs.extract 0 0 ++ new ++ xs.extract items.size xs.size) }) :
    wpAny (model prog w) A (setItem (.ref l) (.ref sl) (.ref b)) Q E s := by
  have hl : s.heap.IsList l items := PySem.IsL.isList e
  have hb : s.heap.IsList b new := PySem.IsL.isList e2
  obtain ⟨os, hos, hcs, hds⟩ := id hs
  have hTs : s.TypeIs (.ref sl) "slice" := ⟨os, hos, hcs⟩
  have hstep : ¬ ((rawPart none == rawInt 0) = true) := Bool.false_ne_true
  have hsame : Builtin.List.listSameRef (.ref l) (.ref b) = false := by
    unfold Builtin.List.listSameRef
    exact beq_eq_false_iff_ne.mpr hne
  have hmax : (max ((0 : Nat) : Int) ((items.size : Nat) : Int)).toNat = items.size := by omega
  have hz' : ((fun xs : Array Value => xs.extract 0 0 ++ new ++ xs.extract items.size xs.size) items).size ≤ sizeLine + 1 := by
    simp only [Array.size_append, Array.size_extract]
    omega
  unfold setItem
  try with_reducible refine wpAny_holding ?_
  first | refine wpAny_bind (wpAny_pure ?_) | skip
  refine wpAny_bind (wpAny_sequenceKey hl.typeIs (by decide) ?_)
  refine wpAny_bind (wpAny_callSpecial?_slot (name := Str.ofString "__setitem__") hl.typeIs slot_list_setitem
    (wpAny_call_entry slot_list_setitem hl.typeIs entry_list_setitem ?_ (args_list_setitem _ _ _)))
  show wpAny _ _ (Builtin.List.listSubscript? (.ref sl) >>= _) _ _ s
  refine wpAny_bind ?_
  unfold Builtin.List.listSubscript?
  refine wpAny_bind (wpAny_specialOf hTs slice_no_index ?_)
  simp only [Option.isNone_none, if_true]
  refine wpAny_pure ?_
  show wpAny _ _ (typeOf (.ref sl) >>= _) _ _ s
  refine wpAny_bind (wpAny_typeOf hTs ?_)
  first
    | rw [if_neg (by decide)]
    | refine PySem.W.KFB.if_not (by decide) ?_
  rw [listSliceParts_eq]
  refine wpAny_bind (wpAny_bind (wpAny_field hos hds (x := .none) rfl (wpAny_bind (wpAny_listPart .none ?_))))
  rw [if_neg hstep]
  refine wpAny_bind (wpAny_field hos hds (x := vl) rfl (wpAny_bind (wpAny_listPart pl ?_)))
  refine wpAny_bind (wpAny_field hos hds (x := vu) rfl (wpAny_bind (wpAny_listPart pu (wpAny_pure ?_))))
  first
    | simp only [hsame, Bool.false_eq_true, if_false]
    | refine PySem.W.KFB.if_not hsame ?_
    | (dsimp only
       rw [if_neg (by rw [hsame]; exact Bool.false_ne_true)])
  refine wpAny_bind (m := Builtin.List.listAllItems (.ref b) "must assign iterable to extended slice") ?_
  unfold Builtin.List.listAllItems
  refine wpAny_bind (wpAny_typeOf hb.typeIs ?_)
  first
    | refine PySem.W.KFB.if_so (by decide) ?_
    | rw [if_pos (by decide)]
    | simp only [beq_self_eq_true, Bool.true_or, if_true]
  unfold Builtin.List.listItems
  refine wpAny_bind (wpAny_seqItems e2 rfl (wpAny_pure ?_))
  refine wpAny_bind (wpAny_bind (wpAny_seqItems e rfl (wpAny_pure ?_)))
  refine wpAny_bind (wpAny_of_eq ((sliceIndices_raw none none none items.size (by simp)).trans (congrArg (pure : Int × Int × Int → Sem (Int × Int × Int)) (bounds_all items.size))) ?_)
  show wpAny _ _ (if ((1 : Int) == 1) = true then _ else _) _ _ s
  rw [if_pos (by decide)]
  refine wpAny_bind (wpAny_rule ?_)
  first
    | simp only [notLongL hsz, Bool.false_eq_true, if_false]
    | refine PySem.W.KFB.if_not (notLongL hsz) ?_
  first | refine wpAny_bind (wpAny_pure ?_) | skip
  show wpAny _ _ (updateSeq l (fun xs => xs.extract 0 ((0 : Nat) : Int).toNat ++ new ++ xs.extract (max ((0 : Nat) : Int) ((items.size : Nat) : Int)).toNat xs.size) >>= _) _ _ s
  rw [hmax, Int.toNat_natCast]
  refine wpAny_bind (wpAny_updateSeq (hz := Nat.le_trans (Nat.le_add_right _ _) hsz) (_hz' := hz') e rfl ?_)
  refine wpAny_bind (wpAny_letGo ?_)
  first
    | exact wpAny_bind (wpAny_pure (wpAny_pure ⟨.none, rfl, wpAny_pure h⟩))
    | exact wpAny_pure ⟨.none, rfl, wpAny_pure h⟩
end
section
variable {X : Cx} {o e : Expr} {to : TE} {p2 pos : Pos}
/-- o[:] = v, both lists -/
def gAll (to : TE) : TG := fun v σ H QG => to σ H fun x H1 => ∃ a b xs ys, x = .ref a ∧ v = .ref b ∧ a ≠ b ∧ H1 a = some (.lst xs) ∧ H1 b = some (.lst ys) ∧ xs.length + ys.length ≤ sizeLine ∧ QG σ (upd H1 a (.lst ys))
theorem set_all {pins : List (Addr × Obj)} {s : Shared} {σ : L2.St} {H : Hp} {l b sl : Addr} {xs ys : List V} {vl vu : Value} {Q : Unit → Shared → Prop} (I : Inv X pins σ H s)
    (hH : H l = some (.lst xs)) (hB : H b = some (.lst ys)) (hne : l ≠ b) (hs : s.heap.IsSliceOf sl vl vu .none) (pl : IsPart vl none) (pu : IsPart vu none)
    (hz : xs.length + ys.length ≤ sizeLine) (h : ∀ s', Inv X pins σ (upd H l (.lst ys)) s' → Q () s') :
    wpAny (model X.prog X.w) X.A (setItem (.ref l) (.ref sl) (.ref b)) Q X.xe s := by
  obtain ⟨z, its, n, r, hl, e⟩ := I.lstM hH
  obtain ⟨z2, its2, n2, r2, hl2, e2⟩ := I.lstM hB
  refine setItem_all e e2 hne hs pl pu (by rw [List.size_toArray, List.size_toArray]; omega) (h _ ?_)
  refine I.lset (its' := its2) (t' := s.toks) hH e ?_ r2 (by omega)
  simp
theorem pg_all (ho : PE X o to)
    (ha0 : ∀ v, assign (.Subscript o (.Slice none none none p2) pos) X.env v = (do
      let ov ← holding [v] (eval o X.env)
      let iv ← holding [v, ov] (eval (.Slice none none none p2) X.env)
      standAt pos
      holding [v, ov, iv] (setItem ov iv v)
      release [iv, v, ov] []) := by intro _; rfl) : PG X (.Subscript o (.Slice none none none p2) pos) (gAll to) := by
  refine ⟨fun pins s σ H v u Q I r h => ?_⟩
  rw [ha0]
  refine wpAny_bind (wpAny_holding (thn (ho.run pins s σ H _ I h) fun ov s1 ⟨x, H1, I1, r1, q1⟩ => ?_))
  obtain ⟨a, b, xs, ys, rfl, rfl, hne, ha, hb, hz, q⟩ := q1
  cases r1
  cases r
  refine wpAny_bind (wpAny_holding ?_)
  refine wpAny_Slice ?_
  rw [evalPart_none]
  refine wpAny_pure ?_
  refine wpAny_pure ?_
  refine wpAny_pure ?_
  have I4 : Inv X pins σ H1 { s1 with heap := s1.heap.push { cls := .type "slice", data := .fields #[.none, .none, .none] } } := I1.kept (t' := s1.toks) fun b ob q => Heap.get?_push_of_some _ q
  refine wpAny_bind (wpAny_standAt (wpAny_bind (wpAny_holding ?_)))
  refine set_all I4 ha hb hne (Heap.IsSliceOf.new ..) .none .none hz fun s' I5 => ?_
  exact wpAny_release ⟨σ, _, I5, q⟩
def rDivmod : List V → Hp → VK → Prop := fun xs H Q => ∃ i j, xs = [.int i, .int j] ∧ CDivW i j ∧ ∀ p, H p = none → Q (.ref p) (upd H p (.tup [.int (i / j), .int (i % j)]))
theorem call_dmX : CallR X (.builtin "divmod") rDivmod := by
  intro pins s σ H xs us Q I r h
  obtain ⟨i, j, rfl, hc, q⟩ := h
  obtain ⟨u, u2, rfl, ⟨t, rfl⟩, ⟨t2, rfl⟩⟩ := vals2 r
  have pos : 0 < j := hc.1
  have new := I.hok.fresh (Nat.le_refl s.heap.objs.size)
  refine divmod_int (by omega) ?_ (.inl (PyProof.noPylong_of_log2 hc.2))
  rw [Int.fdiv_eq_ediv_of_nonneg i (by omega), Int.fmod_eq_emod_of_nonneg i (by omega)]
  refine ⟨.ref s.heap.objs.size, _, ?_, rfl, q _ new⟩
  refine I.laid (fun b o e => Heap.get?_push_of_some _ e) (Nat.le_refl _) ⟨?_, [.int (i / j) s.toks, .int (i % j) (s.toks + 1)], .cons ⟨_, rfl⟩ (.cons ⟨_, rfl⟩ .nil), ?_⟩
  · exact Evl.sz_of (by simp)
  · exact ⟨_, Heap.get?_push_size s.heap rfl, rfl, 0, rfl⟩
theorem x_gall {σ : L2.St} {H : Hp} {v : V} {QG : L2.St → Hp → Prop} : gAll to v σ H QG = to σ H fun x H1 => ∃ a b xs ys, x = .ref a ∧ v = .ref b ∧ a ≠ b ∧ H1 a = some (.lst xs) ∧ H1 b = some (.lst ys) ∧ xs.length + ys.length ≤ sizeLine ∧ QG σ (upd H1 a (.lst ys)) := rfl
end
end BC

set_option Elab.async false
set_option linter.all false
set_option maxRecDepth 100000
set_option maxHeartbeats 4000000
/-! comprehensions that change what stands, or whose values are chosen as they come -/
namespace BC
open PySem PySem.Spec PyProof.Rows L2 Evl
section
variable {K : PySem.W.Frag} {σ : L2.St} {H1 : Hp} {g : TG} {te : TE} {vs : List Nat} {Dl : Addr} {Q : VK}
theorem lc_rngE {lo : Int} {n : Nat} (Pv : Nat → Hp → Prop) (h0 : Pv 0 (upd H1 Dl (.lst [])))
    (hs : ∀ i H, i < n → Pv i H → g (.int (lo + i)) (wipe σ vs) H fun σ2 H2 => wipe σ2 vs = wipe σ vs ∧ te σ2 H2 fun y H4 => ∃ acc, H4 Dl = some (.lst acc) ∧ acc.length < sizeLine ∧ Pv (i + 1) (upd H4 Dl (.lst (acc ++ [y]))))
    (hd : ∀ H, Pv n H → Q (.ref Dl) H) : LcG (Itr lo n) g tYes te vs σ Dl H1 Q := by
  refine lc_g n Pv h0 (fun H h => Nat.le_refl _) (fun i H hi h => hi) (fun i H x H' hi h y => ?_) hd
  obtain ⟨rfl, rfl⟩ := y
  have q := hs i _ hi h
  exact q
theorem lc_listE {a : Addr} {xs : List V} (Pv : Nat → Hp → Prop) (h0 : Pv 0 (upd H1 Dl (.lst []))) (hl : ∀ i H, i ≤ xs.length → Pv i H → SqL K H a xs)
    (hs : ∀ i x H, xs[i]? = some x → Pv i H → g x (wipe σ vs) H fun σ2 H2 => wipe σ2 vs = wipe σ vs ∧ te σ2 H2 fun y H4 => ∃ acc, H4 Dl = some (.lst acc) ∧ acc.length < sizeLine ∧ Pv (i + 1) (upd H4 Dl (.lst (acc ++ [y]))))
    (hd : ∀ H, Pv xs.length H → Q (.ref Dl) H) : LcG (Itl K a) g tYes te vs σ Dl H1 Q := by
  refine lc_g xs.length Pv h0 (fun H h => ⟨xs, hl _ H (Nat.le_refl _) h, Nat.le_refl _⟩) (fun i H hi h => ⟨xs, xs[i], hl i H (by omega) h, List.getElem?_eq_getElem hi⟩) (fun i H x H' hi h y => ?_) hd
  obtain ⟨rfl, hf⟩ := y
  exact hs i x _ (hf xs (hl i _ (by omega) h)) h
end
/-- a fourfold tuple unpacked -/
theorem g_four {K : PySem.W.Frag} {σ : L2.St} {H : Hp} {i j l m : Nat} {T : Addr} {x y z u : V} {QG : L2.St → Hp → Prop} (h : H T = some (.tup [x, y, z, u])) (q : QG ((((σ.set i (some x)).set j (some y)).set l (some z)).set m (some u)) H) : gTup K 4 (gCons (gName i) (gCons (gName j) (gCons (gName l) (gCons (gName m) gNil)))) (.ref T) σ H QG :=
  ⟨T, [x, y, z, u], rfl, .inl (.inl h), rfl, x, [y, z, u], rfl, y, [z, u], rfl, z, [u], rfl, u, [], rfl, rfl, q⟩
theorem revL {H : Hp} {Q : VK} {p : Addr} {xs : List V} (h : H p = some (.lst xs)) (q : Q .non (upd H p (.lst xs.reverse))) : rReverse (.ref p) [] H Q := ⟨p, xs, rfl, rfl, h, q⟩
theorem Sh.mono {n m : Nat} {d : PyData} (h : Sh n d) (e : n ≤ m) : Sh m d := by
  induction h generalizing m with
  | non n => exact .non m
  | bl n b => exact .bl m b
  | int n i => exact .int m i
  | str n x => exact .str m x
  | @lst n ds hl h ih =>
    cases m with
    | zero => omega
    | succ m => exact .lst hl fun d hd => ih d hd (by omega)
  | @tup n ds hl h ih =>
    cases m with
    | zero => omega
    | succ m => exact .tup hl fun d hd => ih d hd (by omega)
end BC

set_option Elab.async false
set_option linter.all false
set_option maxRecDepth 100000
set_option maxHeartbeats 4000000
/-! visits and their trails, lists of numbers, their repr -/
namespace BC
open PySem PySem.Spec PyProof.Rows L2 Evl
/-! ### data whose repr is short -/
structure Tm (d : PyData) : Prop where
  s : d.showable = true
  n : d.hasDict = false
  l : d.leavesShort 13 = true
theorem Tm.int {i : Int} (h : i.natAbs < 10 ^ 12) : Tm (.int i) := ⟨by
  show decide (i.natAbs.log2 < 1920) = true
  refine decide_eq_true ?_
  by_cases z : i.natAbs = 0
  · rw [z]; decide
  · exact (Nat.log2_lt z).mpr (Nat.lt_of_lt_of_le h (by decide +kernel)), rfl, by
  show decide (_ ≤ 13) = true
  exact decide_eq_true (PyData.shown_int_le h)⟩
theorem Tm.all {ds : List PyData} (h : ∀ d ∈ ds, Tm d) : PyData.showableAll ds = true ∧ PyData.hasDictAll ds = false ∧ PyData.leavesShortAll 13 ds = true := by
  induction ds with
  | nil => exact ⟨rfl, rfl, rfl⟩
  | cons d ds ih =>
    have a := h d List.mem_cons_self
    obtain ⟨b1, b2, b3⟩ := ih fun e m => h e (List.mem_cons_of_mem _ m)
    refine ⟨?_, ?_, ?_⟩
    · show (d.showable && _) = true
      rw [a.s, b1]; rfl
    · show (d.hasDict || _) = false
      rw [a.n, b2]; rfl
    · show (d.leavesShort 13 && _) = true
      rw [a.l, b3]; rfl
theorem Tm.list {ds : List PyData} (h : ∀ d ∈ ds, Tm d) : Tm (.list ds) := ⟨by simp only [PyData.showable]; exact (Tm.all h).1, by simp only [PyData.hasDict]; exact (Tm.all h).2.1, by simp only [PyData.leavesShort]; exact (Tm.all h).2.2⟩
theorem Tm.tuple {ds : List PyData} (h : ∀ d ∈ ds, Tm d) : Tm (.tuple ds) := ⟨by simp only [PyData.showable]; exact (Tm.all h).1, by simp only [PyData.hasDict]; exact (Tm.all h).2.1, by simp only [PyData.leavesShort]; exact (Tm.all h).2.2⟩
theorem wt_int {i : Int} (h : i.natAbs < 2 ^ 40) : (PyData.int i).weight ≤ 40 := by
  simp only [PyData.weight]
  split
  · omega
  · next z =>
    have z0 : i.natAbs ≠ 0 := fun e => z (by rw [Int.natAbs_eq_zero.mp e]; rfl)
    have := (Nat.log2_lt z0).mpr h
    omega
theorem wt_all {ds : List PyData} {n : Nat} (h : ∀ d ∈ ds, d.weight ≤ n) : PyData.weightAll ds ≤ (n + 1) * ds.length := by
  induction ds with
  | nil => simp [PyData.weightAll]
  | cons d ds ih =>
    have a := h d List.mem_cons_self
    have b := ih fun e m => h e (List.mem_cons_of_mem _ m)
    simp only [PyData.weightAll, List.length_cons, Nat.mul_add]
    omega
theorem dep_all {ds : List PyData} {n : Nat} (h : ∀ d ∈ ds, d.depth ≤ n) : PyData.depthAll ds ≤ n := by
  induction ds with
  | nil => simp [PyData.depthAll]
  | cons d ds ih =>
    have a := h d List.mem_cons_self
    have b := ih fun e m => h e (List.mem_cons_of_mem _ m)
    simp only [PyData.depthAll]
    omega
section
variable {K : PySem.W.Frag} {H : Hp} {Q : VK} {a : Addr}
theorem reprX {d : PyData} (h : Dp K H (.ref a) d) (t : Tm d) (dp : d.depth ≤ 60) (wt : d.weight ≤ 2 ^ 20) (q : Q (.str d.shown) H) : rRepr K [.ref a] H Q :=
  ⟨a, d, rfl, h, t.s, dp, t.n, PyData.shown_fits (B := 13) (by decide) (by decide) t.l wt, q⟩
/-- what repr of a list of numbers says -/
def shInts (ns : List Int) : Str := (PyData.list (ns.map PyData.int)).shown
theorem reprInts {ns : List Int} (h : SqL K H a (ns.map V.int)) (hs : ∀ n ∈ ns, n.natAbs < 10 ^ 12) (hl : ns.length ≤ 20000) (q : Q (.str (shInts ns)) H) : rRepr K [.ref a] H Q := by
  refine reprX (.lst h (dp_ints ns)) (.list fun d m => ?_) ?_ ?_ q
  · obtain ⟨n, hn, rfl⟩ := List.mem_map.mp m
    exact .int (hs n hn)
  · simp only [PyData.depth]
    have := dep_all (ds := ns.map PyData.int) (n := 0) fun d m => by
      obtain ⟨n, hn, rfl⟩ := List.mem_map.mp m
      simp [PyData.depth]
    omega
  · simp only [PyData.weight]
    have := wt_all (ds := ns.map PyData.int) (n := 40) fun d m => by
      obtain ⟨n, hn, rfl⟩ := List.mem_map.mp m
      exact wt_int (Nat.lt_of_lt_of_le (hs n hn) (by decide +kernel))
    rw [List.length_map] at this
    omega
/-! ### in, index, a part of a list of numbers -/
theorem flat_ints (ns : List Int) : (ns.map V.int).all flatV = true := by
  rw [List.all_eq_true]
  intro x hx
  obtain ⟨n, _, rfl⟩ := List.mem_map.mp hx
  rfl
theorem inV_ints (p : Int) (ns : List Int) : inV (.int p) (ns.map V.int) = decide (p ∈ ns) := by
  unfold inV
  rw [List.any_map]
  by_cases h : p ∈ ns
  · rw [decide_eq_true h, List.any_eq_true]
    exact ⟨p, h, by simp [eqV]⟩
  · rw [decide_eq_false h, List.any_eq_false]
    intro x hx
    have : x ≠ p := fun e => h (e ▸ hx)
    simp [eqV, this]
theorem inL {p : Int} {ns : List Int} (h : SqL K H a (ns.map V.int)) (q : Q (.bl (decide (p ∈ ns))) H) : rIn K false (.int p) (.ref a) H Q :=
  ⟨a, _, rfl, .inl h, rfl, flat_ints ns, by rw [inV_ints]; exact q⟩
theorem ninL {p : Int} {ns : List Int} (h : SqL K H a (ns.map V.int)) (q : Q (.bl (!decide (p ∈ ns))) H) : rIn K true (.int p) (.ref a) H Q :=
  ⟨a, _, rfl, .inl h, rfl, flat_ints ns, by rw [inV_ints]; exact q⟩
theorem idxL {p : Int} {ns : List Int} (h : SqL K H a (ns.map V.int)) (hp : p ∈ ns) (q : Q (.int (ns.idxOf p : Nat)) H) : rIndex K (.ref a) [.int p] H Q := by
  have hl := List.idxOf_lt_length_of_mem hp
  refine ⟨a, _, _, ns.idxOf p, .int p, rfl, rfl, h, rfl, flat_ints ns, ?_, by simp [eqV], fun m z hm hz => ?_, q⟩
  · rw [List.getElem?_map, List.getElem?_eq_getElem hl, List.getElem_idxOf hl]
    rfl
  · rw [List.getElem?_map] at hz
    have hml : m < ns.length := by omega
    rw [List.getElem?_eq_getElem hml] at hz
    cases hz
    have ne : ns[m] ≠ p := fun e => by
      have := List.not_of_lt_findIdx (p := fun x => x == p) (xs := ns) hm
      simp [e] at this
    simp [eqV, ne]
/-- numbers that are kept -/
theorem kept_ints (n : Nat) (k : Nat → Bool) (f : Nat → Int) : ∃ fr : List Int, kept n k (fun i => V.int (f i)) = fr.map V.int ∧ (∀ x ∈ fr, ∃ i, i < n ∧ k i = true ∧ x = f i) ∧ (fr = [] → ∀ i, i < n → k i = false) := by
  induction n with
  | zero => exact ⟨[], rfl, fun x h => (List.not_mem_nil h).elim, fun _ i h => by omega⟩
  | succ n ih =>
    obtain ⟨fr, h1, h2, h3⟩ := ih
    cases c : k n with
    | true =>
      refine ⟨fr ++ [f n], by rw [kept_yes c, h1, List.map_append]; rfl, fun x h => ?_, fun e => by simp at e⟩
      rcases List.mem_append.mp h with h | h
      · obtain ⟨i, a, b⟩ := h2 x h
        exact ⟨i, by omega, b⟩
      · exact ⟨n, by omega, c, List.mem_singleton.mp h⟩
    | false =>
      refine ⟨fr, by rw [kept_no c, h1], fun x h => ?_, fun e i hi => ?_⟩
      · obtain ⟨i, a, b⟩ := h2 x h
        exact ⟨i, by omega, b⟩
      · by_cases q : i = n
        · rw [q]; exact c
        · exact h3 e i (by omega)
theorem rgV_ints (a b : Int) : rgV a b = ((List.range (b - a).toNat).map fun i => a + ((i : Nat) : Int)).map V.int := by
  unfold rgV
  rw [List.map_map]
  rfl
theorem shp_ints (ns : List Int) : SeqAt.shaped (.list (ns.map PyData.int)) = true := by
  have h1 : ∀ ns : List Int, PyData.canLayAll0 (ns.map PyData.int) = true := fun ns => by
    induction ns with
    | nil => simp [PyData.canLayAll0]
    | cons n ns ih => simp [PyData.canLayAll0, PyData.canLay0, ih]
  have h2 := dep_all (ds := ns.map PyData.int) (n := 0) fun d m => by
      obtain ⟨n, hn, rfl⟩ := List.mem_map.mp m
      simp [PyData.depth]
  show (PyData.canLay0 _ && decide (PyData.depth _ ≤ 64)) = true
  rw [Bool.and_eq_true]
  refine ⟨?_, decide_eq_true ?_⟩
  · simp only [PyData.canLay0]; exact h1 ns
  · simp only [PyData.depth]; omega
theorem eqv_ints : ∀ ns ms : List Int, PyData.eqv (.list (ns.map PyData.int)) (.list (ms.map PyData.int)) = decide (ns = ms) := fun ns ms => by
  simp only [PyData.eqv]
  induction ns generalizing ms with
  | nil => cases ms <;> simp [PyData.eqvAll]
  | cons n ns ih =>
    cases ms with
    | nil => simp [PyData.eqvAll]
    | cons m ms =>
      simp only [List.map_cons, PyData.eqvAll, PyData.eqv, ih]
      by_cases h : n = m
      · subst h; simp
      · simp [h]
theorem eqInts {b : Addr} {ns ms : List Int} (h : SqL K H a (ns.map V.int)) (g : SqL K H b (ms.map V.int)) (q : Q (.bl (decide (ns = ms))) H) : rEqD K (.ref a) (.ref b) H Q :=
  ⟨_, _, .lst h (dp_ints ns), .lst g (dp_ints ms), shp_ints ns, shp_ints ms, by rw [eqv_ints]; exact q⟩
theorem neInts {b : Addr} {ns ms : List Int} (h : SqL K H a (ns.map V.int)) (g : SqL K H b (ms.map V.int)) (q : Q (.bl (!decide (ns = ms))) H) : rNeD K (.ref a) (.ref b) H Q :=
  ⟨_, _, .lst h (dp_ints ns), .lst g (dp_ints ms), shp_ints ns, shp_ints ms, by rw [eqv_ints]; exact q⟩
theorem pickI {ns : List Int} {r : Int} (h0 : 0 ≤ r) (h1 : r < ns.length) : ∃ n, n ∈ ns ∧ atI (ns.map V.int) r = some (.int n) := by
  obtain ⟨v, hv, e⟩ := pick (xs := ns.map V.int) h0 (by rw [List.length_map]; exact h1)
  obtain ⟨n, hn, rfl⟩ := List.mem_map.mp hv
  exact ⟨n, hn, e⟩
theorem cut_to (xs : List V) {i : Int} {j : Nat} (e : i = (j : Int)) (h : j ≤ xs.length) : cutV xs none (some i) = xs.take j := by
  subst e
  unfold cutV
  have e1 : HT.sIx xs.length 0 none = 0 := rfl
  rw [HT.sIx_nat, e1, List.drop_zero, Nat.sub_zero, Nat.min_eq_left h]
theorem slL {lo hi : Option Int} {xs : List V} (h : SqL K H a xs) (q : ∀ p, H p = none → Q (.ref p) (upd H p (.lst (cutV xs lo hi)))) : rSlL K (.ref a) lo hi H Q := ⟨a, xs, rfl, h, q⟩
theorem tyLL {xs : List V} (h : SqL K H a xs) : tyV K "list" (.ref a) H := Or.inl ⟨rfl, _, h⟩
end
end BC
namespace TR
/-! ### trails -/
def Pg (w : Int) (l : List Int) : Prop := ∀ x ∈ l, 0 ≤ x ∧ x < w
def vis (t : List Int) (p : Int) : List Int := if p ∈ t then t.take (t.idxOf p + 1) else t ++ [p]
def trl (row : List Int) : List Int := row.foldl vis []
/-- the lengths of the trails -/
def lens (row : List Int) : List Int := (List.range row.length).map fun i => ((trl (row.take (i + 1))).length : Int)
theorem vis_mem {t : List Int} {p x : Int} (h : x ∈ vis t p) : x ∈ t ∨ x = p := by
  unfold vis at h
  split at h
  · exact .inl (List.mem_of_mem_take h)
  · simpa using h
theorem vis_nodup {t : List Int} {p : Int} (h : t.Nodup) : (vis t p).Nodup := by
  unfold vis
  split
  · exact h.sublist (List.take_sublist _ _)
  · next n =>
    rw [List.nodup_append]
    exact ⟨h, List.nodup_cons.mpr ⟨List.not_mem_nil, List.nodup_nil⟩, fun a ha b hb e => n (by simp at hb; rw [← hb, ← e]; exact ha)⟩
theorem vis_pos (t : List Int) (p : Int) : 1 ≤ (vis t p).length := by
  unfold vis
  split
  · next h =>
    have := List.idxOf_lt_length_of_mem h
    rw [List.length_take]; omega
  · rw [List.length_append, List.length_singleton]; omega
theorem vis_le (t : List Int) (p : Int) : (vis t p).length ≤ t.length + 1 := by
  unfold vis
  split
  · rw [List.length_take]; omega
  · rw [List.length_append, List.length_singleton]; omega
theorem vis_pg {w : Int} {t : List Int} {p : Int} (h : Pg w t) (h0 : 0 ≤ p) (h1 : p < w) : Pg w (vis t p) := fun x hx => by
  rcases vis_mem hx with h2 | rfl
  · exact h x h2
  · exact ⟨h0, h1⟩
theorem trl_snoc {row : List Int} {i : Nat} {p : Int} (h : row[i]? = some p) : trl (row.take (i + 1)) = vis (trl (row.take i)) p := by
  unfold trl
  rw [List.take_add_one, h, List.foldl_append]
  rfl
theorem fold_ok {w : Int} : ∀ {row t : List Int}, Pg w row → Pg w t → t.Nodup → Pg w (row.foldl vis t) ∧ (row.foldl vis t).Nodup
  | [], _, _, h2, h3 => ⟨h2, h3⟩
  | p :: row, t, h1, h2, h3 => fold_ok (row := row) (t := vis t p) (fun x hx => h1 x (List.mem_cons_of_mem _ hx)) (vis_pg h2 (h1 p List.mem_cons_self).1 (h1 p List.mem_cons_self).2) (vis_nodup h3)
theorem Pg.take {w : Int} {l : List Int} (h : Pg w l) (n : Nat) : Pg w (l.take n) := fun x hx => h x (List.mem_of_mem_take hx)
theorem Pg.mono {w v : Int} {l : List Int} (h : Pg w l) (e : w ≤ v) : Pg v l := fun x hx => ⟨(h x hx).1, by have := (h x hx).2; omega⟩
theorem Pg.at {w : Int} {l : List Int} (h : Pg w l) {i : Nat} {p : Int} (e : l[i]? = some p) : 0 ≤ p ∧ p < w := h p (List.mem_of_getElem? e)
theorem pg_nil (w : Int) : Pg w [] := fun _ m => (List.not_mem_nil m).elim
theorem trl_pg {w : Int} {row : List Int} (h : Pg w row) : Pg w (trl row) := (fold_ok h (pg_nil w) List.nodup_nil).1
theorem trl_nodup {w : Int} {row : List Int} (h : Pg w row) : (trl row).Nodup := (fold_ok h (pg_nil w) List.nodup_nil).2
/-- so many different pages at most -/
theorem nodup_len : ∀ (n : Nat) {l : List Int}, l.Nodup → Pg n l → l.length ≤ n
  | 0, [], _, _ => Nat.le_refl _
  | 0, x :: l, _, h => by have := h x List.mem_cons_self; omega
  | n + 1, l, h1, h2 => by
    by_cases m : ((n : Nat) : Int) ∈ l
    · have h3 := nodup_len n (l := l.erase (n : Int)) (h1.erase _) (fun x hx => by
        have a := h2 x (List.mem_of_mem_erase hx)
        have b : x ≠ (n : Int) := fun e => by
          rw [h1.mem_erase_iff] at hx
          exact hx.1 e
        omega)
      have := List.length_erase_of_mem m
      omega
    · have h3 := nodup_len n h1 (fun x hx => by
        have a := h2 x hx
        have b : x ≠ (n : Int) := fun e => m (e ▸ hx)
        omega)
      omega
theorem trl_len {n : Nat} {row : List Int} (h : Pg n row) : (trl row).length ≤ n := nodup_len n (trl_nodup h) (trl_pg h)
theorem lens_len (row : List Int) : (lens row).length = row.length := by unfold lens; rw [List.length_map, List.length_range]
theorem lens_at {row : List Int} {i : Nat} (h : i < row.length) : (lens row)[i]? = some ((trl (row.take (i + 1))).length : Int) := by
  unfold lens
  rw [List.getElem?_map, List.getElem?_range h]
  rfl
end TR

set_option Elab.async false
set_option linter.all false
set_option maxRecDepth 100000
set_option maxHeartbeats 4000000
/-! defs with one keyword-only parameter that has a default -/
namespace BC
open PySem PySem.Spec PyProof.Rows L2 Evl
theorem kwd1 {K : PySem.W.Frag} {x qual : Str} {st : Stmt} {f D : Addr} {ps : List Str} {nm : Str} {v : V} {u : Value} {n : Nat} {oc : Value} {od : Option Addr} {doc pm : Value} {an : Option Addr} {cdv ct : Value} {osl : Array (Option Value)}
    (lk : K.lookup f = some ⟨oc, od, .func (PySem.W.fnOf x qual (defArgs st) (defBody st) (defScope st) .none (.ref D) doc pm an cdv ct), osl⟩) (hcd : PySem.W.codeIn K cdv qual = true) (kp : PySem.W.keepIn K (.ref f) = true)
    (hq : PySem.W.nsIn K D nm = some (some u)) (hr : RelV v u) (hn : n + 1 = ps.length)
    (h : ∀ (D : Addr) (doc pm : Value) (an : Option Addr) (cdv ct : Value) (us ks : List Value), us.length = n → ks.length = 1 →
      KwChain D ([nm].zip ks) (bindArgs (PySem.W.fnOf x qual (defArgs st) (defBody st) (defScope st) .none (.ref D) doc pm an cdv ct) ⟨us, []⟩) (ps.zip (us ++ ks))) :
    ∃ ds, Vals [v] ds ∧ Binds K (PySem.W.fnOf x qual (defArgs st) (defBody st) (defScope st) .none (.ref D) doc pm an cdv ct) ps ds := by
  have F : FunD K x qual (defArgs st) (defBody st) (defScope st) [] [(nm, v)] f (PySem.W.fnOf x qual (defArgs st) (defBody st) (defScope st) .none (.ref D) doc pm an cdv ct) :=
    ⟨⟨oc, od, _, _, doc, pm, an, cdv, ct, osl, rfl, lk, hcd, .inl ⟨rfl, rfl⟩, .inr ⟨D, rfl, fun q hm => by
      obtain rfl : q = (nm, v) := by simpa using hm
      exact ⟨u, hq, hr⟩⟩⟩, kp⟩
  have z := F.binds0 n (by simp) (by simpa using hn) h
  exact z
/-! ### the bag of draws: a list of three numbers -/
def BagAt (H : Hp) (b : Addr) (c : Nat) : Prop := ∃ x0 x1 x2 : Int, H b = some (.lst [.int x0, .int x1, .int x2]) ∧ 0 ≤ x1 ∧ x1 < 10 ^ 65 ∧ 0 ≤ x2 ∧ x2 ≤ c
theorem BagAt.ex {H H' : Hp} {b : Addr} {c : Nat} (h : BagAt H b c) (e : Ex H H') : BagAt H' b c := by
  obtain ⟨x0, x1, x2, hb, r⟩ := h
  exact ⟨x0, x1, x2, e _ _ hb, r⟩
theorem BagAt.mono {H : Hp} {b : Addr} {c d : Nat} (h : BagAt H b c) (e : c ≤ d) : BagAt H b d := by
  obtain ⟨x0, x1, x2, hb, h1, h2, h3, h4⟩ := h
  exact ⟨x0, x1, x2, hb, h1, h2, h3, by omega⟩
theorem BagAt.some {H : Hp} {b : Addr} {c : Nat} (h : BagAt H b c) : ∃ o, H b = Option.some o := by
  obtain ⟨x0, x1, x2, hb, _⟩ := h
  exact ⟨_, hb⟩
theorem BagAt.apart {H : Hp} {b z : Addr} {c : Nat} (h : BagAt H b c) (nz : H z = none) : z ≠ b := fun e => by
  obtain ⟨o, ho⟩ := h.some
  subst e
  rw [ho] at nz
  cases nz
theorem BagAt.off {H : Hp} {b z : Addr} {c : Nat} {o : HO} (h : BagAt H b c) (nz : z ≠ b) : BagAt (upd H z o) b c := by
  obtain ⟨x0, x1, x2, hb, r⟩ := h
  exact ⟨x0, x1, x2, by rw [upd_ne (Ne.symm nz)]; exact hb, r⟩
theorem BagAt.ne {H : Hp} {b z : Addr} {c : Nat} (h : BagAt H b c) (nb : H z = none) : b ≠ z := fun e => h.apart nb e.symm
/-- the greatest number of ways that is drawn from -/
def BIG : Int := 2 ^ 2000
theorem big_of {m : Int} (h : m ≤ 100000) : m ≤ BIG := Int.le_trans h (by decide +kernel)
theorem big_lt {m : Int} (h : 0 < m) (h2 : m ≤ BIG) : m.natAbs < 2 ^ 2001 := by
  have a : m.natAbs ≤ BIG.natAbs := by omega
  exact Nat.lt_of_le_of_lt a (by decide +kernel)
def spDraw : Sp := fun vs H Q _ => ∃ (b : Addr) (m : Int) (c : Nat), vs = [.ref b, .int m] ∧ 0 < m ∧ m ≤ BIG ∧ BagAt H b c ∧ c ≤ 1000000 ∧ ∀ r H', 0 ≤ r → r < m → Fx b H H' → BagAt H' b (c + 1) → Q (.int r) H'
/-! ### lists of lists of numbers, shown -/
def dLL (ls : List (List Int)) : PyData := .list (ls.map fun l => .list (l.map PyData.int))
theorem tm_ints {l : List Int} (h : ∀ x ∈ l, x.natAbs < 10 ^ 12) : Tm (.list (l.map PyData.int)) := .list fun d m => by
  obtain ⟨x, hx, rfl⟩ := List.mem_map.mp m
  exact .int (h x hx)
theorem wt_ints {l : List Int} (h : ∀ x ∈ l, x.natAbs < 10 ^ 12) : (PyData.list (l.map PyData.int)).weight ≤ 41 * l.length := by
  simp only [PyData.weight]
  have := wt_all (ds := l.map PyData.int) (n := 40) fun d m => by
      obtain ⟨n, hn, rfl⟩ := List.mem_map.mp m
      exact wt_int (Nat.lt_of_lt_of_le (h n hn) (by decide +kernel))
  rw [List.length_map] at this
  exact this
theorem dp_ll {K : PySem.W.Frag} {H : Hp} {ps : List Addr} : ∀ {ls : List (List Int)}, ps.length = ls.length → (∀ (i : Nat) (p : Addr) (l : List Int), ps[i]? = some p → ls[i]? = some l → SqL K H p (l.map V.int)) → DpAll K H (ps.map V.ref) (ls.map fun l => PyData.list (l.map PyData.int)) := fun {ls} => by
  induction ps generalizing ls with
  | nil =>
    intro h _
    cases ls with
    | nil => exact .nil
    | cons l ls => simp at h
  | cons p ps ih =>
    intro h g
    cases ls with
    | nil => simp at h
    | cons l ls => exact .cons (.lst (g 0 p l rfl rfl) (dp_ints l)) (ih (by simpa using h) fun i q m a b => g (i + 1) q m (by rw [List.getElem?_cons_succ]; exact a) (by rw [List.getElem?_cons_succ]; exact b))
theorem reprLL {K : PySem.W.Frag} {H : Hp} {Q : VK} {a : Addr} {ls : List (List Int)} {n : Nat} (h : Dp K H (.ref a) (dLL ls)) (hv : ∀ l ∈ ls, ∀ x ∈ l, x.natAbs < 10 ^ 12) (hl : ∀ l ∈ ls, l.length ≤ n) (hz : (41 * n + 1) * ls.length ≤ 2 ^ 20) (q : Q (.str (dLL ls).shown) H) : rRepr K [.ref a] H Q := by
  refine reprX h (.list fun d m => ?_) ?_ ?_ q
  · obtain ⟨l, hm, rfl⟩ := List.mem_map.mp m
    exact tm_ints (hv l hm)
  · unfold dLL
    simp only [PyData.depth]
    have := dep_all (ds := ls.map fun l => PyData.list (l.map PyData.int)) (n := 1) fun d m => by
      obtain ⟨l, hm, rfl⟩ := List.mem_map.mp m
      simp only [PyData.depth]
      have := dep_all (ds := l.map PyData.int) (n := 0) fun d m => by
        obtain ⟨x, hx, rfl⟩ := List.mem_map.mp m
        simp [PyData.depth]
      omega
    omega
  · unfold dLL
    simp only [PyData.weight]
    have := wt_all (ds := ls.map fun l => PyData.list (l.map PyData.int)) (n := 41 * n) fun d m => by
      obtain ⟨l, hm, rfl⟩ := List.mem_map.mp m
      exact Nat.le_trans (wt_ints (hv l hm)) (Nat.mul_le_mul_left _ (hl l hm))
    rw [List.length_map] at this
    omega
theorem k_lenSet {X : Cx} {K : PySem.W.Frag} {a : Expr} {ta : TE} {p p2 q pos : Pos} (hK : X.K = K) (hg : Gl X "len") (hm : X.mg "len" = none) (hg2 : Gl X "set") (hm2 : X.mg "set" = none) (ha : PE X a ta) (hc : X.calm = true := by rfl)
    (na : starEach [a] X.env = (false, eval a X.env) :: starEach [] X.env := by rfl) : PE X (.Call (.Name "len" p) [.Call (.Name "set" p2) [a] [] q] [] pos) (RZ.tLenSetI K ta) := by subst hK; exact RZ.pe_lenSetI hg hm hg2 hm2 ha hc na
theorem x_lenSet {K : PySem.W.Frag} {ta : TE} {σ : L2.St} {H : Hp} {Q : VK} : RZ.tLenSetI K ta σ H Q = ta σ H fun x H1 => ∃ (l : Addr) (ns : List Int), x = .ref l ∧ SqL K H1 l (ns.map V.int) ∧ ns.Nodup ∧ ns.length ≤ 4000 ∧ Q (.int (ns.length : Nat)) H1 := rfl
end BC

set_option Elab.async false
set_option linter.all false
set_option maxRecDepth 100000
set_option maxHeartbeats 4000000
/-! sorted(set(xs)) of a list of numbers -/
namespace BC
open PySem PySem.Spec PyProof.Rows L2 Evl RZ
/-- the set that set() starts with -/
abbrev set0 (w : World) : Obj := { cls := .type "set", dict := none, data := .set #[] 0 (.fresh 0 0 (!w.params.followText "set-order")) }
abbrev with0 (w : World) (s : Shared) : Shared := { s with heap := s.heap.push (set0 w) }
section
variable {P : Program} {w : World} {A : Around} {E : Value → Shared → Prop} {s : Shared}
set_option maxHeartbeats 3200000 in
theorem set_of_list {l : Addr} {its : Array Value} (ns : List Int) {Q : Value → Shared → Prop} (hh : A.handled = none) (hl : s.heap.IsList l its) (hit : IntsAre its.toList ns) (hb : ns.length + 1 < scanBound)
    (fin : ∀ (h' : Heap) (tk c : Nat), SetR w h' s.heap.objs.size (fun j => decide (j ∈ ns)) c → c ≤ ns.length → (∀ b o, s.heap.get? b = some o → h'.get? b = some o) → Q (.ref s.heap.objs.size) { s with heap := h', toks := tk }) :
    wpAny (model P w) A (call (.type "set") [.ref l]) Q E s := by
  have many : its.size = ns.length := by rw [← IntsAre.length hit, Array.length_toList]
  obtain ⟨c, tl, hmro⟩ := F.called_set.mro
  have m1 := F.called_set.made
  have m2 := F.called_set.sub
  refine wpAny_call (codeAny_of_tree (wpAny_pure ⟨Code.quiet_builtin _ (by decide +kernel), codeAny_builtin F.entry_type_call ?_⟩))
  rw [Around.under_plain (weight_type_call_type "set" [.ref l] []) rfl]
  have m3 := F.called_set.notType
  have m4 := F.called_set.canCreate
  have m5 := F.typeCall_set_1 (.ref l)
  repeat (any_goals (first | assumption | wp_step))
  refine codeAny_mono (code_set_led1 (.ref l) (E := E) (Q₁ := fun obj s₁ => obj = .ref s.heap.objs.size ∧ s₁ = with0 w s) ⟨rfl, rfl⟩) fun r s₁ hr => ?_
  match r, hr with
  | .error e, hr => exact hr
  | .ok .next, hr => exact hr.elim
  | .ok .brk, hr => exact hr.elim
  | .ok .cont, hr => exact hr.elim
  | .ok (.ret obj), hr =>
    obtain ⟨rfl, rfl⟩ := hr
    have at0 : (s.heap.push (set0 w)).get? s.heap.objs.size = some (set0 w) := Heap.get?_push_size _ rfl
    have ty0 : Shared.TypeIs (with0 w s) (.ref s.heap.objs.size) "set" := ⟨_, at0, rfl⟩
    have i1 := F.called_set.init.lookup
    have i2 := F.called_set.init.bind (.ref s.heap.objs.size)
    repeat (any_goals (first | assumption | wp_step))
    refine codeAny_mono (codeAny_call_builtin (R := wants (fun r s₂ => r = .none ∧ ∃ h' tk c, s₂ = { s with heap := h', toks := tk } ∧ SetR w h' s.heap.objs.size (fun j => decide (j ∈ ns)) c ∧ c ≤ ns.length ∧ (∀ b o, s.heap.get? b = some o → h'.get? b = some o)) E)
      F.called_set.init.plain F.entry_set_init (check_set_init_1 ty0 ?_)) fun r₂ s₂ hr₂ => ?_
    · obtain ⟨⟨oc, od, dt, osl⟩, old, e1, nl, e2⟩ := hl
      obtain rfl : oc = .type "list" := e1
      obtain rfl : dt = .seq its nl := e2
      have pushed := Heap.get?_push_of_some (set0 w) old
      have isl : (s.heap.push (set0 w)).IsList l its := ⟨_, pushed, rfl, nl, rfl⟩
      have k1 := F.sub_list_set
      have k2 := F.sub_list_frozenset
      have k3 : (Value.type "list" == Value.type "dict") = false := by decide
      have hltl : l < s.heap.objs.size := Heap.lt_size old
      unfold Builtin.«set.__init__» noKeywords Builtin.Frozenset.updateFrom
      generalize hPI : pyIter = PI
      wp_walk
      subst hPI
      refine wpAny_pyIter_list isl (wpAny_bind (wpAny_runValue ?_))
      have calm3 : A.in1.in1.in1.handled = none := by simp [hh]
      have psz : (s.heap.push (set0 w)).objs.size = s.heap.objs.size + 1 := Heap.size_push ..
      have apart : l ≠ (s.heap.push (set0 w)).objs.size := fun z => Nat.lt_irrefl l (by rw [psz] at z; exact Nat.lt_of_lt_of_le hltl (by rw [z]; exact Nat.le_succ _))
      have away : s.heap.objs.size ∉ [(s.heap.push (set0 w)).objs.size, l] := by
        rw [psz]
        intro z
        simp only [List.mem_cons, List.mem_nil_iff, or_false] at z
        rcases z with z | z
        · exact absurd z (Nat.ne_of_lt (Nat.lt_succ_self _))
        · exact absurd z (Nat.ne_of_gt hltl)
      have items : ∀ (i : Nat) (v : Value), its[i]? = some v → ∃ k t, ns[i]? = some k ∧ v = .int k t := fun i v hv => by
        have hi : i < ns.length := by rw [← many]; exact (Array.getElem?_eq_some_iff.mp hv).1
        obtain ⟨t, e⟩ := IntsAre.int_at hit i v (by rw [Array.getElem?_toList]; exact hv)
        refine ⟨ns[i], t, List.getElem?_eq_getElem hi, ?_⟩
        rw [e, List.getD_eq_getElem?_getD, List.getElem?_eq_getElem hi]
        rfl
      refine set_update_ints ((Walks.list calm3 _ l apart its).toS) s.heap.objs.size away ns many hb items its.size 0 _ (by omega) (Nat.zero_le _) ⟨⟨_, Heap.get?_push_size _ rfl, rfl, rfl⟩, (isl.push _)⟩ ⟨0, Nat.le_refl 0, ?_⟩ fun s' c' mv hc' hS' => ?_
      · exact setR_new_at (Heap.get?_push_of_some _ at0)
      · obtain ⟨h', g2, d', tk', os'⟩ := s'
        obtain rfl : g2 = s.gens := mv.gens
        obtain rfl : d' = s.drawn := mv.drawn
        obtain rfl : os' = s.os := mv.os
        refine wpAny_pure (wpAny_pure ⟨rfl, h', tk', c', rfl, hS', by rw [many] at hc'; exact hc', fun b o e => ?_⟩)
        have lt := Heap.lt_size e
        refine mv.heap b o ?_ (Heap.get?_push_of_some _ (Heap.get?_push_of_some _ e))
        intro z
        rw [psz] at z
        simp only [List.mem_cons, List.mem_nil_iff, or_false] at z
        rcases z with z | z
        · exact absurd z (Nat.ne_of_lt lt)
        · exact absurd z (Nat.ne_of_lt (Nat.lt_succ_of_lt lt))
    · match r₂, hr₂ with
      | .error e, hr₂ => exact hr₂
      | .ok .next, hr₂ => exact hr₂.elim
      | .ok .brk, hr₂ => exact hr₂.elim
      | .ok .cont, hr₂ => exact hr₂.elim
      | .ok (.ret r), hr₂ =>
        obtain ⟨rfl, h', tk, c', rfl, q1, q2, q3⟩ := hr₂
        repeat (any_goals (first | assumption | wp_step))
        exact fin _ _ _ q1 q2 q3
end
section
variable {X : Cx} {K : PySem.W.Frag} {a : Expr} {ta : TE} {p p2 q pos : Pos}
/-- sorted(set(xs)): the different numbers in order -/
def tSortSet (K : PySem.W.Frag) (ta : TE) : TE := fun σ H Q => ta σ H fun x H1 => ∃ (l : Addr) (ns : List Int), x = .ref l ∧ SqL K H1 l (ns.map V.int) ∧ ns.length < 64 ∧
  ∀ (ms : List Int) r, ms.Pairwise (· < ·) → (∀ k : Int, k ∈ ms ↔ k ∈ ns) → H1 r = none → Q (.ref r) (upd H1 r (.lst (ms.map V.int)))
theorem k_sortSet (hK : X.K = K) (hg : Gl X "sorted") (hm : X.mg "sorted" = none) (hg2 : Gl X "set") (hm2 : X.mg "set" = none) (ha : PE X a ta) (hc : X.calm = true := by rfl)
    (na : starEach [a] X.env = (false, eval a X.env) :: starEach [] X.env := by rfl) : PE X (.Call (.Name "sorted" p) [.Call (.Name "set" p2) [a] [] q] [] pos) (tSortSet K ta) := by
  subst hK
  refine ⟨fun pins s σ H Q I h => ?_⟩
  refine Call_ (ld_blt I hg hm (show bootBuiltins ("sorted" : Str) = some (.builtin "sorted") by decide +kernel) ?_)
  refine callWith_builtin1 (args_cons ?_ rfl) rfl rfl
  refine Call_ (ld_blt I hg2 hm2 boot_set ?_)
  refine callWith_type1 (args_cons (thn (ha.run pins s σ H _ I h) fun v s1 ⟨x, H1, I1, r1, q1⟩ => args_nil ?_) na) na rfl
  obtain ⟨l, ns, rfl, hq, hl, q1⟩ := q1
  cases r1
  obtain ⟨its, r, pl, hz⟩ := I1.list hq
  refine set_of_list ns (I1.ok.hd hc) pl.isList (by simpa using intsAre_vals r) (by unfold scanBound; omega) fun h' tk c hS hcl hk => ?_
  refine args_nil ?_
  have I2 : Inv X pins σ H1 { s1 with heap := h', toks := tk } := I1.kept hk
  refine sorted_set hS (I2.ok.hd hc) (by omega) fun s' p out c2 ms k g o hp hg hi hs hm hlen => ?_
  have few : (ms.map V.int).length ≤ sizeLine := by rw [List.length_map, hlen, sizeLine_eq]; omega
  have hn : H1 p = none := I2.hok.fresh hp
  have J : Inv X pins σ (upd H1 p (.lst (ms.map V.int))) { ({ s1 with heap := h', toks := tk } : Shared) with heap := s'.heap, gens := s'.gens, drawn := s'.drawn, toks := s'.toks } :=
    I2.call (ch := []) (Un.laid k hp hn) (I2.hok.laid k hp ⟨few, out.toList, c2, vals_of_ints hi, hg⟩) (by rw [g]; exact I2.bare) (fun _ z => nomatch z)
  have e : s' = { ({ s1 with heap := h', toks := tk } : Shared) with heap := s'.heap, gens := s'.gens, drawn := s'.drawn, toks := s'.toks } := by
    cases s'
    cases o
    rfl
  rw [e]
  exact ⟨.ref p, _, J, rfl, q1 ms p hs (fun k => by rw [hm k, decide_eq_true_eq]) hn⟩
theorem x_sortSet {σ : L2.St} {H : Hp} {Q : VK} : tSortSet K ta σ H Q = ta σ H fun x H1 => ∃ (l : Addr) (ns : List Int), x = .ref l ∧ SqL K H1 l (ns.map V.int) ∧ ns.length < 64 ∧
  ∀ (ms : List Int) r, ms.Pairwise (· < ·) → (∀ k : Int, k ∈ ms ↔ k ∈ ns) → H1 r = none → Q (.ref r) (upd H1 r (.lst (ms.map V.int))) := rfl
end
/-- two ascending lists of the same numbers are the same -/
theorem asc_same : ∀ {a b : List Int}, a.Pairwise (· < ·) → b.Pairwise (· < ·) → (∀ k : Int, k ∈ a ↔ k ∈ b) → a = b
  | [], [], _, _, _ => rfl
  | [], y :: b, _, _, h => absurd ((h y).mpr List.mem_cons_self) List.not_mem_nil
  | x :: a, [], _, _, h => absurd ((h x).mp List.mem_cons_self) List.not_mem_nil
  | x :: a, y :: b, ha, hb, h => by
    rw [List.pairwise_cons] at ha hb
    have xy : x = y := by
      have h1 := (h x).mp List.mem_cons_self
      have h2 := (h y).mpr List.mem_cons_self
      rcases List.mem_cons.mp h1 with e | e
      · exact e
      · rcases List.mem_cons.mp h2 with e2 | e2
        · exact e2.symm
        · have := ha.1 y e2
          have := hb.1 x e
          omega
    subst xy
    rw [asc_same ha.2 hb.2 fun k => ⟨fun m => by
      rcases List.mem_cons.mp ((h k).mp (List.mem_cons_of_mem _ m)) with e | e
      · subst e; have := ha.1 k m; omega
      · exact e, fun m => by
      rcases List.mem_cons.mp ((h k).mpr (List.mem_cons_of_mem _ m)) with e | e
      · subst e; have := hb.1 k m; omega
      · exact e⟩]
end BC

set_option Elab.async false
set_option linter.all false
set_option maxRecDepth 100000
set_option maxHeartbeats 4000000
/-! sites: lists of lists of natural numbers, and how they lie in the heap -/
namespace BC
open PySem PySem.Spec PyProof.Rows L2 Evl
/-! ### xs + ys of lists of any origin -/
section
variable {prog : Program} {w : World} {A : Around} {E : Value → Shared → Prop} {s : Shared}
theorem add_plain {l b : Addr} {its its2 : Array Value} {Q : Value → Shared → Prop} (x : PlainL s.heap l its) (y : PlainL s.heap b its2) (fits : its.size + its2.size ≤ sizeLine)
    (q : Q (.ref s.heap.objs.size) { s with heap := s.heap.push { cls := .type "list", data := .seq (its ++ its2) } }) : wpAny (model prog w) A (binaryOp .Add (.ref l) (.ref b)) Q E s := by
  obtain ⟨⟨c1, d1, k1, z1⟩, n1, g1, e1, e2, e3⟩ := x
  obtain ⟨⟨c2, d2, k2, z2⟩, n2, g2, e4, e5, e6⟩ := y
  obtain rfl : c1 = .type "list" := e1
  obtain rfl : c2 = .type "list" := e4
  obtain rfl : k1 = .seq its n1 := e3
  obtain rfl : k2 = .seq its2 n2 := e6
  exact concat_meets ⟨_, g1, rfl⟩ ⟨_, g2, rfl⟩ noFill_list_add seq_list_add F.slot_list_add F.entry_list_add (F.args_list_add_2 _ _) (list_addW l b its its2 n1 n2 d1 d2 z1 z2 fits) ⟨g1, g2, q⟩
end
def rCatS (K : PySem.W.Frag) : R2 := fun x y H Q => ∃ l b xs zs, x = .ref l ∧ y = .ref b ∧ SqL K H l xs ∧ SqL K H b zs ∧ xs.length + zs.length ≤ sizeLine ∧ ∀ p, H p = none → Q (.ref p) (upd H p (.lst (xs ++ zs)))
theorem k_catS {X : Cx} {K : PySem.W.Frag} (hK : X.K = K) : OpR X (binaryOp .Add) (rCatS K) := by
  subst hK
  intro pins s σ H x y v u Q I rx ry h
  obtain ⟨l, b, xs, zs, rfl, rfl, hH, hB, hz, q⟩ := h
  cases rx
  cases ry
  obtain ⟨its, r, p1, _⟩ := I.list hH
  obtain ⟨its2, r2, p2, _⟩ := I.list hB
  have l1 := r.length
  have l2 := r2.length
  refine add_plain p1 p2 (by rw [List.size_toArray, List.size_toArray]; omega) ?_
  have ea : its.toArray ++ its2.toArray = (its ++ its2).toArray := by simp
  rw [ea]
  exact ⟨.ref _, _, I.lnew (t' := s.toks) (r.append r2) (by rw [List.length_append]; omega), rfl, q _ I.fresh⟩
theorem catS {K : PySem.W.Frag} {H : Hp} {Q : VK} {p b : Addr} {xs ys : List V} (h : SqL K H p xs) (hb : SqL K H b ys) (hz : xs.length + ys.length ≤ sizeLine) (q : ∀ l, H l = none → Q (.ref l) (upd H l (.lst (xs ++ ys)))) : rCatS K (.ref p) (.ref b) H Q := ⟨p, b, xs, ys, rfl, rfl, h, hb, hz, q⟩
/-- natural numbers as the program's -/
def nz (L : List Nat) : List Int := L.map fun x : Nat => (x : Int)
theorem nz_len (L : List Nat) : (nz L).length = L.length := List.length_map _
theorem nz_at {L : List Nat} {i x : Nat} (h : L[i]? = some x) : ((nz L).map V.int)[i]? = some (.int (x : Int)) := by
  unfold nz
  rw [List.getElem?_map, List.getElem?_map, h]
  rfl
theorem at_nz {L : List Nat} {i : Nat} {v : V} (h : ((nz L).map V.int)[i]? = some v) : ∃ x, L[i]? = some x ∧ v = .int (x : Int) := by
  unfold nz at h
  rw [List.getElem?_map, List.getElem?_map] at h
  cases e : L[i]? with
  | none => rw [e] at h; cases h
  | some x => rw [e] at h; cases h; exact ⟨x, rfl, rfl⟩
theorem nz_mem {L : List Nat} {x : Nat} : ((x : Nat) : Int) ∈ nz L ↔ x ∈ L := by
  unfold nz
  rw [List.mem_map]
  exact ⟨fun ⟨y, h, e⟩ => by rw [← Int.ofNat.inj e]; exact h, fun h => ⟨x, h, rfl⟩⟩
theorem nz_inj : ∀ {a b : List Nat}, nz a = nz b → a = b
  | [], [], _ => rfl
  | [], y :: b, h => by cases h
  | x :: a, [], h => by cases h
  | x :: a, y :: b, h => by
    have h1 := (List.cons.inj h).1
    have h2 := (List.cons.inj h).2
    rw [nz_inj (show nz a = nz b from h2), Int.ofNat.inj h1]
theorem nz_app (a b : List Nat) : nz (a ++ b) = nz a ++ nz b := List.map_append
theorem nz_v (a : List Nat) (x : Nat) : (nz a).map V.int ++ [V.int (x : Int)] = (nz (a ++ [x])).map V.int := by rw [nz_app, List.map_append]; rfl
theorem lts {l : List Nat} (h : l.Pairwise (· < ·)) : (nz l).Pairwise (· < ·) := by
  unfold nz
  rw [List.pairwise_map]
  exact h.imp fun h => by omega
theorem nz_nodup {l : List Nat} (h : l.Nodup) : (nz l).Nodup := by
  unfold nz List.Nodup
  rw [List.pairwise_map]
  exact h.imp fun h e => h (Int.ofNat.inj e)
theorem nodup_lt : ∀ (n : Nat) {l : List Nat}, l.Nodup → (∀ x ∈ l, x < n) → l.length ≤ n
  | 0, [], _, _ => Nat.le_refl _
  | 0, x :: l, _, h => by have := h x List.mem_cons_self; omega
  | n + 1, l, h1, h2 => by
    by_cases m : n ∈ l
    · have h3 := nodup_lt n (l := l.erase n) (h1.erase _) (fun x hx => by
        have a := h2 x (List.mem_of_mem_erase hx)
        have b : x ≠ n := fun e => by
          rw [h1.mem_erase_iff] at hx
          exact hx.1 e
        omega)
      have := List.length_erase_of_mem m
      omega
    · have h3 := nodup_lt n h1 (fun x hx => by
        have a := h2 x hx
        have b : x ≠ n := fun e => m (e ▸ hx)
        omega)
      omega
theorem asc_nodup {l : List Nat} (h : l.Pairwise (· < ·)) : l.Nodup := h.imp fun h => by omega
/-! ### sites -/
abbrev Grid := List (List Nat)
structure SiteOk (G : Grid) : Prop where
  n1 : 1 ≤ G.length
  n2 : G.length ≤ 12
  asc : ∀ (i : Nat) (r : List Nat), G[i]? = some r → r.Pairwise (· < ·)
  lt : ∀ (i : Nat) (r : List Nat), G[i]? = some r → ∀ x ∈ r, x < G.length
  no : ∀ (i : Nat) (r : List Nat), G[i]? = some r → i ∉ r
theorem SiteOk.len {G : Grid} (h : SiteOk G) {i : Nat} {r : List Nat} (e : G[i]? = some r) : r.length ≤ 12 := Nat.le_trans (nodup_lt _ (asc_nodup (h.asc i r e)) (h.lt i r e)) h.n2
/-- the row of a page -/
def row (G : Grid) (i : Nat) : List Nat := G.getD i []
theorem row_at {G : Grid} {i : Nat} {r : List Nat} (h : G[i]? = some r) : row G i = r := by
  unfold row
  rw [List.getD_eq_getElem?_getD, h]
  rfl
theorem at_row {G : Grid} {i : Nat} (h : i < G.length) : G[i]? = some (row G i) := by
  unfold row
  rw [List.getD_eq_getElem?_getD, List.getElem?_eq_getElem h]
  rfl
theorem SiteOk.rlt {G : Grid} (h : SiteOk G) {i x : Nat} (m : x ∈ row G i) : x < G.length := by
  by_cases q : i < G.length
  · exact h.lt i _ (at_row q) x m
  · unfold row at m
    rw [List.getD_eq_getElem?_getD, List.getElem?_eq_none (by omega)] at m
    exact (List.not_mem_nil m).elim
theorem SiteOk.rlen {G : Grid} (h : SiteOk G) (i : Nat) : (row G i).length ≤ 12 := by
  by_cases q : i < G.length
  · exact h.len (at_row q)
  · unfold row
    rw [List.getD_eq_getElem?_getD, List.getElem?_eq_none (by omega)]
    exact Nat.zero_le _
/-- a list at s of lists of numbers -/
def GridAt (H : Hp) (s : Addr) (G : Grid) : Prop := ∃ ps : List Addr, H s = some (.lst (ps.map V.ref)) ∧ ps.length = G.length ∧ ∀ i p, ps[i]? = some p → H p = some (.lst ((nz (row G i)).map V.int))
theorem GridAt.ex {H H' : Hp} {s : Addr} {G : Grid} (h : GridAt H s G) (e : Ex H H') : GridAt H' s G := by
  obtain ⟨ps, h1, h2, h3⟩ := h
  exact ⟨ps, e _ _ h1, h2, fun i p q => e _ _ (h3 i p q)⟩
theorem GridAt.get {H : Hp} {s : Addr} {G : Grid} (h : GridAt H s G) {i : Nat} (hi : i < G.length) : ∃ p xs, H s = some (.lst xs) ∧ xs.length = G.length ∧ xs[i]? = some (.ref p) ∧ H p = some (.lst ((nz (row G i)).map V.int)) := by
  obtain ⟨ps, h1, h2, h3⟩ := h
  have hx : ps[i]? = some ps[i] := List.getElem?_eq_getElem (by omega)
  exact ⟨ps[i], _, h1, by rw [List.length_map]; exact h2, by rw [List.getElem?_map, hx]; rfl, h3 i _ hx⟩
theorem GridAt.lst {H : Hp} {s : Addr} {G : Grid} (h : GridAt H s G) : ∃ xs, H s = some (.lst xs) ∧ xs.length = G.length ∧ ∀ (i : Nat) (v : V), xs[i]? = some v → i < G.length ∧ ∃ p, v = .ref p ∧ H p = some (.lst ((nz (row G i)).map V.int)) := by
  obtain ⟨ps, h1, h2, h3⟩ := h
  refine ⟨_, h1, by rw [List.length_map]; exact h2, fun i v e => ?_⟩
  rw [List.getElem?_map] at e
  cases q : ps[i]? with
  | none => rw [q] at e; cases e
  | some p =>
    rw [q] at e
    cases e
    exact ⟨by have := (List.getElem?_eq_some_iff.mp q).1; omega, p, rfl, h3 i p q⟩
/-- such a list, all of it new -/
def GridN (H H' : Hp) (s : Addr) (G : Grid) : Prop := H s = none ∧ ∃ ps : List Addr, H' s = some (.lst (ps.map V.ref)) ∧ ps.length = G.length ∧ ps.Nodup ∧ s ∉ ps ∧ ∀ i p, ps[i]? = some p → H p = none ∧ H' p = some (.lst ((nz (row G i)).map V.int))
theorem GridN.at {H H' : Hp} {s : Addr} {G : Grid} (h : GridN H H' s G) : GridAt H' s G := by
  obtain ⟨_, ps, h1, h2, _, _, h3⟩ := h
  exact ⟨ps, h1, h2, fun i p q => (h3 i p q).2⟩
theorem GridN.ex {H H' H2 : Hp} {s : Addr} {G : Grid} (h : GridN H H' s G) (e : Ex H' H2) : GridN H H2 s G := by
  obtain ⟨h0, ps, h1, h2, h4, h5, h3⟩ := h
  exact ⟨h0, ps, e _ _ h1, h2, h4, h5, fun i p q => ⟨(h3 i p q).1, e _ _ (h3 i p q).2⟩⟩
theorem GridN.back {H0 H H' : Hp} {s : Addr} {G : Grid} (h : GridN H H' s G) (e : Ex H0 H) : GridN H0 H' s G := by
  obtain ⟨h0, ps, h1, h2, h4, h5, h3⟩ := h
  exact ⟨fresh_back e h0, ps, h1, h2, h4, h5, fun i p q => ⟨fresh_back e (h3 i p q).1, (h3 i p q).2⟩⟩
/-- what was new after Hc stands -/
def Nw (Hc H H' : Hp) : Prop := ∀ x o, Hc x = none → H x = some o → H' x = some o
theorem Nw.of {Hc H H' : Hp} (e : Ex H H') : Nw Hc H H' := fun x o _ h => e x o h
theorem Nw.trans {Hc H H' H'' : Hp} (e : Nw Hc H H') (f : Nw Hc H' H'') : Nw Hc H H'' := fun x o n h => f x o n (e x o n h)
theorem Nw.fx {Hc H H' : Hp} {b : Addr} {o : HO} (h : Hc b = some o) (f : Fx b H H') : Nw Hc H H' := fun x v n g => f x v (fun e => by subst e; rw [h] at n; cases n) g
theorem Nw.put {Hc H : Hp} {a : Addr} {o u : HO} (h : Hc a = some u) : Nw Hc H (upd H a o) := fun x v n g => by
  rw [upd_ne (fun e => by subst e; rw [h] at n; cases n)]
  exact g
theorem GridN.nw {H H1 H2 : Hp} {s : Addr} {G : Grid} (h : GridN H H1 s G) (e : Nw H H1 H2) : GridN H H2 s G := by
  obtain ⟨h0, ps, h1, h2, h4, h5, h3⟩ := h
  exact ⟨h0, ps, e _ _ h0 h1, h2, h4, h5, fun i p q => ⟨(h3 i p q).1, e _ _ (h3 i p q).1 (h3 i p q).2⟩⟩
/-- one row more, made while the grid stood -/
theorem GridN.push {H H1 H' : Hp} {s p : Addr} {G : Grid} {r : List Nat} (h : GridN H H1 s G) (nH : H p = none) (np : H1 p = none) (e : Nw H H1 H') (hp : H' p = some (.lst ((nz r).map V.int))) :
    ∃ xs, H' s = some (.lst xs) ∧ xs.length = G.length ∧ GridN H (upd H' s (.lst (xs ++ [.ref p]))) s (G ++ [r]) := by
  have q1 := h
  obtain ⟨h0, ps, h1, h2, h4, h5, h3⟩ := h
  have hs : p ≠ s := Ne.symm (ne_of_none h1 np)
  refine ⟨_, e _ _ h0 h1, by rw [List.length_map]; exact h2, h0, ps ++ [p], by rw [upd_same, List.map_append]; rfl, by rw [List.length_append, List.length_append, h2]; rfl, ?_, ?_, fun i q eq => ?_⟩
  · rw [List.nodup_append]
    refine ⟨h4, by simp, fun a ha b hb e => ?_⟩
    rw [List.mem_singleton.mp hb] at e
    subst e
    obtain ⟨j, hj, ej⟩ := List.getElem_of_mem ha
    have := (h3 j a (List.getElem?_eq_some_iff.mpr ⟨hj, ej⟩)).2
    rw [np] at this
    cases this
  · intro m
    rcases List.mem_append.mp m with m | m
    · exact h5 m
    · exact hs (List.mem_singleton.mp m).symm
  · by_cases hi : i < ps.length
    · rw [List.getElem?_append_left hi] at eq
      have := h3 i q eq
      have ns : q ≠ s := fun z => h5 (z ▸ List.mem_of_getElem? eq)
      refine ⟨this.1, ?_⟩
      rw [upd_ne ns, e _ _ this.1 this.2]
      unfold row
      rw [List.getD_eq_getElem?_getD, List.getD_eq_getElem?_getD, List.getElem?_append_left (by omega)]
    · rw [List.getElem?_append_right (by omega)] at eq
      have hi2 : i - ps.length = 0 := by
        have := (List.getElem?_eq_some_iff.mp eq).1
        rw [List.length_singleton] at this
        omega
      rw [hi2] at eq
      obtain rfl : p = q := by simpa using eq
      refine ⟨nH, ?_⟩
      rw [upd_ne hs, hp]
      unfold row
      have : i = G.length := by omega
      rw [this, List.getD_eq_getElem?_getD, List.getElem?_append_right (Nat.le_refl _), Nat.sub_self]
      rfl
theorem GridN.nil {H : Hp} {s : Addr} (h : H s = none) : GridN H (upd H s (.lst [])) s [] := ⟨h, [], upd_same, rfl, List.nodup_nil, List.not_mem_nil, fun i p e => by simp at e⟩
/-- as data -/
def dG (G : Grid) : PyData := .list (G.map fun r => .list ((nz r).map PyData.int))
theorem dG_LL (G : Grid) : dG G = dLL (G.map nz) := by unfold dG dLL; rw [List.map_map]; rfl
theorem GridAt.dp {K : PySem.W.Frag} {H : Hp} {s : Addr} {G : Grid} (h : GridAt H s G) : Dp K H (.ref s) (dG G) := by
  obtain ⟨ps, h1, h2, h3⟩ := h
  rw [dG_LL]
  refine .lst (.inl (.inl h1)) (dp_ll (by rw [List.length_map]; exact h2) fun i p l a b => ?_)
  rw [List.getElem?_map] at b
  cases q : G[i]? with
  | none => rw [q] at b; cases b
  | some r =>
    rw [q] at b
    cases b
    have := h3 i p a
    rw [row_at q] at this
    exact .inl (.inl this)
theorem shp_LL (ls : List (List Int)) : SeqAt.shaped (dLL ls) = true := by
  have h0 : ∀ ns : List Int, PyData.canLayAll0 (ns.map PyData.int) = true := fun ns => by
    induction ns with
    | nil => simp [PyData.canLayAll0]
    | cons n ns ih => simp [PyData.canLayAll0, PyData.canLay0, ih]
  have h1 : ∀ ls : List (List Int), PyData.canLayAll0 (ls.map fun l => PyData.list (l.map PyData.int)) = true := fun ls => by
    induction ls with
    | nil => simp [PyData.canLayAll0]
    | cons l ls ih => simp [PyData.canLayAll0, PyData.canLay0, ih, h0]
  have h2 := dep_all (ds := ls.map fun l => PyData.list (l.map PyData.int)) (n := 1) fun d m => by
      obtain ⟨l, hm, rfl⟩ := List.mem_map.mp m
      simp only [PyData.depth]
      have := dep_all (ds := l.map PyData.int) (n := 0) fun d m => by
        obtain ⟨x, hx, rfl⟩ := List.mem_map.mp m
        simp [PyData.depth]
      omega
  show (PyData.canLay0 _ && decide (PyData.depth _ ≤ 64)) = true
  rw [Bool.and_eq_true]
  refine ⟨?_, decide_eq_true ?_⟩
  · unfold dLL; simp only [PyData.canLay0]; exact h1 ls
  · unfold dLL; simp only [PyData.depth]; omega
theorem eqv_LL : ∀ as bs : List (List Int), PyData.eqv (dLL as) (dLL bs) = decide (as = bs) := fun as bs => by
  unfold dLL
  simp only [PyData.eqv]
  induction as generalizing bs with
  | nil => cases bs <;> simp [PyData.eqvAll]
  | cons a as ih =>
    cases bs with
    | nil => simp [PyData.eqvAll]
    | cons b bs =>
      simp only [List.map_cons, PyData.eqvAll, eqv_ints, ih]
      by_cases h : a = b
      · subst h; simp
      · simp [h]
theorem nzs_inj : ∀ {a b : Grid}, a.map nz = b.map nz → a = b
  | [], [], _ => rfl
  | [], y :: b, h => by cases h
  | x :: a, [], h => by cases h
  | x :: a, y :: b, h => by
    rw [List.map_cons, List.map_cons] at h
    rw [nz_inj (List.cons.inj h).1, nzs_inj (List.cons.inj h).2]
theorem eqGrid {K : PySem.W.Frag} {H : Hp} {Q : VK} {a b : Addr} {F G : Grid} (h : GridAt H a F) (g : GridAt H b G) (q : Q (.bl (decide (F = G))) H) : rEqD K (.ref a) (.ref b) H Q := by
  have e : decide (F.map nz = G.map nz) = decide (F = G) := by
    by_cases z : F = G
    · rw [z, decide_eq_true rfl, decide_eq_true rfl]
    · rw [decide_eq_false z, decide_eq_false fun y => z (nzs_inj y)]
  refine ⟨_, _, h.dp, g.dp, by rw [dG_LL]; exact shp_LL _, by rw [dG_LL]; exact shp_LL _, ?_⟩
  rw [dG_LL, dG_LL, eqv_LL, e]
  exact q
theorem neGrid {K : PySem.W.Frag} {H : Hp} {Q : VK} {a b : Addr} {F G : Grid} (h : GridAt H a F) (g : GridAt H b G) (q : Q (.bl (!decide (F = G))) H) : rNeD K (.ref a) (.ref b) H Q := by
  have e : decide (F.map nz = G.map nz) = decide (F = G) := by
    by_cases z : F = G
    · rw [z, decide_eq_true rfl, decide_eq_true rfl]
    · rw [decide_eq_false z, decide_eq_false fun y => z (nzs_inj y)]
  refine ⟨_, _, h.dp, g.dp, by rw [dG_LL]; exact shp_LL _, by rw [dG_LL]; exact shp_LL _, ?_⟩
  rw [dG_LL, dG_LL, eqv_LL, e]
  exact q
theorem at_ints {ns : List Int} {i : Nat} {n : Int} (h : ns[i]? = some n) : (ns.map V.int)[i]? = some (.int n) := by rw [List.getElem?_map, h]; rfl
theorem atI_last {xs : List V} {v : V} (h : xs[xs.length - 1]? = some v) : atI xs (-1) = some v := by
  have hl : xs.length - 1 < xs.length := (List.getElem?_eq_some_iff.mp h).1
  have e : ixN xs.length (-1) = some (xs.length - 1) := by
    unfold ixN
    rw [if_neg (by omega), if_pos (by omega)]
    congr 1
    omega
  unfold atI
  rw [e]
  exact h
theorem cutV_from1 (xs : List V) : cutV xs (some 1) none = xs.drop 1 := by
  unfold cutV
  have e2 : HT.sIx xs.length xs.length none = xs.length := rfl
  have e1 : HT.sIx xs.length 0 (some 1) = min 1 xs.length := HT.sIx_nat ..
  rw [e1, e2]
  by_cases h : 1 ≤ xs.length
  · rw [Nat.min_eq_left h, List.take_of_length_le (by rw [List.length_drop]; omega)]
  · have : xs = [] := List.length_eq_zero_iff.mp (by omega)
    rw [this]
    rfl
theorem cut_take (xs : List V) (j : Nat) : cutV xs none (some (j : Int)) = xs.take j := by
  by_cases h : j ≤ xs.length
  · exact BC.cut_to xs rfl h
  · unfold cutV
    have e1 : HT.sIx xs.length 0 none = 0 := rfl
    rw [HT.sIx_nat, e1, List.drop_zero, Nat.sub_zero, Nat.min_eq_right (by omega), List.take_length, List.take_of_length_le (by omega)]
theorem GridN.get {H H' : Hp} {s : Addr} {G : Grid} (h : GridN H H' s G) {i : Nat} (hi : i < G.length) : ∃ p xs, H' s = some (.lst xs) ∧ xs.length = G.length ∧ xs[i]? = some (.ref p) ∧ H' p = some (.lst ((nz (row G i)).map V.int)) ∧ H p = none := by
  obtain ⟨_, ps, h1, h2, _, _, h3⟩ := h
  have hx : ps[i]? = some ps[i] := List.getElem?_eq_getElem (by omega)
  exact ⟨ps[i], _, h1, by rw [List.length_map]; exact h2, by rw [List.getElem?_map, hx]; rfl, (h3 i _ hx).2, (h3 i _ hx).1⟩
theorem GridN.lower {Hl H H' : Hp} {b s : Addr} {G : Grid} (h : GridN H H' s G) (f : Fx b Hl H) (hb : ∃ o, H b = some o) : GridN Hl H' s G := by
  obtain ⟨o, ho⟩ := hb
  obtain ⟨h0, ps, h1, h2, h4, h5, h3⟩ := h
  have nb : ∀ {x : Addr}, H x = none → x ≠ b := fun n e => by subst e; rw [ho] at n; cases n
  exact ⟨fx_none f h0 (nb h0), ps, h1, h2, h4, h5, fun i p q => ⟨fx_none f (h3 i p q).1 (nb (h3 i p q).1), (h3 i p q).2⟩⟩
theorem nd_at {l : List Addr} (h : l.Nodup) {i j : Nat} {x : Addr} (a : l[i]? = some x) (b : l[j]? = some x) : i = j := by
  obtain ⟨h1, h2⟩ := List.getElem?_eq_some_iff.mp a
  obtain ⟨h3, h4⟩ := List.getElem?_eq_some_iff.mp b
  have e1 := h.idxOf_getElem i h1
  have e2 := h.idxOf_getElem j h3
  rw [h2] at e1
  rw [h4] at e2
  exact e1.symm.trans e2
/-- kept of a list -/
theorem kept_nz (s : List Nat) (k : Nat → Bool) : kept s.length (fun i => k (s.getD i 0)) (fun i => V.int ((s.getD i 0 : Nat) : Int)) = (nz (s.filter k)).map V.int := by
  unfold kept nz
  have e : (List.range s.length).map (fun i => s.getD i 0) = s := by
    apply List.ext_getElem?
    intro j
    by_cases h : j < s.length
    · rw [List.getElem?_map, List.getElem?_range h, List.getElem?_eq_getElem h]
      show some (s.getD j 0) = _
      rw [List.getD_eq_getElem?_getD, List.getElem?_eq_getElem h]
      rfl
    · rw [List.getElem?_eq_none (by rw [List.length_map, List.length_range]; omega), List.getElem?_eq_none (by omega)]
  conv => rhs; rw [← e]
  rw [List.filter_map, List.map_map, List.map_map]
  rfl
theorem kept_rng (n : Nat) (k : Nat → Bool) : kept n k (fun i => V.int ((i : Nat) : Int)) = (nz ((List.range n).filter k)).map V.int := by
  unfold kept nz
  rw [List.map_map]
  rfl
/-- zip of lists of different lengths -/
theorem lc_zipM {K : PySem.W.Frag} {σ : L2.St} {H1 : Hp} {tt : TT} {te : TE} {vs : List Nat} {Dl : Addr} {Q : VK} {a b : Addr} {xs ys : List V} {j k : Nat} (n : Nat) (keep : Nat → Bool) (f : Nat → V) (hx : SqL K H1 a xs) (hy : SqL K H1 b ys) (h1 : n ≤ xs.length) (h2 : n ≤ ys.length) (h3 : n = xs.length ∨ n = ys.length) (hD : H1 Dl = none) (hn : n ≤ 100000)
    (hw : ∀ u v : V, wipe (((wipe σ vs).set j (some u)).set k (some v)) vs = wipe σ vs)
    (ht : ∀ i x y, xs[i]? = some x → ys[i]? = some y → Evl.EvT tt (((wipe σ vs).set j (some x)).set k (some y)) H1 (keep i))
    (he : ∀ i x y, xs[i]? = some x → ys[i]? = some y → keep i = true → Evl.Ev te (((wipe σ vs).set j (some x)).set k (some y)) H1 (f i))
    (hd : ∀ H', Evl.Ex H1 H' → H' Dl = some (.lst (kept n keep f)) → Q (.ref Dl) H') : LcG (Itz K a b) (gTup K 2 (gCons (gName j) (gCons (gName k) gNil))) tt te vs σ Dl H1 Q := by
  have gx : ∀ i, i < n → xs[i]? = some (xs.getD i .non) := fun i hi => by rw [List.getD_eq_getElem?_getD, List.getElem?_eq_getElem (by omega)]; rfl
  have gy : ∀ i, i < n → ys[i]? = some (ys.getD i .non) := fun i hi => by rw [List.getD_eq_getElem?_getD, List.getElem?_eq_getElem (by omega)]; rfl
  refine lc_pure n (fun i => ((wipe σ vs).set j (some (xs.getD i .non))).set k (some (ys.getD i .non))) keep f hD hn (fun H' e => ⟨xs, ys, Evl.ex_l e hx, Evl.ex_l e hy, by omega⟩)
    (fun i H' hi e => ⟨xs, ys, _, _, Evl.ex_l e hx, Evl.ex_l e hy, gx i hi, gy i hi⟩)
    (fun i H' x H'' QG hi e y q => ?_) (fun i hi => hw _ _) (fun i hi => ht i _ _ (gx i hi) (gy i hi)) (fun i hi => he i _ _ (gx i hi) (gy i hi)) hd
  obtain ⟨T, u, v, rfl, hT, rfl, hf, hf2⟩ := y
  have hu := hf xs (Evl.ex_l e hx)
  have hv := hf2 ys (Evl.ex_l e hy)
  have e1 : xs.getD i .non = u := by rw [List.getD_eq_getElem?_getD, hu]; rfl
  have e2 : ys.getD i .non = v := by rw [List.getD_eq_getElem?_getD, hv]; rfl
  refine g_two upd_same ?_
  have q2 := q (Evl.Ex.new hT)
  rw [e1, e2] at q2
  exact q2
end BC

set_option Elab.async false
set_option linter.all false
set_option maxRecDepth 100000
set_option maxHeartbeats 4000000
/-! walks on a site, by number and one by one -/
namespace BC
section
open PySem PySem.Spec PyProof.Rows L2 Evl
/-- xs[i] of xs[i] += e -/
def rGetL (K : PySem.W.Frag) : V → V → Hp → VK → Prop := fun x y H Q => ∃ p xs, ∃ i : Nat, ∃ v, x = .ref p ∧ y = .int i ∧ SqL K H p xs ∧ xs[i]? = some v ∧ Q v H
theorem k_get {X : Cx} {K : PySem.W.Frag} (hK : X.K = K) : PGet X (rGetL K) := by
  subst hK
  intro pins s σ H o i ov iv Q I ro ri h
  obtain ⟨p, xs, j, v, rfl, rfl, hq, hv, q⟩ := h
  cases ro
  obtain ⟨t, rfl⟩ := ri
  obtain ⟨its, r, pl, hz⟩ := I.list hq
  obtain ⟨u, eu, ru⟩ := r.get hv
  have hl := r.length
  have hn := line63
  have hj := (List.getElem?_eq_some_iff.mp hv).1
  refine wpAny_getItem_list (x := u) pl.isList (by omega) (by omega) (by simpa using eu) ⟨v, H, I, ru, q⟩
theorem getL {K : PySem.W.Frag} {H : Hp} {Q : VK} {p : Addr} {xs : List V} {k : Int} {i : Nat} {v : V} (h : SqL K H p xs) (e : k = (i : Int)) (hv : xs[i]? = some v) (q : Q v H) : rGetL K (.ref p) (.int k) H Q := by subst e; exact ⟨p, xs, i, v, rfl, rfl, h, hv, q⟩
theorem x_augS {to ti te : TE} {tget : V → V → Hp → VK → Prop} {tip : TIp} {tset : TSet} {D : Ends} {σ : L2.St} {H : Hp} : tAugS to ti te tget tip tset D σ H = to σ H fun o H1 => ti σ H1 fun i H2 => tget o i H2 fun x H3 => te σ H3 fun y H4 => tip x y H4 fun z H5 => tset o i z H5 fun H6 => D.nx σ H6 := rfl
end
/-- the walks of t steps from v -/
def wf (G : Grid) : Nat → Nat → List (List Nat)
  | 0, v => [[v]]
  | t + 1, v => ((row G v).map fun u => (wf G t u).map (v :: ·)).flatten
def lst (r : List Nat) : Nat := r.getLast?.getD 0
def grow (G : Grid) (r : List Nat) : List (List Nat) := (row G (lst r)).map fun u => r ++ [u]
theorem wf_ne {G : Grid} : ∀ (t v : Nat), ∀ r ∈ wf G t v, r ≠ []
  | 0, v, r, h => by
    obtain rfl : r = [v] := by simpa [wf] using h
    simp
  | t + 1, v, r, h => by
    unfold wf at h
    obtain ⟨a, ha, hr⟩ := List.mem_flatten.mp h
    obtain ⟨u, _, rfl⟩ := List.mem_map.mp ha
    obtain ⟨q, _, rfl⟩ := List.mem_map.mp hr
    simp
theorem grow_cons (G : Grid) (v : Nat) {r : List Nat} (h : r ≠ []) : grow G (v :: r) = (grow G r).map (v :: ·) := by
  unfold grow lst
  rw [List.map_map, List.getLast?_cons_of_ne_nil h]
  rfl
theorem sum_zeros {α : Type} : ∀ l : List α, (l.map fun _ => 0).sum = 0
  | [] => rfl
  | x :: l => by rw [List.map_cons, List.sum_cons, sum_zeros l]
theorem map_flatten' {α β : Type} (f : α → β) : ∀ l : List (List α), l.flatten.map f = (l.map (·.map f)).flatten
  | [] => rfl
  | a :: l => by rw [List.flatten_cons, List.map_append, map_flatten' f l]; rfl
theorem flatten_flatten' {α : Type} : ∀ l : List (List (List α)), l.flatten.flatten = (l.map (·.flatten)).flatten
  | [] => rfl
  | a :: l => by rw [List.flatten_cons, List.flatten_append, flatten_flatten' l]; rfl
theorem wf_snoc (G : Grid) : ∀ (t v : Nat), wf G (t + 1) v = ((wf G t v).map (grow G)).flatten
  | 0, v => by
    show ((row G v).map fun u => [[v, u]]).flatten = (grow G [v]) ++ []
    rw [List.append_nil]
    show ((row G v).map fun u => [[v, u]]).flatten = (row G v).map fun u => [v, u]
    generalize row G v = l
    induction l with
    | nil => rfl
    | cons x l ih =>
      rw [List.map_cons, List.flatten_cons, ih]
      rfl
  | t + 1, v => by
    have ih := fun u => wf_snoc G t u
    show ((row G v).map fun u => (wf G (t + 1) u).map (v :: ·)).flatten = ((((row G v).map fun u => (wf G t u).map (v :: ·)).flatten).map (grow G)).flatten
    rw [map_flatten', flatten_flatten', List.map_map, List.map_map]
    congr 1
    apply List.map_congr_left
    intro u _
    show (wf G (t + 1) u).map (v :: ·) = ((wf G t u |>.map (v :: ·)).map (grow G)).flatten
    rw [ih u, map_flatten', List.map_map, List.map_map]
    congr 1
    apply List.map_congr_left
    intro r hr
    show (grow G r).map (v :: ·) = grow G (v :: r)
    rw [grow_cons G v (wf_ne t u r hr)]
/-- the number of walks of t steps from v to the page that keep out -/
def fw (G : Grid) (out : List Nat) (p : Nat) : Nat → Nat → Nat
  | 0, v => if v = p ∧ v ∉ out then 1 else 0
  | t + 1, v => if v ∉ out then ((row G v).map fun u => fw G out p t u).sum else 0
/-- a walk to the page that keeps out -/
def good (out : List Nat) (p : Nat) (r : List Nat) : Bool := decide (lst r = p) && decide (r.filter (fun x => decide (x ∈ out)) = [])
theorem good_cons {out : List Nat} {p v : Nat} {r : List Nat} (h : r ≠ []) : good out p (v :: r) = (decide (v ∉ out) && good out p r) := by
  unfold good lst
  rw [List.getLast?_cons_of_ne_nil h]
  by_cases c : v ∈ out
  · simp [c]
  · simp [c]
theorem len_flat {α : Type} (P : α → Bool) : ∀ l : List (List α), (l.flatten.filter P).length = (l.map fun a => (a.filter P).length).sum
  | [] => rfl
  | a :: l => by rw [List.flatten_cons, List.filter_append, List.length_append, len_flat P l]; rfl
theorem fw_count (G : Grid) (out : List Nat) (p : Nat) : ∀ (t v : Nat), ((wf G t v).filter (good out p)).length = fw G out p t v
  | 0, v => by
    show ([[v]].filter (good out p)).length = if v = p ∧ v ∉ out then 1 else 0
    have e : good out p [v] = (decide (v = p) && decide (v ∉ out)) := by
      show (decide (v = p) && decide ([v].filter (fun x => decide (x ∈ out)) = [])) = _
      congr 1
      by_cases c : v ∈ out <;> simp [c]
    by_cases a : v = p <;> by_cases c : v ∈ out <;> simp [e, a, c]
    all_goals (subst a; simp_all)
  | t + 1, v => by
    show ((((row G v).map fun u => (wf G t u).map (v :: ·)).flatten).filter (good out p)).length = if v ∉ out then ((row G v).map fun u => fw G out p t u).sum else 0
    rw [len_flat, List.map_map]
    have key : ∀ u, (((wf G t u).map (v :: ·)).filter (good out p)).length = if v ∉ out then fw G out p t u else 0 := fun u => by
      rw [List.filter_map, List.length_map]
      have e : (wf G t u).filter (good out p ∘ fun x => v :: x) = (wf G t u).filter fun r => decide (v ∉ out) && good out p r := by
        apply List.filter_congr
        intro r hr
        show good out p (v :: r) = _
        rw [good_cons (wf_ne t u r hr)]
      rw [e]
      by_cases c : v ∈ out
      · simp [c]
      · rw [if_pos c]
        simp only [c, not_false_eq_true, decide_true, Bool.true_and]
        exact fw_count G out p t u
    by_cases c : v ∈ out
    · rw [if_neg (by simpa using c)]
      have : (row G v).map ((fun a => (List.filter (good out p) a).length) ∘ fun u => (wf G t u).map (v :: ·)) = (row G v).map fun _ => 0 := List.map_congr_left fun u _ => by
        show (((wf G t u).map (v :: ·)).filter (good out p)).length = 0
        rw [key u, if_neg (by simpa using c)]
      rw [this, sum_zeros]
    · rw [if_pos c]
      congr 1
      apply List.map_congr_left
      intro u _
      show (((wf G t u).map (v :: ·)).filter (good out p)).length = _
      rw [key u, if_pos c]
theorem wf_lt {G : Grid} (h : SiteOk G) : ∀ (t v : Nat), v < G.length → ∀ r ∈ wf G t v, (∀ x ∈ r, x < G.length) ∧ r.length = t + 1
  | 0, v, hv, r, hr => by
    obtain rfl : r = [v] := by simpa [wf] using hr
    exact ⟨fun x hx => by rw [List.mem_singleton.mp hx]; exact hv, rfl⟩
  | t + 1, v, hv, r, hr => by
    unfold wf at hr
    obtain ⟨a, ha, hr⟩ := List.mem_flatten.mp hr
    obtain ⟨u, hu, rfl⟩ := List.mem_map.mp ha
    obtain ⟨q, hq, rfl⟩ := List.mem_map.mp hr
    obtain ⟨h1, h2⟩ := wf_lt h t u (h.rlt hu) q hq
    refine ⟨fun x hx => ?_, by rw [List.length_cons, h2]⟩
    rcases List.mem_cons.mp hx with rfl | hx
    · exact hv
    · exact h1 x hx
theorem sum_le {f : Nat → Nat} {b : Nat} : ∀ {l : List Nat}, (∀ x ∈ l, f x ≤ b) → (l.map f).sum ≤ l.length * b
  | [], _ => by simp
  | x :: l, h => by
    have a := h x List.mem_cons_self
    have b := sum_le (l := l) fun y hy => h y (List.mem_cons_of_mem _ hy)
    rw [List.map_cons, List.sum_cons, List.length_cons, Nat.succ_mul]
    omega
theorem fw_le {G : Grid} (h : SiteOk G) (out : List Nat) (p : Nat) : ∀ t v, fw G out p t v ≤ 12 ^ t
  | 0, v => by
    unfold fw
    split <;> simp
  | t + 1, v => by
    unfold fw
    split
    · have a := sum_le (f := fun u => fw G out p t u) (b := 12 ^ t) (l := row G v) fun u _ => fw_le h out p t u
      have b := Nat.mul_le_mul_right (12 ^ t) (h.rlen v)
      rw [Nat.pow_succ, Nat.mul_comm]
      omega
    · exact Nat.zero_le _
theorem wf_len {G : Grid} (h : SiteOk G) : ∀ (t v : Nat), (wf G t v).length ≤ G.length ^ t
  | 0, v => by simp [wf]
  | t + 1, v => by
    show (((row G v).map fun u => (wf G t u).map (v :: ·)).flatten).length ≤ _
    have e : (((row G v).map fun u => (wf G t u).map (v :: ·)).flatten).length = ((row G v).map fun u => (wf G t u).length).sum := by
      rw [List.length_flatten, List.map_map]
      congr 1
      apply List.map_congr_left
      intro u _
      show ((wf G t u).map _).length = _
      rw [List.length_map]
    rw [e]
    have a := sum_le (f := fun u => (wf G t u).length) (b := G.length ^ t) (l := row G v) fun u _ => wf_len h t u
    have rl : (row G v).length ≤ G.length := by
      by_cases q : v < G.length
      · exact nodup_lt _ (asc_nodup (h.asc v _ (at_row q))) (h.lt v _ (at_row q))
      · unfold row
        rw [List.getD_eq_getElem?_getD, List.getElem?_eq_none (by omega)]
        exact Nat.zero_le _
    have b := Nat.mul_le_mul_right (G.length ^ t) rl
    rw [Nat.pow_succ, Nat.mul_comm]
    omega
theorem flat_le {α β : Type} {f : α → List β} {b : Nat} : ∀ {l : List α}, (∀ x ∈ l, (f x).length ≤ b) → (l.map f).flatten.length ≤ l.length * b
  | [], _ => by simp
  | x :: l, h => by
    have a := h x List.mem_cons_self
    have c := flat_le (l := l) fun y hy => h y (List.mem_cons_of_mem _ hy)
    rw [List.map_cons, List.flatten_cons, List.length_append, List.length_cons, Nat.succ_mul]
    omega
/-! ### products of lists of numbers -/
def cnv (a b : List Nat) (k : Nat) : Nat := ((List.range (k + 1)).map fun i => a.getD i 0 * b.getD (k - i) 0).sum
def conv (a b : List Nat) (n : Nat) : List Nat := (List.range (n + 1)).map fun k => cnv a b k
theorem conv_len (a b : List Nat) (n : Nat) : (conv a b n).length = n + 1 := by unfold conv; rw [List.length_map, List.length_range]
theorem conv_at {a b : List Nat} {n k : Nat} (h : k ≤ n) : (conv a b n)[k]? = some (cnv a b k) := by
  unfold conv
  rw [List.getElem?_map, List.getElem?_range (by omega)]
  rfl
/-- what is added up while the first i of a are done, and j of b at the next one -/
def part (a b : List Nat) (i j k : Nat) : Nat := ((List.range (k + 1)).map fun u => if u < i ∨ (u = i ∧ k - u < j) then a.getD u 0 * b.getD (k - u) 0 else 0).sum
theorem part_zero (a b : List Nat) (k : Nat) : part a b 0 0 k = 0 := by
  unfold part
  have : (List.range (k + 1)).map (fun u => if u < 0 ∨ (u = 0 ∧ k - u < 0) then a.getD u 0 * b.getD (k - u) 0 else 0) = (List.range (k + 1)).map fun _ => 0 := List.map_congr_left fun u _ => by rw [if_neg (by omega)]
  rw [this, sum_zeros]
theorem sum_one (n i : Nat) (f g : Nat → Nat) (c : Nat) (hi : i < n) (h1 : ∀ u, u < n → u ≠ i → g u = f u) (h2 : g i = f i + c) : ((List.range n).map g).sum = ((List.range n).map f).sum + c := by
  induction n with
  | zero => omega
  | succ n ih =>
    rw [List.range_succ, List.map_append, List.map_append, List.sum_append, List.sum_append]
    simp only [List.map_cons, List.map_nil, List.sum_cons, List.sum_nil]
    by_cases e : i = n
    · subst e
      have : (List.range i).map g = (List.range i).map f := List.map_congr_left fun u hu => h1 u (by rw [List.mem_range] at hu; omega) (by rw [List.mem_range] at hu; omega)
      rw [this, h2]
      omega
    · rw [ih (by omega) (fun u hu ne => h1 u (by omega) ne), h1 n (by omega) (Ne.symm e)]
      omega
theorem part_step {a b : List Nat} {i j k : Nat} : part a b i (j + 1) k = part a b i j k + if k = i + j then a.getD i 0 * b.getD j 0 else 0 := by
  unfold part
  by_cases c : k = i + j
  · rw [if_pos c]
    refine sum_one (k + 1) i _ _ _ (by omega) (fun u hu ne => ?_) ?_
    · have : (u < i ∨ (u = i ∧ k - u < j + 1)) ↔ (u < i ∨ (u = i ∧ k - u < j)) := by omega
      simp only [this]
    · have e : k - i = j := by omega
      rw [if_pos (by omega), if_neg (by omega), e, Nat.zero_add]
  · rw [if_neg c, Nat.add_zero]
    congr 1
    apply List.map_congr_left
    intro u hu
    rw [List.mem_range] at hu
    have : (u < i ∨ (u = i ∧ k - u < j + 1)) ↔ (u < i ∨ (u = i ∧ k - u < j)) := by omega
    simp only [this]
theorem part_next {a b : List Nat} {i j k : Nat} (h : k < i + j ∨ b.length ≤ j ∨ a.getD i 0 = 0) : part a b i j k = part a b (i + 1) 0 k := by
  unfold part
  congr 1
  apply List.map_congr_left
  intro u hu
  rw [List.mem_range] at hu
  by_cases c1 : u < i
  · rw [if_pos (.inl c1), if_pos (by omega)]
  · by_cases c2 : u = i
    · subst c2
      rw [if_pos (show u < u + 1 ∨ _ by omega)]
      by_cases c3 : k - u < j
      · rw [if_pos (by omega)]
      · rw [if_neg (by omega)]
        rcases h with h | h | h
        · omega
        · rw [show b.getD (k - u) 0 = 0 by rw [List.getD_eq_getElem?_getD, List.getElem?_eq_none (by omega)]; rfl, Nat.mul_zero]
        · rw [h, Nat.zero_mul]
    · rw [if_neg (by omega), if_neg (by omega)]
theorem part_full {a b : List Nat} {i k : Nat} (h : k < i ∨ a.length ≤ i) : part a b i 0 k = cnv a b k := by
  unfold part cnv
  congr 1
  apply List.map_congr_left
  intro u hu
  rw [List.mem_range] at hu
  by_cases c : u < i
  · rw [if_pos (.inl c)]
  · rw [if_neg (by omega)]
    rw [show a.getD u 0 = 0 by rw [List.getD_eq_getElem?_getD, List.getElem?_eq_none (by omega)]; rfl, Nat.zero_mul]
theorem part_le {a b : List Nat} {i j k B C : Nat} (ha : ∀ x ∈ a, x ≤ B) (hb : ∀ x ∈ b, x ≤ C) : part a b i j k ≤ (k + 1) * (B * C) := by
  unfold part
  have ga : ∀ u, a.getD u 0 ≤ B := fun u => by
    by_cases q : u < a.length
    · rw [List.getD_eq_getElem?_getD, List.getElem?_eq_getElem q]
      exact ha _ (List.getElem_mem q)
    · rw [List.getD_eq_getElem?_getD, List.getElem?_eq_none (by omega)]
      exact Nat.zero_le _
  have gb : ∀ u, b.getD u 0 ≤ C := fun u => by
    by_cases q : u < b.length
    · rw [List.getD_eq_getElem?_getD, List.getElem?_eq_getElem q]
      exact hb _ (List.getElem_mem q)
    · rw [List.getD_eq_getElem?_getD, List.getElem?_eq_none (by omega)]
      exact Nat.zero_le _
  have := sum_le (f := fun u => if u < i ∨ (u = i ∧ k - u < j) then a.getD u 0 * b.getD (k - u) 0 else 0) (b := B * C) (l := List.range (k + 1)) fun u _ => by
    split
    · exact Nat.mul_le_mul (ga u) (gb _)
    · exact Nat.zero_le _
  rw [List.length_range] at this
  exact this
/-- the list of the sums -/
def parts (a b : List Nat) (n i j : Nat) : List Nat := (List.range (n + 1)).map fun k => part a b i j k
theorem parts_len (a b : List Nat) (n i j : Nat) : (parts a b n i j).length = n + 1 := by unfold parts; rw [List.length_map, List.length_range]
theorem parts_at {a b : List Nat} {n i j k : Nat} (h : k ≤ n) : (parts a b n i j)[k]? = some (part a b i j k) := by
  unfold parts
  rw [List.getElem?_map, List.getElem?_range (by omega)]
  rfl
theorem parts_zero (a b : List Nat) (n : Nat) : parts a b n 0 0 = List.replicate (n + 1) 0 := by
  apply List.ext_getElem?
  intro k
  by_cases h : k < n + 1
  · rw [parts_at (by omega), part_zero, List.getElem?_replicate, if_pos h]
  · rw [List.getElem?_eq_none (by rw [parts_len]; omega), List.getElem?_eq_none (by rw [List.length_replicate]; omega)]
theorem parts_step {a b : List Nat} {n i j : Nat} (h : i + j ≤ n) : (parts a b n i j).set (i + j) (part a b i j (i + j) + a.getD i 0 * b.getD j 0) = parts a b n i (j + 1) := by
  apply List.ext_getElem?
  intro k
  by_cases hk : k < n + 1
  · rw [parts_at (by omega), part_step, List.getElem?_set]
    by_cases e : i + j = k
    · subst e
      rw [if_pos rfl, if_pos (by rw [parts_len]; omega), if_pos rfl]
    · rw [if_neg e, parts_at (by omega), if_neg (Ne.symm e), Nat.add_zero]
  · rw [List.getElem?_eq_none (by rw [List.length_set, parts_len]; omega), List.getElem?_eq_none (by rw [parts_len]; omega)]
theorem parts_over {a b : List Nat} {n i j : Nat} (h : n < i + j) : parts a b n i (j + 1) = parts a b n i j := by
  unfold parts
  apply List.map_congr_left
  intro k hk
  rw [List.mem_range] at hk
  rw [part_step, if_neg (by omega), Nat.add_zero]
theorem parts_next {a b : List Nat} {n i j : Nat} (h : n < i + j ∨ b.length ≤ j ∨ a.getD i 0 = 0) : parts a b n i j = parts a b n (i + 1) 0 := by
  unfold parts
  apply List.map_congr_left
  intro k hk
  rw [List.mem_range] at hk
  exact part_next (by omega)
theorem parts_full {a b : List Nat} {n i : Nat} (h : n < i ∨ a.length ≤ i) : parts a b n i 0 = conv a b n := by
  unfold parts conv
  apply List.map_congr_left
  intro k hk
  rw [List.mem_range] at hk
  exact part_full (by omega)
section
open PySem PySem.Spec PyProof.Rows L2 Evl
theorem lc_enumE {K : PySem.W.Frag} {σ : L2.St} {H1 : Hp} {g : TG} {te : TE} {vs : List Nat} {Dl : Addr} {Q : VK} {a : Addr} {xs : List V} (Pv : Nat → Hp → Prop) (h0 : Pv 0 (upd H1 Dl (.lst []))) (hl : ∀ i H, i ≤ xs.length → Pv i H → SqL K H a xs)
    (hs : ∀ i x H T, xs[i]? = some x → Pv i H → H T = none → g (.ref T) (wipe σ vs) (upd H T (.tup [.int (i : Nat), x])) fun σ2 H2 => wipe σ2 vs = wipe σ vs ∧ te σ2 H2 fun y H4 => ∃ acc, H4 Dl = some (.lst acc) ∧ acc.length < sizeLine ∧ Pv (i + 1) (upd H4 Dl (.lst (acc ++ [y]))))
    (hd : ∀ H, Pv xs.length H → Q (.ref Dl) H) : LcG (Ite K a) g tYes te vs σ Dl H1 Q := by
  refine lc_g xs.length Pv h0 (fun H h => ⟨xs, hl _ H (Nat.le_refl _) h, Nat.le_refl _⟩) (fun i H hi h => ⟨xs, xs[i], hl i H (by omega) h, List.getElem?_eq_getElem hi⟩) (fun i H x H' hi h y => ?_) hd
  obtain ⟨T, v, rfl, hT, rfl, hf⟩ := y
  exact hs i v H T (hf xs (hl i _ (by omega) h)) h hT
/-- a row of a new grid changed -/
theorem GridN.chg {H H1 : Hp} {s : Addr} {G : Grid} (h : GridN H H1 s G) {j : Nat} (hj : j < G.length) : ∃ p xs, H1 s = some (.lst xs) ∧ xs.length = G.length ∧ xs[j]? = some (.ref p) ∧ H1 p = some (.lst ((nz (row G j)).map V.int)) ∧ H p = none ∧
    ∀ r : List Nat, GridN H (upd H1 p (.lst ((nz r).map V.int))) s (G.set j r) := by
  obtain ⟨h0, ps, h1, h2, h4, h5, h3⟩ := h
  have hx : ps[j]? = some ps[j] := List.getElem?_eq_getElem (by omega)
  have hp := h3 j _ hx
  refine ⟨ps[j], _, h1, by rw [List.length_map]; exact h2, by rw [List.getElem?_map, hx]; rfl, hp.2, hp.1, fun r => ?_⟩
  have ns : s ≠ ps[j] := fun e => h5 (by rw [e]; exact List.getElem_mem _)
  refine ⟨h0, ps, by rw [upd_ne ns]; exact h1, by rw [List.length_set]; exact h2, h4, h5, fun i q e => ⟨(h3 i q e).1, ?_⟩⟩
  by_cases c : i = j
  · subst c
    rw [hx] at e
    obtain rfl := Option.some.inj e
    rw [upd_same]
    unfold row
    rw [List.getD_eq_getElem?_getD, List.getElem?_set, if_pos rfl, if_pos hj]
    rfl
  · have nq : q ≠ ps[j] := fun z => by
      subst z
      exact c (nd_at h4 e hx)
    rw [upd_ne nq, (h3 i q e).2]
    unfold row
    rw [List.getD_eq_getElem?_getD, List.getD_eq_getElem?_getD, List.getElem?_set, if_neg (Ne.symm c)]
/-! ### what the functions of loops.py give -/
def cl (G : Grid) (out : List Nat) (p n : Nat) : List Nat := (List.range (n + 1)).map fun t => fw G out p t p
def stg (G : Grid) (out : List Nat) (p k j : Nat) : Grid := (List.range G.length).map fun v => (List.range (if v < j then k + 2 else k + 1)).map fun t => fw G out p t v
theorem stg_len (G : Grid) (out : List Nat) (p k j : Nat) : (stg G out p k j).length = G.length := by unfold stg; rw [List.length_map, List.length_range]
theorem stg_row {G : Grid} {out : List Nat} {p k j v : Nat} (h : v < G.length) : row (stg G out p k j) v = (List.range (if v < j then k + 2 else k + 1)).map fun t => fw G out p t v := by
  unfold row stg
  rw [List.getD_eq_getElem?_getD, List.getElem?_map, List.getElem?_range h]
  rfl
theorem stg_set {G : Grid} {out : List Nat} {p k j : Nat} (h : j < G.length) : (stg G out p k j).set j (row (stg G out p k j) j ++ [fw G out p (k + 1) j]) = stg G out p k (j + 1) := by
  apply List.ext_getElem?
  intro v
  by_cases hv : v < G.length
  · rw [List.getElem?_set, stg_row h, if_neg (Nat.lt_irrefl j)]
    have rhs : (stg G out p k (j + 1))[v]? = some (row (stg G out p k (j + 1)) v) := at_row (by rw [stg_len]; exact hv)
    rw [rhs, stg_row hv]
    by_cases e : j = v
    · subst e
      rw [if_pos rfl, if_pos (by rw [stg_len]; exact hv), if_pos (Nat.lt_succ_self j), List.range_succ (n := k + 1), List.map_append]
      rfl
    · rw [if_neg e, at_row (by rw [stg_len]; exact hv), stg_row hv]
      by_cases c : v < j
      · rw [if_pos c, if_pos (by omega)]
      · rw [if_neg c, if_neg (by omega)]
  · rw [List.getElem?_eq_none (by rw [List.length_set, stg_len]; omega), List.getElem?_eq_none (by rw [stg_len]; omega)]
theorem stg_next (G : Grid) (out : List Nat) (p k : Nat) : stg G out p k G.length = stg G out p (k + 1) 0 := by
  unfold stg
  apply List.map_congr_left
  intro v hv
  rw [List.mem_range] at hv
  rw [if_pos hv, if_neg (by omega)]
theorem stg_cl {G : Grid} {out : List Nat} {p n : Nat} (h : p < G.length) : row (stg G out p n 0) p = cl G out p n := by
  rw [stg_row h, if_neg (by omega)]
  rfl
def prs (G : Grid) (L : List Nat) (n : Nat) : Grid := (List.range L.length).map fun i => cl G (L.take i) (L.getD i 0) n
theorem prs_len (G : Grid) (L : List Nat) (n : Nat) : (prs G L n).length = L.length := by unfold prs; rw [List.length_map, List.length_range]
theorem prs_row {G : Grid} {L : List Nat} {n i : Nat} (h : i < L.length) : row (prs G L n) i = cl G (L.take i) (L.getD i 0) n := by
  unfold row prs
  rw [List.getD_eq_getElem?_getD, List.getElem?_map, List.getElem?_range h]
  rfl
def fold (n : Nat) (P : Grid) : List Nat := P.foldl (fun f q => conv f q n) (1 :: List.replicate n 0)
theorem fold_len (n : Nat) (P : Grid) : (fold n P).length = n + 1 := by
  unfold fold
  have : ∀ (P : Grid) (f : List Nat), f.length = n + 1 → (P.foldl (fun f q => conv f q n) f).length = n + 1 := fun P => by
    induction P with
    | nil => exact fun f h => h
    | cons q P ih => exact fun f _ => ih _ (conv_len _ _ _)
  exact this P _ (by simp)
theorem fold_snoc {n : Nat} {P : Grid} {i : Nat} {q : List Nat} (h : P[i]? = some q) : fold n (P.take (i + 1)) = conv (fold n (P.take i)) q n := by
  unfold fold
  rw [List.take_add_one, h, List.foldl_append]
  rfl
theorem cl_le {G : Grid} (h : SiteOk G) (out : List Nat) (p n : Nat) : ∀ x ∈ cl G out p n, x ≤ 12 ^ n := fun x hx => by
  unfold cl at hx
  obtain ⟨t, ht, rfl⟩ := List.mem_map.mp hx
  rw [List.mem_range] at ht
  exact Nat.le_trans (fw_le h out p t p) (Nat.pow_le_pow_right (by omega) (by omega))
theorem cl_len (G : Grid) (out : List Nat) (p n : Nat) : (cl G out p n).length = n + 1 := by unfold cl; rw [List.length_map, List.length_range]
theorem cnv_le {a b : List Nat} {k B C : Nat} (ha : ∀ x ∈ a, x ≤ B) (hb : ∀ x ∈ b, x ≤ C) : cnv a b k ≤ (k + 1) * (B * C) := by
  rw [← part_full (a := a) (b := b) (i := k + 1) (k := k) (.inl (by omega))]
  exact part_le ha hb
theorem fold_le {n : Nat} {P : Grid} (hP : ∀ q ∈ P, ∀ x ∈ q, x ≤ 12 ^ n) : ∀ i, ∀ x ∈ fold n (P.take i), x ≤ ((n + 1) * 12 ^ n) ^ i := fun i => by
  induction i with
  | zero =>
    intro x hx
    rw [List.take_zero] at hx
    have : x ∈ 1 :: List.replicate n 0 := hx
    rcases List.mem_cons.mp this with rfl | h
    · simp
    · rw [List.eq_of_mem_replicate h]; exact Nat.zero_le _
  | succ i ih =>
    intro x hx
    by_cases c : i < P.length
    · have e : P[i]? = some P[i] := List.getElem?_eq_getElem c
      rw [fold_snoc e] at hx
      unfold conv at hx
      obtain ⟨k, hk, rfl⟩ := List.mem_map.mp hx
      rw [List.mem_range] at hk
      have a := cnv_le (k := k) ih (hP P[i] (List.getElem_mem c))
      have b : (k + 1) * (((n + 1) * 12 ^ n) ^ i * 12 ^ n) ≤ (n + 1) * (((n + 1) * 12 ^ n) ^ i * 12 ^ n) := Nat.mul_le_mul_right _ (by omega)
      have d : (n + 1) * (((n + 1) * 12 ^ n) ^ i * 12 ^ n) = ((n + 1) * 12 ^ n) ^ (i + 1) := by
        rw [Nat.pow_succ, Nat.mul_left_comm]
      omega
    · rw [List.take_of_length_le (by omega)] at hx
      rw [List.take_of_length_le (by omega)] at ih
      have a := ih x hx
      have b : ((n + 1) * 12 ^ n) ^ i ≤ ((n + 1) * 12 ^ n) ^ (i + 1) := Nat.pow_le_pow_right (Nat.mul_pos (by omega) (Nat.pow_pos (by omega))) (by omega)
      omega
theorem big_fold {n i : Nat} (hn : n ≤ 60) (hi : i ≤ 12) : ((n + 1) * 12 ^ n) ^ i < 2 ^ 4000 := by
  have a : (n + 1) * 12 ^ n ≤ 61 * 12 ^ 60 := Nat.mul_le_mul (by omega) (Nat.pow_le_pow_right (by omega) hn)
  have b : ((n + 1) * 12 ^ n) ^ i ≤ (61 * 12 ^ 60) ^ i := Nat.pow_le_pow_left a i
  have c : (61 * 12 ^ 60) ^ i ≤ (61 * 12 ^ 60) ^ 12 := Nat.pow_le_pow_right (by decide) hi
  have d : (61 * 12 ^ 60) ^ 12 < 2 ^ 4000 := by decide +kernel
  omega
theorem big_cl {n : Nat} (hn : n ≤ 60) : 12 ^ n < 2 ^ 4000 := by
  have a : 12 ^ n ≤ 12 ^ 60 := Nat.pow_le_pow_right (by omega) hn
  have d : 12 ^ 60 < 2 ^ 4000 := by decide +kernel
  omega
/-- a new grid behind a new grid -/
theorem GridN.ext {H H1 H2 : Hp} {s d : Addr} {G F : Grid} (h : GridN H H1 s G) (g : GridN H1 H2 d F) (e : Ex H1 H2) (low : ∀ x, H1 x = none → H x = none) : ∃ xs zs, H2 s = some (.lst xs) ∧ H2 d = some (.lst zs) ∧ xs.length = G.length ∧ zs.length = F.length ∧ GridN H (upd H2 s (.lst (xs ++ zs))) s (G ++ F) := by
  obtain ⟨h0, ps, h1, h2, h4, h5, h3⟩ := h
  obtain ⟨g0, qs, g1, g2, g4, g5, g3⟩ := g
  refine ⟨_, _, e _ _ h1, g1, by rw [List.length_map, h2], by rw [List.length_map, g2], h0, ps ++ qs, by rw [upd_same, List.map_append], by rw [List.length_append, List.length_append, h2, g2], ?_, ?_, fun i p q => ?_⟩
  · rw [List.nodup_append]
    refine ⟨h4, g4, fun a ha b hb z => ?_⟩
    subst z
    obtain ⟨i, hi, ei⟩ := List.getElem_of_mem ha
    obtain ⟨j, hj, ej⟩ := List.getElem_of_mem hb
    have a1 := (h3 i a (List.getElem?_eq_some_iff.mpr ⟨hi, ei⟩)).2
    have a2 := (g3 j a (List.getElem?_eq_some_iff.mpr ⟨hj, ej⟩)).1
    rw [a2] at a1
    cases a1
  · intro m
    rcases List.mem_append.mp m with m | m
    · exact h5 m
    · obtain ⟨j, hj, ej⟩ := List.getElem_of_mem m
      have a2 := (g3 j s (List.getElem?_eq_some_iff.mpr ⟨hj, ej⟩)).1
      rw [a2] at h1
      cases h1
  · by_cases hi : i < ps.length
    · rw [List.getElem?_append_left hi] at q
      have := h3 i p q
      have ns : p ≠ s := fun z => h5 (z ▸ List.mem_of_getElem? q)
      refine ⟨this.1, ?_⟩
      rw [upd_ne ns, e _ _ this.2]
      unfold row
      rw [List.getD_eq_getElem?_getD, List.getD_eq_getElem?_getD, List.getElem?_append_left (by omega)]
    · rw [List.getElem?_append_right (by omega)] at q
      have := g3 _ p q
      have ns : p ≠ s := fun z => by
        have a := this.1
        rw [z, h1] at a
        cases a
      refine ⟨low p this.1, ?_⟩
      rw [upd_ne ns, this.2]
      unfold row
      rw [List.getD_eq_getElem?_getD, List.getD_eq_getElem?_getD, List.getElem?_append_right (by omega), h2]
theorem kept_ones (s : List Nat) (k : Nat → Bool) : kept s.length (fun i => k (s.getD i 0)) (fun _ => V.int 1) = (nz ((s.filter k).map fun _ => 1)).map V.int := by
  unfold kept nz
  have e : (List.range s.length).map (fun i => s.getD i 0) = s := by
    apply List.ext_getElem?
    intro j
    by_cases h : j < s.length
    · rw [List.getElem?_map, List.getElem?_range h, List.getElem?_eq_getElem h]
      show some (s.getD j 0) = _
      rw [List.getD_eq_getElem?_getD, List.getElem?_eq_getElem h]
      rfl
    · rw [List.getElem?_eq_none (by rw [List.length_map, List.length_range]; omega), List.getElem?_eq_none (by omega)]
  conv => rhs; rw [← e]
  rw [List.filter_map, List.map_map, List.map_map, List.map_map]
  rfl
/-- the rows that are kept -/
theorem GridAt.keep {H' : Hp} {D : Addr} {ps : List Addr} {G : Grid} (P : List Nat → Bool) (k : Nat → Bool) (hl : ps.length = G.length) (hr : ∀ i p, ps[i]? = some p → H' p = some (.lst ((nz (row G i)).map V.int))) (hk : ∀ i, i < G.length → k i = P (row G i))
    (hD : H' D = some (.lst (kept G.length k fun i => .ref (ps.getD i 0)))) : GridAt H' D (G.filter P) := by
  have eG : G = (List.range G.length).map (row G) := by
    apply List.ext_getElem?
    intro j
    by_cases h : j < G.length
    · rw [List.getElem?_map, List.getElem?_range h, at_row h]
      rfl
    · rw [List.getElem?_eq_none (by omega), List.getElem?_eq_none (by rw [List.length_map, List.length_range]; omega)]
  have eF : G.filter P = ((List.range G.length).filter k).map (row G) := by
    conv => lhs; rw [eG]
    rw [List.filter_map]
    congr 1
    apply List.filter_congr
    intro i hi
    rw [List.mem_range] at hi
    exact (hk i hi).symm
  refine ⟨((List.range G.length).filter k).map fun i => ps.getD i 0, ?_, ?_, fun i p e => ?_⟩
  · rw [hD]
    unfold kept
    rw [List.map_map]
    rfl
  · rw [eF, List.length_map, List.length_map]
  · rw [List.getElem?_map] at e
    cases q : ((List.range G.length).filter k)[i]? with
    | none => rw [q] at e; cases e
    | some j =>
      rw [q] at e
      have hj : j < G.length := List.mem_range.mp (List.mem_filter.mp (List.mem_of_getElem? q)).1
      have hx : ps[j]? = some ps[j] := List.getElem?_eq_getElem (by omega)
      have ep : ps.getD j 0 = p := Option.some.inj e
      rw [List.getD_eq_getElem?_getD, hx] at ep
      obtain rfl : ps[j] = p := ep
      rw [hr j _ hx]
      have : row (G.filter P) i = row G j := by
        rw [eF]
        unfold row
        rw [List.getD_eq_getElem?_getD, List.getElem?_map, q]
        rfl
      rw [this]
end
end BC

set_option Elab.async false
set_option linter.all false
set_option maxRecDepth 100000
set_option maxHeartbeats 4000000
/-! A generator that sleeps stays as it is while other code runs: what has no way to run cannot have been woken. -/
namespace SL
open PySem PyProof.Rows
open Sem (wp)

/-- no frame of a generator among them -/
def NF (fs : List Frame) : Prop := ∀ f ∈ fs, match f with | .ret .. => True | .gen .. => False
theorem NF.nil : NF [] := fun f h => nomatch h
theorem NF.tail {f : Frame} {fs : List Frame} (h : NF (f :: fs)) : NF fs := fun g hg => h g (List.mem_cons_of_mem _ hg)
theorem NF.app {as bs : List Frame} (h : NF as) (h' : NF bs) : NF (as ++ bs) := fun g hg => (List.mem_append.mp hg).elim (h g) (h' g)
theorem NF.split : ∀ {fs : List Frame}, NF fs → splitAtGen fs = none
  | [], _ => rfl
  | .gen .. :: _, h => (h _ List.mem_cons_self).elim
  | .ret .. :: rest, h => by
    show (splitAtGen rest).map _ = none
    rw [NF.split (NF.tail h)]; rfl
def NG : GenState → Prop
  | .suspended _ _ _ _ fs _ => NF fs
  | _ => True
def NE : End → Prop
  | .ret _ => True
  | .susp _ _ _ _ _ _ fs => NF fs
theorem NE.gen {e : End} (h : NE e) : NG e.genState := by
  cases e with
  | ret r => trivial
  | susp v g l k c p fs => exact h
/-- what cannot run -/
def blankK : Resume → Sem Fin := fun _ => .unsupported ""
theorem norun0 {M : Model} {Γ : Ctx} {p : Pos} {x : String} {t : Sem Fin} {fs : List Frame} {s s' : Shared} {e : End} (h : Runs M Γ p t fs s e s') (ht : t = .unsupported x) : False := by
  induction h with
  | segRet _ _ ih _ => exact ih ht
  | segGen _ _ ih _ => exact ih ht
  | segSuspOut _ _ ih => exact ih ht
  | segSuspGen _ _ _ _ ih _ => exact ih ht
  | _ => nomatch ht
theorem norun {M : Model} {Γ : Ctx} {p : Pos} {r : Resume} {fs : List Frame} {s s' : Shared} {e : End} (h : Runs M Γ p (blankK r) fs s e s') : False := norun0 h rfl
def Poi (a : GenState) : Prop := ∃ l c p fs cl, a = .suspended blankK l c p fs cl
theorem np_of {M : Model} {Γ : Ctx} {p₀ : Pos} {k₀ : Resume → Sem Fin} {r : Resume} {fs₀ : List Frame} {s s' : Shared} {e : End} (hr : Runs M Γ p₀ (k₀ r) fs₀ s e s') : ∀ l c p cl, ¬ Poi (GenState.suspended k₀ l c p fs₀ cl) := fun l c p cl ⟨_, _, _, _, _, z⟩ => by
  injection z with z1
  rw [z1] at hr
  exact norun hr
/-- the one may stand for the other -/
def Rl (a b : GenState) : Prop := NG a ∧ (a = b ∨ (Poi a ∧ a.seen = b.seen ∧ a.bare = b.bare))
theorem Rl.refl {a : GenState} (h : NG a) : Rl a a := ⟨h, .inl rfl⟩
theorem Rl.seen {a b : GenState} (h : Rl a b) : a.seen = b.seen := by
  rcases h.2 with e | ⟨_, e, _⟩
  · rw [e]
  · exact e
theorem Rl.bare {a b : GenState} (h : Rl a b) : a.bare = b.bare := by
  rcases h.2 with e | ⟨_, _, e⟩
  · rw [e]
  · exact e
structure GR (G S : Array GenState) : Prop where
  sz : G.size = S.size
  rl : ∀ (i : Nat) (a b : GenState), G[i]? = some a → S[i]? = some b → Rl a b
/-- what cannot run has stayed -/
def Kp (G S G' S' : Array GenState) : Prop := ∀ (i : Nat) (a : GenState), G[i]? = some a → Poi a → G'[i]? = some a ∧ S'[i]? = S[i]?
theorem Kp.refl {G S : Array GenState} : Kp G S G S := fun _ _ h _ => ⟨h, rfl⟩
theorem Kp.trans {G S G1 S1 G2 S2 : Array GenState} (x : Kp G S G1 S1) (y : Kp G1 S1 G2 S2) : Kp G S G2 S2 := fun i a h p => by
  obtain ⟨h1, e1⟩ := x i a h p
  obtain ⟨h2, e2⟩ := y i a h1 p
  exact ⟨h2, e2.trans e1⟩
section
variable {G S G' S' : Array GenState} {g : Nat} {a : GenState}
theorem GR.get (h : GR G S) (e : G[g]? = some a) : ∃ b, S[g]? = some b ∧ Rl a b := by
  have hg : g < G.size := (Array.getElem?_eq_some_iff.mp e).1
  have hs : g < S.size := by rw [← h.sz]; exact hg
  exact ⟨S[g], Array.getElem?_eq_getElem hs, h.rl g a _ e (Array.getElem?_eq_getElem hs)⟩
theorem GR.same (h : GR G S) (e : G[g]? = some a) (np : ¬ Poi a) : S[g]? = some a := by
  obtain ⟨b, hb, r⟩ := h.get e
  rcases r.2 with z | ⟨z, _⟩
  · rw [z]; exact hb
  · exact (np z).elim
theorem GR.push (h : GR G S) (x : GenState) (hx : NG x) : GR (G.push x) (S.push x) := by
  refine ⟨by rw [Array.size_push, Array.size_push, h.sz], fun i a b ha hb => ?_⟩
  rw [Array.getElem?_push] at ha hb
  rw [← h.sz] at hb
  by_cases z : i = G.size
  · rw [if_pos z] at ha hb; cases ha; cases hb; exact .refl hx
  · rw [if_neg z] at ha hb; exact h.rl i a b ha hb
theorem Kp.push (h : GR G S) (x : GenState) : Kp G S (G.push x) (S.push x) := fun i a e _ => by
  have hi : i < G.size := (Array.getElem?_eq_some_iff.mp e).1
  have hi' : i ≠ S.size := by rw [← h.sz]; exact Nat.ne_of_lt hi
  constructor
  · rw [Array.getElem?_push, if_neg (Nat.ne_of_lt hi)]; exact e
  · rw [Array.getElem?_push, if_neg hi']
theorem GR.set (h : GR G S) (g : Nat) (x : GenState) (hx : NG x) : GR (G.setIfInBounds g x) (S.setIfInBounds g x) := by
  refine ⟨by rw [Array.size_setIfInBounds, Array.size_setIfInBounds, h.sz], fun i a b ha hb => ?_⟩
  rw [Array.getElem?_setIfInBounds] at ha hb
  rw [← h.sz] at hb
  by_cases z : g = i
  · rw [if_pos z] at ha hb
    by_cases y : g < G.size
    · rw [if_pos y] at ha hb; cases ha; cases hb; exact .refl hx
    · rw [if_neg y] at ha; cases ha
  · rw [if_neg z] at ha hb; exact h.rl i a b ha hb
/-- a state that can run is set anew -/
theorem Kp.set (e : G[g]? = some a) (np : ¬ Poi a) (x : GenState) : Kp G S (G.setIfInBounds g x) (S.setIfInBounds g x) := fun i b hb pb => by
  have z : g ≠ i := fun z => by
    subst z
    rw [e] at hb; cases hb; exact np pb
  exact ⟨by rw [Array.getElem?_setIfInBounds_ne z]; exact hb, by rw [Array.getElem?_setIfInBounds_ne z]⟩
/-- .. behind a run -/
theorem Kp.set2 {a1 : GenState} (h : Kp (G.setIfInBounds g a1) (S.setIfInBounds g a1) G' S') (e : G[g]? = some a) (np : ¬ Poi a) (x : GenState) : Kp G S (G'.setIfInBounds g x) (S'.setIfInBounds g x) := fun i b hb pb => by
  have z : g ≠ i := fun z => by
    subst z
    rw [e] at hb; cases hb; exact np pb
  obtain ⟨h1, h2⟩ := h i b (by rw [Array.getElem?_setIfInBounds_ne z]; exact hb) pb
  exact ⟨by rw [Array.getElem?_setIfInBounds_ne z]; exact h1, by rw [Array.getElem?_setIfInBounds_ne z, h2, Array.getElem?_setIfInBounds_ne z]⟩
end
theorem nPoi_fresh {c : Code} : ¬ Poi (.fresh c) := fun ⟨_, _, _, _, _, h⟩ => nomatch h
theorem nPoi_running : ¬ Poi .running := fun ⟨_, _, _, _, _, h⟩ => nomatch h
theorem nPoi_finished : ¬ Poi .finished := fun ⟨_, _, _, _, _, h⟩ => nomatch h
abbrev wg (s : Shared) (S : Array GenState) : Shared := { s with gens := S }
/-- the same run over other generators, those that could not run left as they are -/
theorem runs_sw {M : Model} {Γ : Ctx} {p : Pos} {t : Sem Fin} {fs : List Frame} {s s' : Shared} {e : End} (h : Runs M Γ p t fs s e s') :
    NF fs → ∀ S, GR s.gens S → ∃ S', GR s'.gens S' ∧ NE e ∧ Kp s.gens S s'.gens S' ∧ Runs M Γ p t fs (wg s S) e (wg s' S') := by
  induction h with
  | done => exact fun _ S hS => ⟨S, hS, trivial, .refl, .done⟩
  | raise => exact fun _ S hS => ⟨S, hS, trivial, .refl, .raise⟩
  | again hq _ ih => exact fun _ S hS => let ⟨S', a, b, c, r⟩ := ih .nil S hS; ⟨S', a, b, c, .again hq r⟩
  | rule _ ih => exact fun _ S hS => let ⟨S', a, b, c, r⟩ := ih .nil S hS; ⟨S', a, b, c, .rule r⟩
  | «at» _ ih => exact fun _ S hS => let ⟨S', a, b, c, r⟩ := ih .nil S hS; ⟨S', a, b, c, .at r⟩
  | load ho _ ih => exact fun _ S hS => let ⟨S', a, b, c, r⟩ := ih .nil S hS; ⟨S', a, b, c, .load ho r⟩
  | update ho _ ih => exact fun _ S hS => let ⟨S', a, b, c, r⟩ := ih .nil S hS; ⟨S', a, b, c, .update ho r⟩
  | loadIfAlive _ ih => exact fun _ S hS => let ⟨S', a, b, c, r⟩ := ih .nil S hS; ⟨S', a, b, c, .loadIfAlive r⟩
  | point _ ih => exact fun _ S hS => let ⟨S', a, b, c, r⟩ := ih .nil S hS; ⟨S', a, b, c, .point r⟩
  | alloc _ ih => exact fun _ S hS => let ⟨S', a, b, c, r⟩ := ih .nil S hS; ⟨S', a, b, c, .alloc r⟩
  | fresh _ ih => exact fun _ S hS => let ⟨S', a, b, c, r⟩ := ih .nil S hS; ⟨S', a, b, c, .fresh r⟩
  | ask _ ih => exact fun _ S hS => let ⟨S', a, b, c, r⟩ := ih .nil S hS; ⟨S', a, b, c, .ask r⟩
  | choose hn _ ih => exact fun _ S hS => let ⟨S', a, b, c, r⟩ := ih .nil S hS; ⟨S', a, b, c, .choose hn r⟩
  | os _ ih => exact fun _ S hS => let ⟨S', a, b, c, r⟩ := ih .nil S hS; ⟨S', a, b, c, .os r⟩
  | handled _ ih => exact fun _ S hS => let ⟨S', a, b, c, r⟩ := ih .nil S hS; ⟨S', a, b, c, .handled r⟩
  | genState hg _ ih =>
    intro _ S hS
    obtain ⟨S', a, b, c, r⟩ := ih .nil S hS
    obtain ⟨y, hy, rl⟩ := hS.get hg
    rw [rl.seen] at r
    exact ⟨S', a, b, c, .genState (s := wg _ S) hy r⟩
  | stack _ ih => exact fun _ S hS => let ⟨S', a, b, c, r⟩ := ih .nil S hS; ⟨S', a, b, c, .stack r⟩
  | thread _ ih => exact fun _ S hS => let ⟨S', a, b, c, r⟩ := ih .nil S hS; ⟨S', a, b, c, .thread r⟩
  | newGen _ ih =>
    intro _ S hS
    obtain ⟨S', a, b, kp, r⟩ := ih .nil (S.push (.fresh _)) (hS.push (.fresh _) trivial)
    rw [hS.sz] at r
    exact ⟨S', a, b, Kp.trans (Kp.push hS _) kp, .newGen r⟩
  | call _ _ ih1 ih2 =>
    intro _ S hS
    obtain ⟨S1, a1, _, c1, r1⟩ := ih1 .nil S hS
    obtain ⟨S2, a2, b2, c2, r2⟩ := ih2 .nil S1 a1
    exact ⟨S2, a2, b2, c1.trans c2, .call r1 r2⟩
  | callSusp _ ih =>
    intro _ S hS
    obtain ⟨S', a, b, c, r⟩ := ih .nil S hS
    exact ⟨S', a, NF.app b (fun f hf => by rw [List.mem_singleton.mp hf]; trivial), c, .callSusp r⟩
  | yield => exact fun _ S hS => ⟨S, hS, .nil, .refl, .yield⟩
  | resumeFresh hg _ hq _ ih1 ih2 =>
    intro _ S hS
    have hs := hS.same hg nPoi_fresh
    obtain ⟨S1, a1, b1, c1, r1⟩ := ih1 .nil _ (hS.set _ .running trivial)
    obtain ⟨S2, a2, b2, c2, r2⟩ := ih2 .nil _ (a1.set _ _ b1.gen)
    exact ⟨S2, a2, b2, (Kp.set2 c1 hg nPoi_fresh _).trans c2, .resumeFresh (s := wg _ S) hs r1 hq r2⟩
  | resumeSuspended hg hr hq _ ih1 ih2 =>
    intro _ S hS
    have np := np_of hr
    have hs := hS.same hg (np _ _ _ _)
    obtain ⟨S1, a1, b1, c1, r1⟩ := ih1 (hS.rl _ _ _ hg hs).1 _ (hS.set _ .running trivial)
    obtain ⟨S2, a2, b2, c2, r2⟩ := ih2 .nil _ (a1.set _ _ b1.gen)
    exact ⟨S2, a2, b2, (Kp.set2 c1 hg (np _ _ _ _) _).trans c2, .resumeSuspended (s := wg _ S) hs r1 hq r2⟩
  | resumeJustStarted hg hv _ ih =>
    intro _ S hS
    obtain ⟨S', a, b, c, r⟩ := ih .nil S hS
    exact ⟨S', a, b, c, .resumeJustStarted (s := wg _ S) (hS.same hg nPoi_fresh) hv r⟩
  | resumeThrowFresh hg _ ih =>
    intro _ S hS
    obtain ⟨S', a, b, c, r⟩ := ih .nil _ (hS.set _ .finished trivial)
    exact ⟨S', a, b, (Kp.set hg nPoi_fresh _).trans c, .resumeThrowFresh (s := wg _ S) (hS.same hg nPoi_fresh) r⟩
  | resumeRunning hg _ ih =>
    intro _ S hS
    obtain ⟨S', a, b, c, r⟩ := ih .nil S hS
    exact ⟨S', a, b, c, .resumeRunning (s := wg _ S) (hS.same hg nPoi_running) r⟩
  | resumeFinished hg _ ih =>
    intro _ S hS
    obtain ⟨S', a, b, c, r⟩ := ih .nil S hS
    exact ⟨S', a, b, c, .resumeFinished (s := wg _ S) (hS.same hg nPoi_finished) r⟩
  | segRet _ _ ih1 ih2 =>
    intro hf S hS
    obtain ⟨S1, a1, _, c1, r1⟩ := ih1 .nil S hS
    obtain ⟨S2, a2, b2, c2, r2⟩ := ih2 hf.tail S1 a1
    exact ⟨S2, a2, b2, c1.trans c2, .segRet r1 r2⟩
  | segGen _ _ _ _ => exact fun hf => (hf _ List.mem_cons_self).elim
  | segSuspOut hsp _ ih =>
    intro hf S hS
    obtain ⟨S', a, b, c, r⟩ := ih .nil S hS
    exact ⟨S', a, NF.app b hf, c, .segSuspOut hsp r⟩
  | segSuspGen hsp _ _ _ _ _ => exact fun hf => by rw [hf.split] at hsp; cases hsp

theorem wakes_sw {M : Model} {Γ : Ctx} {p : Pos} {g : Nat} {r : Resume} {s s' : Shared} {res : GenResult} {S : Array GenState} (h : Wakes M Γ p g r s res s') (hS : GR s.gens S) :
    ∃ S', GR s'.gens S' ∧ Kp s.gens S s'.gens S' ∧ Wakes M Γ p g r (wg s S) res (wg s' S') := by
  unfold Wakes at h
  cases hg : s.gens[g]? with
  | none => rw [hg] at h; exact h.elim
  | some st =>
    rw [hg] at h
    cases st with
    | fresh c =>
      have hs := hS.same hg nPoi_fresh
      have key : ∀ {r : Resume}, (∃ e₁ s₁, Runs M (Γ.wake c p) p (M.den c) [] (s.setGen g .running) e₁ s₁ ∧ e₁.quiet = true ∧ res = e₁.result ∧ s' = s₁.setGen g e₁.genState) →
          ∃ S', GR s'.gens S' ∧ Kp s.gens S s'.gens S' ∧ ∃ e₁ s₁, Runs M (Γ.wake c p) p (M.den c) [] ((wg s S).setGen g .running) e₁ s₁ ∧ e₁.quiet = true ∧ res = e₁.result ∧ wg s' S' = s₁.setGen g e₁.genState := fun {r} h => by
        obtain ⟨e₁, s₁, hr, hq, e1, e2⟩ := h
        obtain ⟨S1, a1, b1, c1, r1⟩ := runs_sw hr .nil _ (hS.set g .running trivial)
        refine ⟨S1.setIfInBounds g e₁.genState, ?_, ?_, e₁, wg s₁ S1, r1, hq, e1, ?_⟩
        · rw [e2]; exact a1.set _ _ b1.gen
        · rw [e2]; exact Kp.set2 c1 hg nPoi_fresh _
        · rw [e2]; rfl
      have hw : ∀ S', (∃ e₁ s₁, Runs M (Γ.wake c p) p (M.den c) [] ((wg s S).setGen g .running) e₁ s₁ ∧ e₁.quiet = true ∧ res = e₁.result ∧ wg s' S' = s₁.setGen g e₁.genState) → r = .send .none → Wakes M Γ p g r (wg s S) res (wg s' S') := fun S' h e => by
        unfold Wakes
        rw [show (wg s S).gens[g]? = S[g]? from rfl, hs]
        rw [e]; exact h
      cases r with
      | throw x =>
        obtain ⟨e1, e2⟩ := h
        refine ⟨S.setIfInBounds g .finished, ?_, ?_, ?_⟩
        · rw [e2]; exact hS.set _ _ trivial
        · rw [e2]; exact Kp.set hg nPoi_fresh _
        · unfold Wakes
          rw [show (wg s S).gens[g]? = S[g]? from rfl, hs]
          rw [e2]; exact ⟨e1, rfl⟩
      | send v =>
        by_cases hv : v = .none
        · subst hv
          obtain ⟨S', q1, q2, q3⟩ := key (r := .send .none) h
          exact ⟨S', q1, q2, hw S' q3 rfl⟩
        · have h' : res = .justStarted ∧ s' = s := by
            cases v <;> first | exact h | exact (hv rfl).elim
          refine ⟨S, by rw [h'.2]; exact hS, by rw [h'.2]; exact .refl, ?_⟩
          unfold Wakes
          rw [show (wg s S).gens[g]? = S[g]? from rfl, hs]
          rw [h'.2]
          cases v <;> first | exact ⟨h'.1, rfl⟩ | exact (hv rfl).elim
    | suspended k₀ l₀ c₀ p₀ fs₀ cl =>
      obtain ⟨e₁, s₁, hr, hq, e1, e2⟩ := h
      have np : ¬ Poi (GenState.suspended k₀ l₀ c₀ p₀ fs₀ cl) := fun ⟨_, _, _, _, _, z⟩ => by
        injection z with z1
        rw [z1] at hr
        exact norun hr
      have hs := hS.same hg np
      have nf : NF fs₀ := (hS.rl _ _ _ hg hs).1
      obtain ⟨S1, a1, b1, c1, r1⟩ := runs_sw hr nf _ (hS.set g .running trivial)
      refine ⟨S1.setIfInBounds g e₁.genState, ?_, ?_, ?_⟩
      · rw [e2]; exact a1.set _ _ b1.gen
      · rw [e2]; exact Kp.set2 c1 hg np _
      · unfold Wakes
        rw [show (wg s S).gens[g]? = S[g]? from rfl, hs]
        exact ⟨e₁, wg s₁ S1, r1, hq, e1, by rw [e2]; rfl⟩
    | running =>
      refine ⟨S, by rw [h.2]; exact hS, by rw [h.2]; exact .refl, ?_⟩
      unfold Wakes
      rw [show (wg s S).gens[g]? = S[g]? from rfl, hS.same hg nPoi_running, h.2]; exact ⟨h.1, rfl⟩
    | finished =>
      refine ⟨S, by rw [h.2]; exact hS, by rw [h.2]; exact .refl, ?_⟩
      unfold Wakes
      rw [show (wg s S).gens[g]? = S[g]? from rfl, hS.same hg nPoi_finished, h.2]; exact ⟨h.1, rfl⟩

theorem wpm {X : Type} {M : Model} {Γ : Ctx} {t : Sem X} {post post' : X → Pos → Shared → Prop} {exc exc' : Value → Pos → Shared → Prop} {p : Pos} {s : Shared} (h1 : ∀ x p' s', post x p' s' → post' x p' s') (h2 : ∀ v p' s', exc v p' s' → exc' v p' s') (h : wp M Γ t post exc p s) : wp M Γ t post' exc' p s :=
  Sem.wp_mono M Γ t h1 h2 p s h
/-- what is wanted behind the run over other generators -/
def Sw {α : Type} (G S : Array GenState) (Q : α → Pos → Shared → Prop) : α → Pos → Shared → Prop := fun a p s1 => ∃ G', GR G' s1.gens ∧ Kp G S G' s1.gens ∧ Q a p (wg s1 G')
theorem Sw.mono {α : Type} {G S G1 S1 : Array GenState} {Q : α → Pos → Shared → Prop} (k : Kp G S G1 S1) {a : α} {p : Pos} {s : Shared} (h : Sw G1 S1 Q a p s) : Sw G S Q a p s := let ⟨G', x, y, z⟩ := h; ⟨G', x, k.trans y, z⟩
theorem wp_sw {α : Type} (M : Model) (Γ : Ctx) (t : Sem α) : ∀ (Q : α → Pos → Shared → Prop) (E : Value → Pos → Shared → Prop) (p : Pos) (s : Shared) (S : Array GenState), GR s.gens S → wp M Γ t Q E p s →
    wp M Γ t (Sw s.gens S Q) (Sw s.gens S E) p (wg s S) := by
  induction t with
  | pure a => intro Q E p s S hS h; exact ⟨s.gens, hS, .refl, h⟩
  | raise e => intro Q E p s S hS h; exact ⟨s.gens, hS, .refl, h⟩
  | unsupported _ => intro Q E p s S _ h; exact h
  | finish _ => intro Q E p s S _ h; exact h
  | rule _ k ih => intro Q E p s S hS h; exact ih () Q E p s S hS h
  | «at» p' k ih => intro Q E p s S hS h; exact ih () Q E p' s S hS h
  | load a _ k ih => intro Q E p s S hS h; obtain ⟨o, ho, h⟩ := h; exact ⟨o, ho, ih o Q E p s S hS h⟩
  | update a _ f k ih => intro Q E p s S hS h; exact ⟨h.1, ih () Q E p { s with heap := s.heap.update a f } S hS h.2⟩
  | loadIfAlive a k ih => intro Q E p s S hS h; exact ih _ Q E p s S hS h
  | point _ k ih => intro Q E p s S hS h; exact ih () Q E p s S hS h
  | register _ _ => intro Q E p s S _ h; exact h
  | alloc o k ih => intro Q E p s S hS h; exact ih _ Q E p { s with heap := s.heap.push o } S hS h
  | fresh k ih => intro Q E p s S hS h; exact ih _ Q E p { s with toks := s.toks + 1 } S hS h
  | ask k ih => intro Q E p s S hS h; exact ih _ Q E p s S hS h
  | choose src m k ih => intro Q E p s S hS h; exact ⟨h.1, ih _ Q E p { s with drawn := s.drawn.bump src } S hS h.2⟩
  | os q _ k ih => intro Q E p s S hS h; exact ih _ Q E p { s with os := (Os.step s.os q).1 } S hS h
  | call c hd _ _ k ih =>
    intro Q E p s S hS h
    obtain ⟨r, s', hr, h⟩ := h
    obtain ⟨S1, a1, _, c1, r1⟩ := runs_sw hr .nil S hS
    exact ⟨r, wg s' S1, r1, wpm (fun _ _ _ x => Sw.mono c1 x) (fun _ _ _ x => Sw.mono c1 x) (ih r Q E p s' S1 a1 h)⟩
  | handled own k ih => intro Q E p s S hS h; exact ih _ Q E p s S hS h
  | genState g k ih =>
    intro Q E p s S hS h
    obtain ⟨st, hs, h⟩ := h
    obtain ⟨y, hy, rl⟩ := hS.get hs
    refine ⟨y, hy, ?_⟩
    rw [← rl.seen]
    exact ih _ Q E p s S hS h
  | newGen c k ih =>
    intro Q E p s S hS h
    have q := ih _ Q E p { s with gens := s.gens.push (.fresh c) } (S.push (.fresh c)) (hS.push _ trivial) h
    show wp M Γ (k S.size) _ _ p _
    rw [← hS.sz]
    exact wpm (fun _ _ _ x => Sw.mono (Kp.push hS _) x) (fun _ _ _ x => Sw.mono (Kp.push hS _) x) q
  | resume g r _ k ih =>
    intro Q E p s S hS h
    obtain ⟨res, s', hw, h⟩ := h
    obtain ⟨S1, a1, c1, w1⟩ := wakes_sw hw hS
    exact ⟨res, wg s' S1, w1, wpm (fun _ _ _ x => Sw.mono c1 x) (fun _ _ _ x => Sw.mono c1 x) (ih res Q E p s' S1 a1 h)⟩
  | yield _ _ _ _ => intro Q E p s S _ h; exact h
  | stack k ih => intro Q E p s S hS h; exact ih _ Q E p s S hS h
  | fork _ _ => intro Q E p s S _ h; exact h
  | thread k ih => intro Q E p s S hS h; exact ih _ Q E p s S hS h
  | await _ _ _ _ _ => intro Q E p s S _ h; exact h

/-! ### all that sleeps is put aside -/
def blankF (f : Frame) : Frame := .ret (fun _ => .unsupported "") none false [] f.where_.1 f.where_.2 []
def blank : GenState → GenState
  | .suspended _ l c p fs cl => .suspended blankK l c p (fs.map blankF) cl
  | x => x
theorem blank_rl (b : GenState) : Rl (blank b) b := by
  cases b with
  | suspended k l c p fs cl =>
    refine ⟨fun f hf => ?_, .inr ⟨⟨_, _, _, _, _, rfl⟩, ?_, rfl⟩⟩
    · obtain ⟨f', _, e⟩ := List.mem_map.mp hf
      subst e; trivial
    · show (GenStatus.suspended, some ((c, p) :: (fs.map blankF).map Frame.where_)) = (GenStatus.suspended, some ((c, p) :: fs.map Frame.where_))
      rw [List.map_map]
      have : (Frame.where_ ∘ blankF) = Frame.where_ := funext fun f => rfl
      rw [this]
  | _ => exact .refl trivial
def Susp : GenState → Prop
  | .suspended .. => True
  | _ => False
theorem blank_poi {b : GenState} (h : Susp b) : Poi (blank b) := by
  cases b with
  | suspended k l c p fs cl => exact ⟨_, _, _, _, _, rfl⟩
  | _ => exact h.elim
theorem blank_gr (G : Array GenState) : GR (G.map blank) G := by
  refine ⟨by simp, fun i a b ha hb => ?_⟩
  rw [Array.getElem?_map, hb] at ha
  cases ha
  exact blank_rl b
theorem allBare_blank {G : Array GenState} (h : AllBare G) : AllBare (G.map blank) := fun y hy => by
  obtain ⟨x, hx, e⟩ := Array.mem_map.mp hy
  subst e
  rw [(blank_rl x).bare]
  exact h x hx
theorem GR.bare {G S : Array GenState} (h : GR G S) (b : AllBare G) : AllBare S := fun y hy => by
  obtain ⟨i, hi, e⟩ := Array.mem_iff_getElem.mp hy
  have hg : i < G.size := by rw [h.sz]; exact hi
  have r := h.rl i _ _ (Array.getElem?_eq_getElem hg) (Array.getElem?_eq_getElem hi)
  rw [← e, ← r.bare]
  exact b _ (Array.getElem_mem hg)
theorem wpAny_sw {α : Type} {M : Model} {A : Around} {t : Sem α} {Q : α → Shared → Prop} {E : Value → Shared → Prop} {s : Shared} {S : Array GenState} (hS : GR s.gens S) (h : wpAny M A t Q E s) :
    wpAny M A t (fun a s1 => ∃ G', GR G' s1.gens ∧ Kp s.gens S G' s1.gens ∧ Q a (wg s1 G')) (fun a s1 => ∃ G', GR G' s1.gens ∧ Kp s.gens S G' s1.gens ∧ E a (wg s1 G')) (wg s S) := fun Γ p hΓ =>
  wpm (fun _ _ _ x => x) (fun _ _ _ x => x) (wp_sw M Γ t _ _ p s S hS (h Γ p hΓ))
/-- other code runs: what sleeps goes on sleeping -/
theorem wpAny_sleep {α : Type} {M : Model} {A : Around} {t : Sem α} {Q : α → Shared → Prop} {E : Value → Shared → Prop} {s : Shared}
    (h : wpAny M A t (fun a s1 => ∀ G1, GR s1.gens G1 → (∀ (i : Nat) (gs : GenState), s.gens[i]? = some gs → Susp gs → G1[i]? = some gs) → Q a (wg s1 G1))
      (fun a s1 => ∀ G1, GR s1.gens G1 → (∀ (i : Nat) (gs : GenState), s.gens[i]? = some gs → Susp gs → G1[i]? = some gs) → E a (wg s1 G1)) (wg s (s.gens.map blank))) : wpAny M A t Q E s := by
  have fin : ∀ {β : Type} {R : β → Shared → Prop} {a : β} {s1 : Shared}, (∃ G', GR G' s1.gens ∧ Kp (s.gens.map blank) s.gens G' s1.gens ∧ ∀ G1, GR G' G1 → (∀ (i : Nat) (gs : GenState), s.gens[i]? = some gs → Susp gs → G1[i]? = some gs) → R a (wg (wg s1 G') G1)) → R a s1 := fun {β R a s1} ⟨G', g1, k1, q⟩ => by
    refine q s1.gens g1 fun i gs e su => ?_
    have e' : (s.gens.map blank)[i]? = some (blank gs) := by rw [Array.getElem?_map, e]; rfl
    rw [(k1 i _ e' (blank_poi su)).2, e]
  exact wpAny_mono (wpAny_sw (s := wg s (s.gens.map blank)) (S := s.gens) (blank_gr s.gens) h) (fun _ _ x => fin x) fun _ _ x => fin x
end SL

set_option Elab.async false
set_option linter.all false
set_option maxRecDepth 100000
set_option maxHeartbeats 4000000
namespace BC
open PySem PySem.Spec PyProof.Rows L2 Evl RZ GenW
/-! ### for, in a generator's body -/
section
variable {prog : Program} {w : World} {A : Around} {R : GenEnd} {Y : Protocol} {n : Nat} {s₀ : Shared} {c : Code} {fs : List Frame} {s : Shared} {env : Env}
  {K : Flow → Sem PySem.Fin} {J : Value → Sem PySem.Fin} {gd : Bool → Bool} {lv : List Value → List Value}
theorem seg_ForG {target iter : Expr} {body : List Stmt} {pos : Pos}
    (h : wpAny (model prog w) (A.over c fs) (eval iter env) (fun x s1 => wpAny (model prog w) (A.over c fs) (pyIter x) (fun it s2 =>
      ∀ p l, Seg (model prog w) A R Y n s₀ (.forLoop target it body [] env) ((model prog w).den (.forLoop target it body [] env))
      (.ret (fun r => ((match r with | .ok f => (.pure f : Sem Flow) | .error e => .raise e).onRaise (cameBack env)).wrap K J gd lv) none (gd false) l c p [] :: fs) s2)
      (fun x s' => Seg (model prog w) A R Y n s₀ c (J x) fs s') s1) (fun x s' => Seg (model prog w) A R Y n s₀ c (J x) fs s') s)
    (hs : ∀ x, foldedSetIterable iter env x = pure x := by intro _; rfl) :
    Seg (model prog w) A R Y n s₀ c ((exec (.For target iter body [] pos) env).wrap K J gd lv) fs s := by
  rw [exec_For]
  refine seg_bind_wrap (wpAny_standAt ?_)
  refine seg_bind_wrap (wpAny_mono h (fun x s1 h1 => ?_) fun _ _ q => q)
  refine seg_bind_wrap (wpAny_of_eq (hs x) ?_)
  refine seg_bind_wrap (wpAny_standAt ?_)
  refine seg_bind_wrap (wpAny_holding (wpAny_mono h1 (fun it s2 h2 => ?_) fun _ _ q => q))
  exact seg_call fun p => h2 p _
abbrev NotedSeg (M : Model) (A : Around) (R : GenEnd) (Y : Protocol) (n : Nat) (s₀ : Shared) (c : Code) (fs : List Frame) (env : Env) (x : Value) (s : Shared) : Prop :=
  Seg M A R Y n s₀ c ((do noteFrame x env; theTreesLotGoes x : Sem Unit).wrap (fun _ => .raise x) .raise id id) fs s
theorem seg_forLoop {target : Expr} {it : Value} {body : List Stmt}
    (h : wpAny (model prog w) (A.over (.forLoop target it body [] env) fs) (pyNext it) (fun r s1 => match r with
      | none => Seg (model prog w) A R Y n s₀ (.forLoop target it body [] env) (.pure (.again (.block [] env))) fs s1
      | some v => wpAny (model prog w) (A.over (.forLoop target it body [] env) fs) (letOwnedTupleGo target it v) (fun _ s2 =>
          wpAny (model prog w) (A.over (.forLoop target it body [] env) fs) (assign target env v) (fun _ s3 =>
            Seg (model prog w) A R Y n s₀ (.forLoop target it body [] env) ((execs body env).wrap (fun f => match f with
              | .next | .cont => .pure (.again (.forLoop target it body [] env))
              | .brk => .pure (.done .next)
              | .ret v => .pure (.done (.ret v))) (fun e => (do noteFrame e env; theTreesLotGoes e : Sem Unit).wrap (fun _ => .raise e) .raise id id) id id) fs s3)
            (NotedSeg (model prog w) A R Y n s₀ (.forLoop target it body [] env) fs env) s2)
          (NotedSeg (model prog w) A R Y n s₀ (.forLoop target it body [] env) fs env) s1)
      (NotedSeg (model prog w) A R Y n s₀ (.forLoop target it body [] env) fs env) s) :
    Seg (model prog w) A R Y n s₀ (.forLoop target it body [] env) ((model prog w).den (.forLoop target it body [] env)) fs s := by
  show Seg _ A R Y n s₀ _ ((forTurn target it body [] env).onRaise (fun x => do noteFrame x env; theTreesLotGoes x)) fs s
  unfold forTurn
  rw [Sem.onRaise_eq_wrap]
  have ej : ∀ x s', NotedSeg (model prog w) A R Y n s₀ (.forLoop target it body [] env) fs env x s' → Seg (model prog w) A R Y n s₀ (.forLoop target it body [] env) ((do noteFrame x env; theTreesLotGoes x : Sem Unit).bind (fun _ => .raise x)) fs s' := fun x s' q => by
    rw [Sem.bind_eq_wrap]; exact q
  refine seg_bind_wrap (wpAny_standAt ?_)
  refine seg_bind_wrap (wpAny_onRaise (wpAny_mono h (fun r s1 h1 => ?_) fun x s' hx => wpAny_standAt ?_))
  · cases r with
    | none => exact h1
    | some v =>
      refine seg_bind_wrap (wpAny_mono h1 (fun _ s2 h2 => ?_) fun x s' hx => ?_)
      · refine seg_bind_wrap (wpAny_mono h2 (fun _ s3 h3 => ?_) fun x s' hx => ?_)
        · rw [Sem.bind_eq_wrap', Sem.wrap_wrap]
          rw [Sem.wrap_congr (execs body env) _ _ (K' := fun f => match f with
            | .next | .cont => .pure (.again (.forLoop target it body [] env))
            | .brk => .pure (.done .next)
            | .ret v => .pure (.done (.ret v))) (H' := (fun e => (do noteFrame e env; theTreesLotGoes e : Sem Unit).wrap (fun _ => .raise e) .raise id id))
            (fun f => by cases f <;> rfl) (fun e => by first | exact Sem.bind_eq_wrap _ _ | (show (do noteFrame e env; theTreesLotGoes e : Sem Unit).bind (fun _ => .raise e) = _; rw [Sem.bind_eq_wrap]))]
          exact h3
        · exact ej x s' hx
      · exact ej x s' hx
  · exact ej x s' hx
theorem seg_blockNil (h : Seg (model prog w) A R Y n s₀ (.block [] env) (.pure (.done .next)) fs s) :
    Seg (model prog w) A R Y n s₀ c (.pure (.again (.block [] env))) fs s := by
  refine seg_again rfl ?_
  show Seg _ A R Y n s₀ _ (do return Fin.done (← (execs [] env).onRaise (fun x => do noteFrame x env; theTreesLotGoes x))) fs s
  exact h
end
section
variable {X : Cx} {tg iter : Expr} {body : List Stmt} {wi : TI} {g : TG} {tb : TGn} {pos : Pos}
/-- W: the invariant by the turn, a measure and what is out; N: what the body is to reach -/
def tGFor (wi : TI) (g : TG) (tb : TGn) : TGn := fun D ys σ H => wi σ H fun J H1 => ∃ W : Nat → Nat → List V → L2.St → Hp → Prop, (∃ m, W 0 m ys σ H1) ∧ ∀ i m ys σ H, W i m ys σ H →
  (J.stop i H ∧ D.nx ys σ H) ∨ (J.go i H ∧ ∃ N : List V → L2.St → Hp → Prop, (∀ ys' σ' H', N ys' σ' H' → ∃ m', m' < m ∧ W (i + 1) m' ys' σ' H') ∧ ∀ x H', J.yld i H x H' → g x σ H' fun σ2 H2 => tb { D with nx := N, ct := N, bk := D.nx } ys σ2 H2)
theorem gs_for (hp : PassesOwn (model X.prog X.w) X.A X.env X.xe) (hc : X.calm = true) (hi : PI X tg iter wi) (hg : PG X tg g) (hb : GSs X body tb)
    (hs : ∀ x, foldedSetIterable iter X.env x = pure x := by intro _; rfl) : GS X (.For tg iter body [] pos) (tGFor wi g tb) := by
  refine ⟨fun A S ip R n ys s₀ c fs K J gd lv s σ H D gc hn k hI ht => ?_⟩
  obtain ⟨acc0, cc0, r0, I0⟩ := hI
  refine seg_ForG ?_ hs
  rw [gc.over]
  refine wpAny_mono (hi.run ((S, lstObj acc0 cc0) :: ip) s σ H _ I0 ht) (fun v s1 h1 => wpAny_mono h1 (fun itv s2 h2 p l => ?_) fun x s' hx => k.exc n s₀ x s' hx) fun x s' hx => k.exc n s₀ x s' hx
  obtain ⟨it, fp, tn, J', H2, e, I2, T, st2, f2, W, ⟨m0, w0⟩, turn⟩ := h2
  subst e
  have gl := fun (kk : Result → Sem PySem.Fin) => gc_loop (k := kk) (c' := .forLoop tg (.ref it) body [] X.env) (l := l) (kp := []) (p := p) gc rfl rfl
  have stat : ∀ {H' : Hp} {acc : Array Value} {cc : Nat}, (∀ b ∈ fp, H' b = none) → ∀ b ∈ fp, FpOk X ((S, lstObj acc cc) :: ip) H' b := fun {H' acc cc} hn b hb => by
    obtain ⟨f0, f1, f2', f3, f4, f5⟩ := f2 b hb
    refine ⟨hn b hb, f1, f2', f3, f4, fun q hq => ?_⟩
    rcases List.mem_append.mp hq with z | z
    · exact f5 q (List.mem_append_left _ z)
    · rcases List.mem_cons.mp z with z | z
      · rw [z]; exact f5 (S, lstObj acc0 cc0) (List.mem_append_right _ List.mem_cons_self)
      · exact f5 q (List.mem_append_right _ (List.mem_cons_of_mem _ z))
  have ee : ∀ (n : Nat) (s₀ : Shared) (x : Value) (s' : Shared), X.xe x s' → NotedSeg (model X.prog X.w) A R (GY X S) n s₀ (.forLoop tg (.ref it) body [] X.env)
      (.ret (fun r => ((match r with | .ok f => (.pure f : Sem Flow) | .error e => .raise e).onRaise (cameBack X.env)).wrap K J gd lv) none (gd false) l c p [] :: fs) X.env x s' := fun n s₀ x s' hx => by
    refine seg_wrap ?_
    rw [(gl _).over]
    refine wpAny_bind (wpAny_mono (hp x s' hx) (fun _ s'' hcb => wpAny_theTreesLotGoes ?_) fun y s'' hcb => ?_)
    · exact seg_leaf (.error x) (seg_cameBack gc k hcb)
    · exact seg_leaf (.error y) (seg_cameBack gc k hcb)
  have unp : ∀ {pl : List (Addr × Obj)} {ys : List V} {σ : L2.St} {H : Hp} {s : Shared}, GI X S (ip ++ pl) ys σ H s → GI X S ip ys σ H s := fun {pl ys σ H s} G => by
    obtain ⟨acc, cc, r, I⟩ := G
    exact ⟨acc, cc, r, Inv.unpinned (pins := (S, lstObj acc cc) :: ip) (pl := pl) I⟩
  have loop : ∀ (m n i : Nat) (ys : List V) (s₀ s : Shared) (σ : L2.St) (H : Hp), n + ys.length = sizeLine → W i m ys σ H → GI X S ip ys σ H s → tn i s.heap → (∀ b ∈ fp, H b = none) →
      Seg (model X.prog X.w) A R (GY X S) n s₀ (.forLoop tg (.ref it) body [] X.env) ((model X.prog X.w).den (.forLoop tg (.ref it) body [] X.env))
        (.ret (fun r => ((match r with | .ok f => (.pure f : Sem Flow) | .error e => .raise e).onRaise (cameBack X.env)).wrap K J gd lv) none (gd false) l c p [] :: fs) s := by
    intro m
    induction m using Nat.strongRecOn with
    | ind m ih =>
      intro n i ys s₀ s σ H hn w hI st fr
      refine seg_forLoop ?_
      rw [(gl _).over]
      obtain ⟨acc, cc, r, I⟩ := hI
      rcases turn i m ys σ H w with ⟨stop, qn⟩ | ⟨go, N, hN, step⟩
      · refine wpAny_mono (T.done X rfl rfl rfl hc i ((S, lstObj acc cc) :: ip) s σ H X.xe I (stat fr) st stop) (fun r' s4 h4 => ?_) fun x s' hx => ee n s₀ x s' hx
        obtain ⟨hr, I4⟩ := h4
        subst hr
        exact seg_blockNil (seg_leaf (.ok .next) (k.ok n ys s₀ s4 .next hn ⟨σ, H, ⟨acc, cc, r, I4⟩, qn⟩))
      · refine wpAny_mono (T.item X rfl rfl rfl hc i ((S, lstObj acc cc) :: ip) s σ H X.xe I (stat fr) st go) (fun r' s4 h4 => ?_) fun x s' hx => ee n s₀ x s' hx
        obtain ⟨u, hr, h4⟩ := h4
        subst hr
        refine wpAny_mono h4 (fun _ s5 h5 => ?_) fun x s' hx => ee n s₀ x s' hx
        obtain ⟨x, H5, I5, r5, y5, st5, fr5⟩ := h5
        have I5' : Inv X ((S, lstObj acc cc) :: (ip ++ pinsAt fp s5.heap)) σ H5 s5 := I5.pinned (stat fr5) (T.obj _ _ st5)
        refine wpAny_mono (hg.run _ s5 σ H5 x u _ I5' r5 (step x H5 y5)) (fun _ s6 h6 => ?_) fun x s' hx => ee n s₀ x s' hx
        obtain ⟨σ6, H6, I6, q6⟩ := h6
        have gi : ∀ q ∈ ip ++ pinsAt fp s5.heap, q.1 ≠ S := fun q hq => by
          rcases List.mem_append.mp hq with z | z
          · exact gc.ip q z
          · exact fun e => (f2 q.1 (of_pinsAt z).1).2.2.2.2.2 (S, lstObj acc0 cc0) (List.mem_append_right _ List.mem_cons_self) e.symm
        refine hb.run A S (ip ++ pinsAt fp s5.heap) R n ys s₀ _ _ _ _ id id s6 σ6 H6 { D with nx := N, ct := N, bk := D.nx } { gl _ with ip := gi } hn ⟨fun n' ys' s₀' s7 f hn' hs => ?_, fun n' s₀' x s3 hx => ee n' s₀' x s3 hx⟩ ⟨acc, cc, r, I6⟩ q6
        have again : ∀ {σ7 : L2.St} {H7 : Hp}, GI X S (ip ++ pinsAt fp s5.heap) ys' σ7 H7 s7 → N ys' σ7 H7 → Seg (model X.prog X.w) A R (GY X S) n' s₀' (.forLoop tg (.ref it) body [] X.env) (.pure (.again (.forLoop tg (.ref it) body [] X.env)))
            (.ret (fun r => ((match r with | .ok f => (.pure f : Sem Flow) | .error e => .raise e).onRaise (cameBack X.env)).wrap K J gd lv) none (gd false) l c p [] :: fs) s7 := fun {σ7 H7} G7 n7 => by
          obtain ⟨m', hm, w7⟩ := hN ys' σ7 H7 n7
          have G8 := unp G7
          obtain ⟨acc7, cc7, r7, I7⟩ := G7
          refine seg_again rfl (ih m' hm n' (i + 1) ys' s₀' s7 σ7 H7 hn' w7 G8 (T.keep _ _ _ st5 fun b hb o e => ?_) fun b hb => ?_)
          · exact (I7.pin (b, o) (List.mem_append_right _ (List.mem_cons_of_mem _ (List.mem_append_right _ (mem_pinsAt hb e))))).1
          · obtain ⟨o, e, d⟩ := T.obj _ _ st5 b hb
            exact (I7.pin (b, o) (List.mem_append_right _ (List.mem_cons_of_mem _ (List.mem_append_right _ (mem_pinsAt hb e))))).2.1
        cases f with
        | next => obtain ⟨σ7, H7, G7, n7⟩ := hs; exact again G7 n7
        | cont => obtain ⟨σ7, H7, G7, n7⟩ := hs; exact again G7 n7
        | brk =>
          obtain ⟨σ7, H7, G7, n7⟩ := hs
          exact seg_leaf (.ok .next) (k.ok n' ys' s₀' s7 .next hn' ⟨σ7, H7, unp G7, n7⟩)
        | ret v =>
          obtain ⟨x7, σ7, H7, G7, r7, n7⟩ := hs
          exact seg_leaf (.ok (.ret v)) (k.ok n' ys' s₀' s7 (.ret v) hn' ⟨x7, σ7, H7, unp G7, r7, n7⟩)
  exact loop m0 n 0 ys s₀ s2 σ H2 (by assumption) w0 ⟨acc0, cc0, r0, I2⟩ st2 fun b hb => (f2 b hb).1
end
/-! ### a generator def of the text -/
theorem Fun.gok {P : Program} {w : World} {K : PySem.W.Frag} {mg : Str → Option Value} {base : Heap} {x qual : Str} {st : Stmt} {f : Addr} {fd : FuncData} {N ps : List Str} {k : Nat} {sp : SpG} (F : Fun K x qual st f fd) (S : GScope N ps (defScope st)) (len : ∀ vs H Q E, sp vs H Q E → vs.length = ps.length)
    (hbody : ∀ (cdv : Value) (A : Around) (outer : List Env) (s : Shared) (H : Hp) (vs : List V) (Q : List V → Hp → Prop) (E : XK) (pn : List (Addr × Obj)), Room k (A.deeper (envOfC qual (defScope st) s.heap.objs.size f cdv)) → sp vs H Q E →
      ∃ t, GSs (gcxOf P w K mg base N qual (defScope st) f cdv A outer s H E pn) (defBody st) t ∧ t { nx := fun ys _ H' => Q ys H', rt := fun ys v H' => v = .non ∧ Q ys H' } [] (start N vs) H) : GFn P w K mg base (k + 1) f fd ps sp := by
  obtain ⟨oc, od, kV, doc, pm, an, cdv, ct, osl, rfl, lk, hcd⟩ := F.ex
  exact gfn_of lk hcd S len fun A outer s H vs Q E pn hr hsp => hbody cdv A outer s H vs Q E pn hr hsp
theorem noStop0 {K : PySem.W.Frag} : NoStop K E0 := fun _ _ _ h => h.elim
theorem passX0 {P : Program} {w : World} {X : Cx} : Passes (L2.CX P w) X E0 := fun _ _ _ _ _ _ _ h => by
  obtain ⟨_, _, _, _, _, _, _, _, _, _, _, _, hW⟩ := h
  exact hW.elim
theorem pe_listG0 {X : Cx} {k : Nat} {e : Expr} {tg : TGen} {nm : Str} {p pos : Pos} (h : PGen X k e tg E0) (hr : Room (k + 3) X.A) (hg : Gl X nm) (hmg : X.mg nm = none) (hv : bootBuiltins nm = some (.type "list")) (hnm : nm ≠ "__name__" := by decide) (hdb : (nm == ("__debug__" : Str)) = false := by decide)
    (he : starEach [e] X.env = (false, eval e X.env) :: starEach [] X.env := by rfl) : PE X (.Call (.Name nm p) [e] [] pos) (tListG tg) := pe_listG h passX0 noStop0 hr hg hmg hv hnm hdb he
/-! ### readings -/
def LoopGG (J : It) (g : TG) (tb : TGn) (D : GEnds) (ys : List V) (σ : L2.St) (H1 : Hp) : Prop := ∃ W : Nat → Nat → List V → L2.St → Hp → Prop, (∃ m, W 0 m ys σ H1) ∧ ∀ i m ys σ H, W i m ys σ H →
  (J.stop i H ∧ D.nx ys σ H) ∨ (J.go i H ∧ ∃ N : List V → L2.St → Hp → Prop, (∀ ys' σ' H', N ys' σ' H' → ∃ m', m' < m ∧ W (i + 1) m' ys' σ' H') ∧ ∀ x H', J.yld i H x H' → g x σ H' fun σ2 H2 => tb { D with nx := N, ct := N, bk := D.nx } ys σ2 H2)
section
variable {ys : List V} {σ : L2.St} {H : Hp} {Q : VK} {D : GEnds}
theorem x_gfor {wi : TI} {g : TG} {tb : TGn} : tGFor wi g tb D ys σ H = wi σ H fun J H1 => LoopGG J g tb D ys σ H1 := rfl
theorem x_gplain {t : TS} : tPlain t D ys σ H = t { nx := D.nx ys, rt := D.rt ys, bk := D.bk ys, ct := D.ct ys } σ H := rfl
theorem x_gthen {t u : TGn} : tGThen t u D ys σ H = t { D with nx := fun ys' σ' H' => u D ys' σ' H' } ys σ H := rfl
theorem x_g0 : tG0 D ys σ H = D.nx ys σ H := rfl
theorem x_gyield {te : TE} : tGYield te D ys σ H = (ys.length < sizeLine ∧ te σ H fun x H1 => D.nx (ys ++ [x]) σ H1) := rfl
theorem x_gwhile {c : TT} {tb : TGn} : tGWhile c tb D ys σ H = ∃ W : Nat → List V → L2.St → Hp → Prop, (∃ m, W m ys σ H) ∧ ∀ m ys σ H, W m ys σ H →
  c σ H fun b H1 => if b = true then ∃ N : List V → L2.St → Hp → Prop, (∀ ys' σ' H', N ys' σ' H' → ∃ m', m' < m ∧ W m' ys' σ' H') ∧ tb { D with nx := N, ct := N, bk := D.nx } ys σ H1 else D.nx ys σ H1 := rfl
theorem x_listG {tg : TGen} : tListG tg σ H Q = tg σ H fun out H2 => ∀ p, H2 p = none → Q (.ref p) (upd H2 p (.lst out)) := rfl
theorem x_callG {sp : SpG} {dvs : List V} {E : XK} {t : TA} {cont : List V → Hp → Prop} : tCallG sp dvs E t σ H cont = t σ H fun vs H1 => sp (vs ++ dvs) H1 cont E := rfl
end
theorem lgg_list {K : PySem.W.Frag} {a : Addr} {xs : List V} {g : TG} {tb : TGn} {D : GEnds} {ys : List V} {σ : L2.St} {H : Hp} (Pv : Nat → List V → L2.St → Hp → Prop) (h0 : Pv 0 ys σ H) (hl : ∀ i ys σ H, i ≤ xs.length → Pv i ys σ H → SqL K H a xs)
    (hs : ∀ i v ys σ H, xs[i]? = some v → Pv i ys σ H → g v σ H fun σ2 H2 => tb { D with nx := Pv (i + 1), ct := Pv (i + 1), bk := D.nx } ys σ2 H2) (hd : ∀ ys σ H, Pv xs.length ys σ H → D.nx ys σ H) :
    LoopGG (Itl K a) g tb D ys σ H := by
  refine ⟨fun i m ys σ H => m = xs.length - i ∧ i ≤ xs.length ∧ Pv i ys σ H, ⟨xs.length, by simp, Nat.zero_le _, h0⟩, ?_⟩
  rintro i m ys σ H ⟨rfl, hi, p⟩
  have q := hl i ys σ H hi p
  by_cases hlt : i < xs.length
  · refine .inr ⟨⟨xs, xs[i], q, by simp [hlt]⟩, Pv (i + 1), fun ys' σ' H' p' => ⟨xs.length - (i + 1), by omega, rfl, hlt, p'⟩, fun x H' y => ?_⟩
    obtain ⟨e, y⟩ := y
    subst e
    exact hs i x ys σ _ (y xs q) p
  · have e : i = xs.length := by omega
    subst e
    exact .inl ⟨⟨xs, q, Nat.le_refl _⟩, hd ys σ H p⟩
end BC

set_option Elab.async false
set_option linter.all false
set_option maxRecDepth 100000
set_option maxHeartbeats 4000000
/-! As GenY, for generators with cells: what a cell holds is forgotten at each yield. -/
namespace SL
open PySem PySem.Spec PyProof.Rows L2 GenW BC Evl

/-! ### the entry's heap, as it stands now -/
def cut (n : Nat) (h : Heap) : Heap := { h with objs := Array.ofFn (n := n) fun i => (h.objs[i.val]?).getD { cls := .none, dict := none, data := .freed, slots := #[] } }
theorem cut_size {n : Nat} {h : Heap} : (cut n h).objs.size = n := by unfold cut; simp
theorem cut_get {n : Nat} {h : Heap} {b : Addr} : (cut n h).get? b = if b < n then h.get? b else none := by
  unfold cut Heap.get?
  simp only [Array.getElem?_ofFn]
  by_cases hb : b < n
  · rw [dif_pos hb, if_pos hb]
    cases e : h.objs[b]? with
    | none => simp
    | some o => simp
  · rw [dif_neg hb, if_neg hb]
theorem of_cut {n : Nat} {h : Heap} {b : Addr} {o : Obj} (e : (cut n h).get? b = some o) : b < n ∧ h.get? b = some o := by
  rw [cut_get] at e
  by_cases hb : b < n
  · rw [if_pos hb] at e; exact ⟨hb, e⟩
  · rw [if_neg hb] at e; cases e
theorem cut_of {n : Nat} {h : Heap} {b : Addr} {o : Obj} (hb : b < n) (e : h.get? b = some o) : (cut n h).get? b = some o := by rw [cut_get, if_pos hb]; exact e
/-- the context with the present for its entry -/
abbrev gh (X : Cx) (s₀ : Shared) (Hr : Hp) : Cx := { X with s_0 := { s₀ with heap := cut X.s_0.heap.objs.size s₀.heap }, H_0 := Hr }
/-- the generator's own: its frame, its cells, what is pinned -/
def Own (X : Cx) (ip : List (Addr × Obj)) (b : Addr) : Prop := b = X.env.locals ∨ ∃ p ∈ X.pn ++ ip, p.1 = b
/-- the slots of what has a cell -/
def CellsIn (X : Cx) (ws : List Nat) : Prop := ∀ (i : Nat) (x : Str), X.N[i]? = some x → (∃ c, X.env.cells.lookup x = some c) → i ∈ ws
/-- how it may be woken -/
structure Wk (X : Cx) (ip : List (Addr × Obj)) (s s' : Shared) (H' : Hp) : Prop where
  bare : AllBare s'.gens
  bs : ∀ b o, X.base.get? b = some o → s'.heap.get? b = some o ∧ H' b = none
  funs : s'.heap.FunFrames X.base X.outer
  frf : ∀ b ∈ X.fs, H' b = none
  keep : ∀ b o, Own X ip b → s.heap.get? b = some o → s'.heap.get? b = some o
  free : ∀ b, Own X ip b → H' b = none
  cell : ∀ x c, X.env.cells.lookup x = some c → (∃ v, s'.heap.IsCell c v) ∧ H' c = none
  hok : HOk X.prog X.w H' s'.heap
theorem funs_cut {base h : Heap} {n : Nat} : ∀ {l : List Env}, h.FunFrames base l → (∀ b ∈ frs l, b < n) → (cut n h).FunFrames base l
  | [], _, _ => trivial
  | env :: r, hl, hs => by
    obtain ⟨hk, ⟨L, o, hf, hn, ho, hd⟩, hr⟩ := hl
    have hL : L ∈ frs (env :: r) := by unfold frs; rw [List.filterMap_cons, hf]; exact List.mem_cons_self
    refine ⟨hk, ⟨L, o, hf, hn, cut_of (hs L hL) ho, hd⟩, funs_cut hr fun b hb => hs b ?_⟩
    unfold frs; rw [List.filterMap_cons, hf]; exact List.mem_cons_of_mem _ hb
theorem frs_lt {X : Cx} (ok : X.Ok) : ∀ b ∈ X.fs, b < X.s_0.heap.objs.size := fun b hb => by
  obtain ⟨_, o, ho, _⟩ := ok.funs.mem hb
  exact Heap.lt_size ho
theorem gh_ok {X : Cx} (ok : X.Ok) {s' : Shared} {H' : Hp} (bs : ∀ b o, X.base.get? b = some o → s'.heap.get? b = some o ∧ H' b = none) (funs : s'.heap.FunFrames X.base X.outer) (frf : ∀ b ∈ X.fs, H' b = none) : (gh X s' H').Ok where
  mod := ok.mod
  kind := ok.kind
  glob := ok.glob
  blt := ok.blt
  above := by show (cut _ _).objs.size ≤ _; rw [cut_size]; exact ok.above
  inj := ok.inj
  has := ok.has
  cab := fun x c h1 h2 => by show (cut _ _).objs.size ≤ _; rw [cut_size]; exact ok.cab x c h1 h2
  hd := ok.hd
  frames := ok.frames
  stk := ok.stk
  exf := ok.exf
  bs := fun b o e => ⟨cut_of (Nat.lt_of_lt_of_le (Heap.lt_size e) ok.bsz) (bs b o e).1, (bs b o e).2⟩
  bsz := by show _ ≤ (cut _ _).objs.size; rw [cut_size]; exact ok.bsz
  noex := ok.noex
  exfs := ok.exfs
  funs := funs_cut funs (frs_lt ok)
  frf := frf
/-- it is woken -/
theorem reent {X : Cx} (ok : X.Ok) {s1 s s' : Shared} {H1 H H' : Hp} {ip : List (Addr × Obj)} {σ : L2.St} {ws : List Nat} (hws : CellsIn X ws) (I : Inv { X with s_0 := s1, H_0 := H1 } ip σ H s) (w : Wk X ip s s' H') : Inv (gh X s' H') ip (wipe σ ws) H' s' where
  ok := gh_ok ok w.bs w.funs w.frf
  os := rfl
  bare := w.bare
  base := Un.kept fun b u q => (of_cut q).2
  loc := by
    obtain ⟨m, hn, hl⟩ := I.loc
    obtain ⟨o, es, ep, ho, r⟩ := hn
    refine ⟨m, ⟨o, es, ep, w.keep _ _ (.inl rfl) ho, r⟩, fun i x v e1 e2 e3 => ?_⟩
    obtain ⟨e2, nws⟩ := wipe_some e2
    obtain ⟨u, ru, lk⟩ := hl i x v e1 e2 e3
    refine ⟨u, ru, ?_⟩
    rcases lk with lk | ⟨k, c, e, oc, hoc, hdc⟩
    · exact .inl lk
    · exact (nws (hws i x e1 ⟨c, e⟩)).elim
  cell := fun x c e => (w.cell x c e).1
  free := w.free _ (.inl rfl)
  freeC := fun x c e => (w.cell x c e).2
  pin := fun p hp => by
    obtain ⟨h1, h2, h3, h4, h5⟩ := I.pin p hp
    exact ⟨w.keep _ _ (.inr ⟨p, hp, rfl⟩) h1, w.free _ (.inr ⟨p, hp, rfl⟩), h3, h4, h5⟩
  hok := w.hok
  len := by rw [wipe_length]; exact I.len

/-- what is tracked stays tracked -/
def Dom (H H' : Hp) : Prop := ∀ b, H b ≠ none → H' b ≠ none
theorem Dom.refl {H : Hp} : Dom H H := fun _ h => h
theorem Dom.trans {H H1 H2 : Hp} (x : Dom H H1) (y : Dom H1 H2) : Dom H H2 := fun b h => y b (x b h)
theorem Dom.of {H H' : Hp} (e : Ex H H') : Dom H H' := fun b h => by
  cases q : H b with
  | none => exact (h q).elim
  | some o => rw [e b o q]; exact fun z => nomatch z
theorem Dom.fx {p : Addr} {o : HO} {H H' : Hp} (f : Fx p H H') (h : H' p = some o) : Dom H H' := fun b hb => by
  by_cases z : b = p
  · rw [z, h]; exact fun z => nomatch z
  · cases q : H b with
    | none => exact (hb q).elim
    | some u => rw [f b u z q]; exact fun z => nomatch z
theorem Dom.put {p : Addr} {o : HO} {H : Hp} : Dom H (upd H p o) := Dom.fx Fx.put upd_same
theorem Dom.none {H H' : Hp} {b : Addr} (d : Dom H H') (h : H' b = none) : H b = none := by
  cases q : H b with
  | none => rfl
  | some o => exact (d b (by rw [q]; exact fun z => nomatch z) h).elim

/-! ### the judgements -/
/-- what is wanted: at a yield (its number, the heap at the last waking, the value, the heap, the part of it that must stand), behind a statement -/
structure YE where
  yl : Nat → Hp → V → Hp → Hp → Prop
  nx : Nat → Hp → L2.St → Hp → Prop
  rt : Nat → Hp → VK
  bk : Nat → Hp → L2.St → Hp → Prop := fun _ _ _ _ => False
  ct : Nat → Hp → L2.St → Hp → Prop := fun _ _ _ _ => False
abbrev TY := YE → Nat → Hp → L2.St → Hp → Prop
def YE.at (D : YE) (i : Nat) (Hr : Hp) : Ends := { nx := D.nx i Hr, rt := D.rt i Hr, bk := D.bk i Hr, ct := D.ct i Hr }
abbrev CW := Nat → Shared → Hp → Prop
/-- the protocol: C holds of the state and the heap at each waking -/
def YP (X : Cx) (C : CW) (yl : Nat → Hp → V → Hp → Hp → Prop) : Protocol := fun n s₀ v s kap =>
  ∃ i x ip Hr σ H K, n + 1 + i = sizeLine ∧ RelV x v ∧ Inv (gh X s₀ Hr) ip σ H s ∧ C i s₀ Hr ∧ yl i Hr x H K ∧ ∀ s' H', Wk X ip s s' H' → C (i + 1) s' H' → Ex K H' → Dom H H' → kap (.send .none) s' ∧ kap (.send (.int 0 0)) s'
def YF (X : Cx) (C : CW) (z : Nat → Hp → Hp → Prop) (n : Nat) (s₀ s : Shared) : Prop := ∃ i Hr ip σ H, n + i = sizeLine ∧ Inv (gh X s₀ Hr) ip σ H s ∧ C i s₀ Hr ∧ z i Hr H
def YR (X : Cx) (C : CW) (z : Nat → Hp → Hp → Prop) : GenEnd := fun n s₀ r s => ((r = .ok (.ret .none) ∨ r = .ok .next) ∧ YF X C z n s₀ s) ∨ ∃ e, r = .error e ∧ False
structure YC (X : Cx) (A : Around) (c : Code) (fs : List Frame) (gd : Bool → Bool) : Prop where
  ok : X.Ok
  nox : ∀ e s, ¬ X.xe e s
  over : A.over c fs = X.A
  split : splitAtGen fs = none
  guard : fs.any Frame.guarded = false
  gd : gd false = false
def YSP (X : Cx) (s₀ : Shared) (Hr : Hp) (ip : List (Addr × Obj)) (D : YE) (i : Nat) (f : Flow) (s : Shared) : Prop := SP (gh X s₀ Hr) ip (D.at i Hr) f s
abbrev YK (X : Cx) (C : CW) (ip : List (Addr × Obj)) (A : Around) (R : GenEnd) (c : Code) (fs : List Frame) (Kc : Flow → Sem PySem.Fin) (D : YE) : Prop :=
  ∀ (n i : Nat) (s₀ : Shared) (Hr : Hp) (s : Shared) (f : Flow), n + i = sizeLine → C i s₀ Hr → YSP X s₀ Hr ip D i f s → Seg (model X.prog X.w) A R (YP X C D.yl) n s₀ c (Kc f) fs s
structure YS (X : Cx) (st : Stmt) (t : TY) : Prop where
  run : ∀ (A : Around) (ip : List (Addr × Obj)) (C : CW) (R : GenEnd) (n i : Nat) (s₀ : Shared) (Hr : Hp) (c : Code) (fs : List Frame) (Kc : Flow → Sem PySem.Fin) (J : Value → Sem PySem.Fin) (gd : Bool → Bool) (lv : List Value → List Value) (s : Shared) (σ : L2.St) (H : Hp) (D : YE),
    YC X A c fs gd → n + i = sizeLine → YK X C ip A R c fs Kc D → Inv (gh X s₀ Hr) ip σ H s → C i s₀ Hr → t D i Hr σ H →
    Seg (model X.prog X.w) A R (YP X C D.yl) n s₀ c ((exec st X.env).wrap Kc J gd lv) fs s
structure YSs (X : Cx) (st : List Stmt) (t : TY) : Prop where
  run : ∀ (A : Around) (ip : List (Addr × Obj)) (C : CW) (R : GenEnd) (n i : Nat) (s₀ : Shared) (Hr : Hp) (c : Code) (fs : List Frame) (Kc : Flow → Sem PySem.Fin) (J : Value → Sem PySem.Fin) (gd : Bool → Bool) (lv : List Value → List Value) (s : Shared) (σ : L2.St) (H : Hp) (D : YE),
    YC X A c fs gd → n + i = sizeLine → YK X C ip A R c fs Kc D → Inv (gh X s₀ Hr) ip σ H s → C i s₀ Hr → t D i Hr σ H →
    Seg (model X.prog X.w) A R (YP X C D.yl) n s₀ c ((execs st X.env).wrap Kc J gd lv) fs s

section
variable {X : Cx} {st : Stmt} {rest : List Stmt}
def tYPlain (t : TS) : TY := fun D i Hr σ H => t (D.at i Hr) σ H
theorem ys_ps {t : TS} (h : ∀ s₀ Hr, PS (gh X s₀ Hr) st t) : YS X st (tYPlain t) := by
  refine ⟨fun A ip C R n i s₀ Hr c fs Kc J gd lv s σ H D g hn k I hC ht => ?_⟩
  refine seg_wrap ?_
  rw [g.over]
  exact wpAny_mono ((h s₀ Hr).run _ s σ H (D.at i Hr) I ht) (fun f s' hs => k n i s₀ Hr s' f hn hC hs) fun x s' hx => (g.nox x s' hx).elim
theorem yss_pss {t : TS} (h : ∀ s₀ Hr, PSs (gh X s₀ Hr) rest t) : YSs X rest (tYPlain t) := by
  refine ⟨fun A ip C R n i s₀ Hr c fs Kc J gd lv s σ H D g hn k I hC ht => ?_⟩
  refine seg_wrap ?_
  rw [g.over]
  exact wpAny_mono ((h s₀ Hr).run _ s σ H (D.at i Hr) I ht) (fun f s' hs => k n i s₀ Hr s' f hn hC hs) fun x s' hx => (g.nox x s' hx).elim
def tY0 : TY := fun D i Hr σ H => D.nx i Hr σ H
theorem yss_nil : YSs X [] tY0 := by
  refine ⟨fun A ip C R n i s₀ Hr c fs Kc J gd lv s σ H D g hn k I hC ht => ?_⟩
  exact seg_execs_nil (k n i s₀ Hr s .next hn hC ⟨σ, H, I, ht⟩)
def tYThen (t u : TY) : TY := fun D i Hr σ H => t { D with nx := fun i' Hr' σ' H' => u D i' Hr' σ' H' } i Hr σ H
theorem yss_cons {t u : TY} (a : YS X st t) (b : YSs X rest u) : YSs X (st :: rest) (tYThen t u) := by
  refine ⟨fun A ip C R n i s₀ Hr c fs Kc J gd lv s σ H D g hn k I hC ht => ?_⟩
  refine seg_execs_cons ?_
  refine a.run A ip C R n i s₀ Hr c fs _ J gd lv s σ H { D with nx := fun i' Hr' σ' H' => u D i' Hr' σ' H' } g hn (fun n' i' s₀' Hr' s' f hn' hC' hs => ?_) I hC ht
  cases f with
  | next =>
    obtain ⟨σ', H', I', q⟩ := hs
    exact b.run A ip C R n' i' s₀' Hr' c fs Kc J gd lv s' σ' H' D g hn' k I' hC' q
  | brk => exact k n' i' s₀' Hr' s' .brk hn' hC' hs
  | cont => exact k n' i' s₀' Hr' s' .cont hn' hC' hs
  | ret u => exact k n' i' s₀' Hr' s' (.ret u) hn' hC' hs

/-! ### yield -/
def tYYield (ws : List Nat) (te : TE) : TY := fun D i Hr σ H => i < sizeLine ∧ te σ H fun x H1 => ∃ K, D.yl i Hr x H1 K ∧ ∀ H2, Ex K H2 → Dom H1 H2 → D.nx (i + 1) H2 (wipe σ ws) H2
theorem ys_yield {e : Expr} {yp pos : Pos} {te : TE} {ws : List Nat} (hws : CellsIn X ws) (he : ∀ s₀ Hr, PE (gh X s₀ Hr) e te) (hco : X.env.scope.isCoroutine = false := by rfl) (hi : interactive X.env = false := by rfl) : YS X (.Expr (.Yield (some e) yp) pos) (tYYield ws te) := by
  refine ⟨fun A ip C R n i s₀ Hr c fs Kc J gd lv s σ H D g hn k I hC ht => ?_⟩
  obtain ⟨hlt, ht⟩ := ht
  obtain ⟨n, rfl⟩ : ∃ m, n = m + 1 := ⟨n - 1, by omega⟩
  refine seg_Expr_Yield g.split g.gd g.guard ?_ hco hi
  rw [g.over]
  refine wpAny_mono ((he s₀ Hr).run _ s σ H _ I ht) (fun v s' hv => ?_) fun x s' hx => (g.nox x s' hx).elim
  obtain ⟨x, H1, I1, rv, K, hy, hk⟩ := hv
  intro kap hkap
  refine ⟨i, x, ip, Hr, σ, H1, K, by omega, rv, I1, hC, hy, fun s'' H2 w hC2 hK hD => ?_⟩
  have q := k n (i + 1) s'' H2 s'' .next (by omega) hC2 ⟨wipe σ ws, H2, reent g.ok hws I1 w, hk H2 hK hD⟩
  exact ⟨hkap .none s'' q, hkap (.int 0 0) s'' q⟩

/-! ### loops -/
theorem yc_loop {A : Around} {c c' : Code} {fs : List Frame} {gd : Bool → Bool} {k : Result → Sem PySem.Fin} {l kp : List Value} {p : Pos} (g : YC X A c fs gd) (hw : c'.weight = 0) (hu : c'.cUnits = 0) :
    YC X A c' (.ret k none (gd false) l c p kp :: fs) id where
  ok := g.ok
  nox := g.nox
  over := (over_loop hw hu).trans g.over
  split := by
    show (splitAtGen fs).map _ = none
    rw [g.split]; rfl
  guard := by
    show (gd false || fs.any Frame.guarded) = false
    rw [g.gd, g.guard]; rfl
  gd := rfl
def tYWhile (c : TT) (tb : TY) : TY := fun D i Hr σ H => ∃ W : Nat → Nat → Hp → L2.St → Hp → Prop, (∃ m, W m i Hr σ H) ∧ ∀ m i Hr σ H, W m i Hr σ H →
  c σ H fun b H1 => if b = true then ∃ N : Nat → Hp → L2.St → Hp → Prop, (∀ i' Hr' σ' H', N i' Hr' σ' H' → ∃ m', m' < m ∧ W m' i' Hr' σ' H') ∧ tb { D with nx := N, ct := N, bk := D.nx } i Hr σ H1 else D.nx i Hr σ H1
theorem ys_while {test : Expr} {body : List Stmt} {pos : Pos} {tc : TT} {tb : TY} (hc : ∀ s₀ Hr, PT (gh X s₀ Hr) test tc) (hb : YSs X body tb) : YS X (.While test body [] pos) (tYWhile tc tb) := by
  refine ⟨fun A ip C R n i s₀ Hr c fs Kc J gd lv s σ H D g hn k I hC ht => ?_⟩
  obtain ⟨W, ⟨m0, w0⟩, turn⟩ := ht
  refine seg_While fun p => ?_
  have gl := fun (kk : Result → Sem PySem.Fin) => yc_loop (k := kk) (c' := .whileLoop test body [] X.env) (l := lv []) (kp := []) (p := p) g rfl rfl
  have loop : ∀ (m n i : Nat) (s₀ : Shared) (Hr : Hp) (s : Shared) (σ : L2.St) (H : Hp), n + i = sizeLine → W m i Hr σ H → Inv (gh X s₀ Hr) ip σ H s → C i s₀ Hr →
      Seg (model X.prog X.w) A R (YP X C D.yl) n s₀ (.whileLoop test body [] X.env) ((model X.prog X.w).den (.whileLoop test body [] X.env))
        (.ret (fun r => ((match r with | .ok f => (.pure f : Sem Flow) | .error e => .raise e).onRaise (cameBack X.env)).wrap Kc J gd lv) none (gd false) (lv []) c p [] :: fs) s := by
    intro m
    induction m using Nat.strongRecOn with
    | ind m ih =>
      intro n i s₀ Hr s σ H hn w I hC
      refine seg_whileLoop ?_
      rw [(gl _).over]
      refine wpAny_mono ((hc s₀ Hr).run _ s σ H _ I (turn m i Hr σ H w)) (fun b s' hb' => ?_) fun x s' hx => (g.nox x s' hx).elim
      obtain ⟨H2, I2, q2⟩ := hb'
      cases b with
      | true =>
        obtain ⟨N, hN, q2⟩ := q2
        rw [if_pos rfl]
        refine hb.run A ip C R n i s₀ Hr _ _ _ _ id id s' σ H2 { D with nx := N, ct := N, bk := D.nx } (gl _) hn (fun n' i' s₀' Hr' s3 f hn' hC' hs => ?_) I2 hC q2
        cases f with
        | next =>
          obtain ⟨σ3, H3, I3, n3⟩ := hs
          obtain ⟨m', hm, w3⟩ := hN i' Hr' σ3 H3 n3
          exact seg_again rfl (ih m' hm n' i' s₀' Hr' s3 σ3 H3 hn' w3 I3 hC')
        | cont =>
          obtain ⟨σ3, H3, I3, n3⟩ := hs
          obtain ⟨m', hm, w3⟩ := hN i' Hr' σ3 H3 n3
          exact seg_again rfl (ih m' hm n' i' s₀' Hr' s3 σ3 H3 hn' w3 I3 hC')
        | brk => exact seg_leaf (.ok .next) (k n' i' s₀' Hr' s3 .next hn' hC' hs)
        | ret v => exact seg_leaf (.ok (.ret v)) (k n' i' s₀' Hr' s3 (.ret v) hn' hC' hs)
      | false =>
        rw [if_neg Bool.false_ne_true]
        refine seg_execs_nil ?_
        exact seg_leaf (.ok .next) (k n i s₀ Hr s' .next hn hC ⟨σ, H2, I2, q2⟩)
  exact loop m0 n i s₀ Hr s σ H hn w0 I hC
def tYFor (wi : TI) (g : TG) (tb : TY) : TY := fun D i Hr σ H => wi σ H fun J H1 => ∃ W : Nat → Nat → Nat → Hp → L2.St → Hp → Prop, (∃ m, W 0 m i Hr σ H1) ∧ ∀ j m i Hr σ H, W j m i Hr σ H →
  (J.stop j H ∧ D.nx i Hr σ H) ∨ (J.go j H ∧ ∃ N : Nat → Hp → L2.St → Hp → Prop, (∀ i' Hr' σ' H', N i' Hr' σ' H' → ∃ m', m' < m ∧ W (j + 1) m' i' Hr' σ' H') ∧ ∀ x H', J.yld j H x H' → g x σ H' fun σ2 H2 => tb { D with nx := N, ct := N, bk := D.nx } i Hr σ2 H2)
theorem ys_for {tg iter : Expr} {body : List Stmt} {wi : TI} {g : TG} {tb : TY} {pos : Pos} (hc : X.calm = true) (hi : ∀ s₀ Hr, PI (gh X s₀ Hr) tg iter wi) (hg : ∀ s₀ Hr, PG (gh X s₀ Hr) tg g) (hb : YSs X body tb)
    (hs : ∀ x, foldedSetIterable iter X.env x = pure x := by intro _; rfl) : YS X (.For tg iter body [] pos) (tYFor wi g tb) := by
  refine ⟨fun A ip C R n i s₀ Hr c fs Kc Jx gd lv s σ H D gc hn k I hC ht => ?_⟩
  refine seg_ForG ?_ hs
  rw [gc.over]
  refine wpAny_mono ((hi s₀ Hr).run ip s σ H _ I ht) (fun v s1 h1 => wpAny_mono h1 (fun itv s2 h2 p l => ?_) fun x s' hx => (gc.nox x s' hx).elim) fun x s' hx => (gc.nox x s' hx).elim
  obtain ⟨it, fp, tn, J', H2, e, I2, T, st2, f2, W, ⟨m0, w0⟩, turn⟩ := h2
  subst e
  have gl := fun (kk : Result → Sem PySem.Fin) => yc_loop (k := kk) (c' := .forLoop tg (.ref it) body [] X.env) (l := l) (kp := []) (p := p) gc rfl rfl
  have stat : ∀ {s₀' : Shared} {Hr' H' : Hp}, (∀ b ∈ fp, H' b = none) → ∀ b ∈ fp, FpOk (gh X s₀' Hr') ip H' b := fun {s₀' Hr' H'} hn b hb => by
    obtain ⟨f0, f1, f2', f3, f4, f5⟩ := f2 b hb
    refine ⟨hn b hb, f1, f2', ?_, f4, f5⟩
    have f3' : b ∈ X.ex ∨ (cut X.s_0.heap.objs.size s₀.heap).objs.size ≤ b := f3
    rw [cut_size] at f3'
    show b ∈ X.ex ∨ (cut X.s_0.heap.objs.size s₀'.heap).objs.size ≤ b
    rw [cut_size]; exact f3'
  have loop : ∀ (m n j i : Nat) (s₀ : Shared) (Hr : Hp) (s : Shared) (σ : L2.St) (H : Hp), n + i = sizeLine → W j m i Hr σ H → Inv (gh X s₀ Hr) ip σ H s → C i s₀ Hr → tn j s.heap → (∀ b ∈ fp, H b = none) →
      Seg (model X.prog X.w) A R (YP X C D.yl) n s₀ (.forLoop tg (.ref it) body [] X.env) ((model X.prog X.w).den (.forLoop tg (.ref it) body [] X.env))
        (.ret (fun r => ((match r with | .ok f => (.pure f : Sem Flow) | .error e => .raise e).onRaise (cameBack X.env)).wrap Kc Jx gd lv) none (gd false) l c p [] :: fs) s := by
    intro m
    induction m using Nat.strongRecOn with
    | ind m ih =>
      intro n j i s₀ Hr s σ H hn w I hC st fr
      refine seg_forLoop ?_
      rw [(gl _).over]
      rcases turn j m i Hr σ H w with ⟨stop, qn⟩ | ⟨go, N, hN, step⟩
      · refine wpAny_mono (T.done (gh X s₀ Hr) rfl rfl rfl hc j ip s σ H X.xe I (stat fr) st stop) (fun r' s4 h4 => ?_) fun x s' hx => (gc.nox x s' hx).elim
        obtain ⟨hr, I4⟩ := h4
        subst hr
        exact seg_blockNil (seg_leaf (.ok .next) (k n i s₀ Hr s4 .next hn hC ⟨σ, H, I4, qn⟩))
      · refine wpAny_mono (T.item (gh X s₀ Hr) rfl rfl rfl hc j ip s σ H X.xe I (stat fr) st go) (fun r' s4 h4 => ?_) fun x s' hx => (gc.nox x s' hx).elim
        obtain ⟨u, hr, h4⟩ := h4
        subst hr
        refine wpAny_mono h4 (fun _ s5 h5 => ?_) fun x s' hx => (gc.nox x s' hx).elim
        obtain ⟨x, H5, I5, r5, y5, st5, fr5⟩ := h5
        have I5' : Inv (gh X s₀ Hr) (ip ++ pinsAt fp s5.heap) σ H5 s5 := I5.pinned (stat fr5) (T.obj _ _ st5)
        refine wpAny_mono ((hg s₀ Hr).run _ s5 σ H5 x u _ I5' r5 (step x H5 y5)) (fun _ s6 h6 => ?_) fun x s' hx => (gc.nox x s' hx).elim
        obtain ⟨σ6, H6, I6, q6⟩ := h6
        refine hb.run A (ip ++ pinsAt fp s5.heap) C R n i s₀ Hr _ _ _ _ id id s6 σ6 H6 { D with nx := N, ct := N, bk := D.nx } (gl _) hn (fun n' i' s₀' Hr' s7 f hn' hC' hs => ?_) I6 hC q6
        have again : ∀ {σ7 : L2.St} {H7 : Hp}, Inv (gh X s₀' Hr') (ip ++ pinsAt fp s5.heap) σ7 H7 s7 → N i' Hr' σ7 H7 → Seg (model X.prog X.w) A R (YP X C D.yl) n' s₀' (.forLoop tg (.ref it) body [] X.env) (.pure (.again (.forLoop tg (.ref it) body [] X.env)))
            (.ret (fun r => ((match r with | .ok f => (.pure f : Sem Flow) | .error e => .raise e).onRaise (cameBack X.env)).wrap Kc Jx gd lv) none (gd false) l c p [] :: fs) s7 := fun {σ7 H7} I7 n7 => by
          obtain ⟨m', hm, w7⟩ := hN i' Hr' σ7 H7 n7
          refine seg_again rfl (ih m' hm n' (j + 1) i' s₀' Hr' s7 σ7 H7 hn' w7 I7.unpinned hC' (T.keep _ _ _ st5 fun b hb o e => ?_) fun b hb => ?_)
          · exact (I7.pin (b, o) (List.mem_append_right _ (List.mem_append_right _ (mem_pinsAt hb e)))).1
          · obtain ⟨o, e, d⟩ := T.obj _ _ st5 b hb
            exact (I7.pin (b, o) (List.mem_append_right _ (List.mem_append_right _ (mem_pinsAt hb e)))).2.1
        cases f with
        | next => obtain ⟨σ7, H7, I7, n7⟩ := hs; exact again I7 n7
        | cont => obtain ⟨σ7, H7, I7, n7⟩ := hs; exact again I7 n7
        | brk =>
          obtain ⟨σ7, H7, I7, n7⟩ := hs
          exact seg_leaf (.ok .next) (k n' i' s₀' Hr' s7 .next hn' hC' ⟨σ7, H7, I7.unpinned, n7⟩)
        | ret v =>
          obtain ⟨x7, σ7, H7, I7, r7, n7⟩ := hs
          exact seg_leaf (.ok (.ret v)) (k n' i' s₀' Hr' s7 (.ret v) hn' hC' ⟨x7, σ7, H7, I7.unpinned, r7, n7⟩)
  exact loop m0 n 0 i s₀ Hr s2 σ H2 (by assumption) w0 I2 hC st2 fun b hb => (f2 b hb).1
end
end SL

set_option Elab.async false
set_option linter.all false
set_option maxRecDepth 100000
set_option maxHeartbeats 4000000
/-! for x in g(..): the consumer's rule; a generator def's promise by its body. -/
namespace SL
open PySem PySem.Spec PyProof.Rows L2 GenW BC Evl

/-! ### exceptions, whatever sleeps -/
def XeOk (X : Cx) : Prop := ∀ (e : Value) (s : Shared) (G : Array GenState), GR s.gens G → X.xe e s → X.xe e (wg s G)
theorem xe_of {M : Model} {A : Around} {t : Sem Unit} {C D : Value → Shared → Prop} {e : Value} {s : Shared} {G : Array GenState} (hC : ∀ e s G, GR s.gens G → C e s → C e (wg s G)) (hD : ∀ e s G, GR s.gens G → D e s → D e (wg s G)) (g : GR s.gens G)
    (h : wpAny M A t (fun _ s' => C e s') (fun e' s' => D e' s') s) : wpAny M A t (fun _ s' => C e s') (fun e' s' => D e' s') (wg s G) :=
  wpAny_mono (wpAny_sw g h) (fun _ s' ⟨G', g', _, q⟩ => hC e (wg s' G') s'.gens g' q) fun e' s' ⟨G', g', _, q⟩ => hD e' (wg s' G') s'.gens g' q
theorem cx_sw {P : Program} {w : World} {outer : List Env} {H : Hp} {s0 : Shared} {E : XK} : ∀ e s G, GR s.gens G → L2.CX P w outer H s0 E e s → L2.CX P w outer H s0 E e (wg s G) := fun e s G g h => by
  obtain ⟨a, B, H', cls, d, z1, fl, z2, ub, z3, z4, z5, z6⟩ := h
  exact ⟨a, B, H', cls, d, z1, fl, z2, ub, z3, z4, g.bare z5, z6⟩
theorem xeok_cx {P : Program} {w : World} {K : PySem.W.Frag} {mg : Str → Option Value} {base : Heap} {N : List Str} {qual : Str} {scope : Scope} {f : Addr} {cd : Value} {A : Around} {outer : List Env} {s : Shared} {H : Hp} {E : XK} : XeOk (cxOf (L2.CX P w) P w K mg base N qual scope f cd A outer s H E) := fun e s' G g h => xe_of cx_sw cx_sw g h
theorem xeok_cx0 {P : Program} {w : World} {K : PySem.W.Frag} {mg : Str → Option Value} {base : Heap} {N : List Str} {qual : Str} {scope : Scope} {f : Addr} {cd : Value} {A : Around} {outer : List Env} {s : Shared} {H : Hp} {E : XK} : XeOk (cxOf L2.CX0 P w K mg base N qual scope f cd A outer s H E) := fun e s' G g h => xe_of (fun _ _ _ _ q => q) (fun _ _ _ _ q => q) g h
theorem Inv.gens {X : Cx} {pins : List (Addr × Obj)} {σ : L2.St} {H : Hp} {s : Shared} {G : Array GenState} (I : Inv X pins σ H s) (h : AllBare G) : Inv X pins σ H (wg s G) :=
  ⟨I.ok, I.os, h, I.base, I.loc, I.cell, I.free, I.freeC, I.pin, I.hok, I.len⟩

/-! ### the consumer's heap, and the generator's view of it: without its cells -/
def isC (c : Addr) : HO := .ext fun h => ∃ v, h.IsCell c v
theorem isC_ok {P : Program} {w : World} {H : Hp} {h : Heap} {c : Addr} (e : ∃ v, h.IsCell c v) : ObjOk P w H h c (isC c) := by
  refine ⟨e, ?_, fun h1 h2 ⟨v, o, ho, hd⟩ k => ⟨v, o, k o ho, hd⟩⟩
  obtain ⟨v, o, ho, _⟩ := e
  exact ⟨o, ho⟩
structure Vw (Cs : Addr → Prop) (Hr Hc : Hp) : Prop where
  on : ∀ b, Cs b → Hr b = none ∧ Hc b = some (isC b)
  off : ∀ b, ¬ Cs b → Hr b = Hc b
open Classical in
noncomputable def add (Cs : Addr → Prop) (H : Hp) : Hp := fun b => if Cs b then some (isC b) else H b
open Classical in
noncomputable def del (Cs : Addr → Prop) (H : Hp) : Hp := fun b => if Cs b then none else H b
/-- the consumer's heaps Hc, H1c and the generator's views Hr, H1 of them -/
def Lk (Hr H1 Hc H1c : Hp) : Prop := ∀ b o, Hc b = some o → (Hr b = some o ∧ ∀ u, H1 b = some u → H1c b = some u) ∨ H1c b = some o
section
variable {P : Program} {w : World} {Cs : Addr → Prop} {H Hr Hc H1 H1c : Hp} {h : Heap}
theorem vw_add (hn : ∀ b, Cs b → H b = none) : Vw Cs H (add Cs H) := ⟨fun b c => ⟨hn b c, by unfold add; rw [if_pos c]⟩, fun b c => by unfold add; rw [if_neg c]⟩
theorem vw_del (hn : ∀ b, Cs b → H b = some (isC b)) : Vw Cs (del Cs H) H := ⟨fun b c => ⟨by unfold del; rw [if_pos c], hn b c⟩, fun b c => by unfold del; rw [if_neg c]⟩
theorem Vw.no (v : Vw Cs Hr Hc) {b : Addr} {o : HO} (e : Hr b = some o) : ¬ Cs b := fun c => by rw [(v.on b c).1] at e; cases e
theorem Vw.no' (v : Vw Cs Hr Hc) {b : Addr} {o : HO} (e : Hc b = some o) (n : ∀ φ, o ≠ .ext φ) : ¬ Cs b := fun c => by rw [(v.on b c).2] at e; exact n _ (Option.some.inj e).symm
theorem Vw.none (v : Vw Cs Hr Hc) {b : Addr} (e : Hc b = none) : Hr b = none := by
  by_cases c : Cs b
  · exact (v.on b c).1
  · rw [v.off b c]; exact e
theorem Vw.up (v : Vw Cs Hr Hc) : Ex Hr Hc := fun b o e => by rw [← v.off b (v.no e)]; exact e
theorem Vw.ex (v : Vw Cs Hr Hc) (v1 : Vw Cs H1 H1c) (e : Ex Hr H1) : Ex Hc H1c := fun b o q => by
  by_cases c : Cs b
  · rw [(v.on b c).2] at q; rw [(v1.on b c).2]; exact q
  · rw [← v1.off b c]; exact e b o (by rw [v.off b c]; exact q)
theorem Vw.lk (v : Vw Cs Hr Hc) (v1 : Vw Cs H1 H1c) : Lk Hr H1 Hc H1c := fun b o q => by
  by_cases c : Cs b
  · rw [(v.on b c).2] at q
    exact .inr (by rw [(v1.on b c).2]; exact q)
  · exact .inl ⟨by rw [v.off b c]; exact q, fun u e => v1.up _ _ e⟩
theorem Vw.okUp (v : Vw Cs H Hc) (ok : HOk P w H h) (hc : ∀ b, Cs b → ∃ v, h.IsCell b v) : HOk P w Hc h := fun a o e => by
  by_cases c : Cs a
  · rw [(v.on a c).2] at e
    cases e
    exact isC_ok (hc a c)
  · rw [← v.off a c] at e
    exact (ok a o e).stay (fun _ _ _ q => q) (fun b q => v.up _ _ q) fun b xs q => v.up _ _ q
theorem Vw.okDown (v : Vw Cs H Hc) (ok : HOk P w Hc h) : HOk P w H h := fun a o e =>
  (ok a o (v.up _ _ e)).stay (fun _ _ _ q => q) (fun b q => by rw [v.off b (v.no' q fun φ z => nomatch z)]; exact q) fun b xs q => by rw [v.off b (v.no' q fun φ z => nomatch z)]; exact q
end

/-! ### a generator def's promise -/
/-- the context of its body -/
abbrev gcxY (P : Program) (w : World) (K : PySem.W.Frag) (mg : Str → Option Value) (base : Heap) (N : List Str) (qual : Str) (scope : Scope) (f : Addr) (cd : Value) (A : Around) (outer : List Env) (s : Shared) (H : Hp) (pn : List (Addr × Obj)) : Cx :=
  { cxOf (L2.CX P w) P w K mg base N qual scope f cd A outer s H E0 with pn := pn, xe := fun _ _ => False }
abbrev SpY := List V → Hp → (Nat → Hp → V → Hp → Hp → Prop) → (Nat → Hp → Hp → Prop) → Prop
/-- a generator that has not begun -/
def GMadeY (P : Program) (w : World) (K : PySem.W.Frag) (mg : Str → Option Value) (base : Heap) (k : Nat) (outer : List Env) (H : Hp) (s : Shared) (yl : Nat → Hp → V → Hp → Hp → Prop) (z : Nat → Hp → Hp → Prop) (u : Value) (s' : Shared) : Prop :=
  ∃ (a : Addr) (g : Nat) (c : Code) (N : List Str) (qual : Str) (scope : Scope) (f : Addr) (cd : Value) (go : Obj), u = .ref a ∧ s.heap.objs.size ≤ a ∧ (∀ h : Heap, h.get? a = some go → h.IsGen a g) ∧ s'.heap.get? a = some go ∧
    s'.gens[g]? = some (.fresh c) ∧ s'.os = s.os ∧ AllBare s'.gens ∧ s'.heap.NoLimit ∧ (∀ b o, s.heap.get? b = some o → s'.heap.get? b = some o) ∧ (∀ x c, (cellsFrom (s.heap.objs.size + 1) scope.names []).lookup x = some c → s.heap.objs.size ≤ c ∧ ∃ v, s'.heap.IsCell c v) ∧
    ∀ (A : Around) (C : CW) (s2 : Shared), Room k A → A.frames = some outer → (∀ b o, s'.heap.get? b = some o → s2.heap.get? b = some o) → s2.os = s.os → AllBare s2.gens → C 0 s2 H →
      (gcxY P w K mg base N qual scope f cd A outer s H [(a, go)]).Ok ∧ Seg (model P w) A (YR (gcxY P w K mg base N qual scope f cd A outer s H [(a, go)]) C z) (YP (gcxY P w K mg base N qual scope f cd A outer s H [(a, go)]) C yl) sizeLine s2 c ((model P w).den c) [] s2
structure GFnY (P : Program) (w : World) (K : PySem.W.Frag) (mg : Str → Option Value) (base : Heap) (k : Nat) (f : Addr) (fd : FuncData) (ps : List Str) (sp : SpY) : Prop where
  len : ∀ vs H yl z, sp vs H yl z → vs.length = ps.length
  run : ∀ (A : Around) (outer : List Env) (s : Shared) (H : Hp) (args : Args) (us : List Value) (vs : List V) (yl : Nat → Hp → V → Hp → Hp → Prop) (z : Nat → Hp → Hp → Prop), Room k A → Env0 P w K mg base A outer s H → BindsTo s fd args (ps.zip us) → Vals vs us → sp vs H yl z →
    codeAny (model P w) A (.call (.ref f) args) (fun r s' => match r with | .ok (.ret u) => GMadeY P w K mg base k outer H s yl z u s' | _ => False) s

/-! ### the consumer's heap behind a turn of the generator -/
theorem sync {Xc X : Cx} {pins ip : List (Addr × Obj)} {σc σ : L2.St} {Hr Hc H Hn : Hp} {Cs : Addr → Prop} {s₀ s : Shared} (Ic : Inv Xc pins σc Hc s₀) (Ig : Inv (gh X s₀ Hr) ip σ H s) (v0 : Vw Cs Hr Hc) (v1 : Vw Cs H Hn) (ho : X.outer = Xc.stack) (hex : X.ex = []) (hok : HOk Xc.prog Xc.w Hn s.heap)
    (b0 : Xc.s_0.heap.objs.size ≤ X.s_0.heap.objs.size) (b1 : Xc.env.locals < X.s_0.heap.objs.size) (b2 : ∀ x c, Xc.env.cells.lookup x = some c → c < X.s_0.heap.objs.size) (b3 : ∀ p ∈ Xc.pn ++ pins, p.1 < X.s_0.heap.objs.size) : Inv Xc pins σc Hn s := by
  have young : ∀ {b}, b ∈ (List.range s₀.heap.objs.size).filter (fun b => decide (X.s_0.heap.objs.size ≤ b)) → X.s_0.heap.objs.size ≤ b := fun h => of_decide_eq_true (List.mem_filter.mp h).2
  have old : ∀ {b o}, s₀.heap.get? b = some o → b ∉ (List.range s₀.heap.objs.size).filter (fun b => decide (X.s_0.heap.objs.size ≤ b)) → b < X.s_0.heap.objs.size := fun {b o} e h => by
    by_cases z : X.s_0.heap.objs.size ≤ b
    · exact (h (List.mem_filter.mpr ⟨List.mem_range.mpr (Heap.lt_size e), decide_eq_true z⟩)).elim
    · exact Nat.lt_of_not_le z
  have nx : ∀ b, b ∉ X.ex := fun b h => by rw [hex] at h; cases h
  refine Ic.call' (ch := (List.range s₀.heap.objs.size).filter fun b => decide (X.s_0.heap.objs.size ≤ b)) Ig.os ⟨fun b o e n hb hx => ?_, fun b o e n hb hx => ?_, fun b o e n hx => ?_, fun b o e hx => ?_, fun b xs q => v1.up _ _ (Ig.base.tups b xs (show Hr b = _ by rw [v0.off b (v0.no' q fun φ z => nomatch z)]; exact q)), fun b o u q => v1.up _ _ (Ig.base.frzs b o u (show Hr b = _ by rw [v0.off b (v0.no' q fun φ z => nomatch z)]; exact q)),
    fun b ps q => let ⟨more, e⟩ := Ig.base.tbls b ps (show Hr b = _ by rw [v0.off b (v0.no' q fun φ z => nomatch z)]; exact q); ⟨more, v1.up _ _ e⟩⟩ hok Ig.bare fun b hb => ?_
  · exact Ig.base.keep b o (cut_of (old e hx) e) (v0.none n) (by show b ∉ frs X.outer; rw [ho]; exact hb) (nx b)
  · exact Ig.base.slot b o (cut_of (old e hx) e) (v0.none n) (by show b ∈ frs X.outer; rw [ho]; exact hb) (nx b)
  · have nc : ¬ Cs b := fun c => by rw [(v0.on b c).2] at n; cases n
    rw [← v1.off b nc]
    exact Ig.base.free b o (cut_of (old e hx) e) (v0.none n) (nx b)
  · exact Ig.base.there b o (cut_of (old e hx) e) (nx b)
  · have y := young hb
    refine ⟨.inr (Nat.le_trans b0 y), Nat.ne_of_gt (Nat.lt_of_lt_of_le b1 y), fun x c e => Nat.ne_of_lt (Nat.lt_of_lt_of_le (b2 x c e) y), fun p hp => Nat.ne_of_lt (Nat.lt_of_lt_of_le (b3 p hp) y)⟩
/-- the generator's own things, pinned while it sleeps -/
def gpins (X : Cx) (ip : List (Addr × Obj)) (h : Heap) : List (Addr × Obj) := pinsAt (X.env.locals :: (X.pn ++ ip).map (·.1)) h
theorem gpins_ok {Xc X : Cx} {ip : List (Addr × Obj)} {σ : L2.St} {Hr H : Hp} {s₀ s : Shared} (Ig : Inv (gh X s₀ Hr) ip σ H s) (ok : X.Ok) (ho : X.outer = Xc.stack) (hs : Xc.stack = Xc.env :: Xc.outer) (hf : Xc.env.frame = some Xc.env.locals) (b1 : Xc.env.locals < X.s_0.heap.objs.size) :
    ∀ p ∈ gpins X ip s.heap, s.heap.get? p.1 = some p.2 ∧ H p.1 = none ∧ p.1 ≠ Xc.env.locals ∧ p.1 ∉ Xc.fs ∧ ∀ v, p.2.data ≠ .cell v := fun p hp => by
  obtain ⟨hm, e⟩ := of_pinsAt hp
  have sub : ∀ b ∈ Xc.fs, b ∈ X.fs := fun b hb => by
    show b ∈ frs X.outer
    rw [ho, hs]
    unfold frs
    rw [List.filterMap_cons, hf]
    exact List.mem_cons_of_mem _ hb
  have own : Xc.env.locals ∈ X.fs := by
    show _ ∈ frs X.outer
    rw [ho, hs]
    unfold frs
    rw [List.filterMap_cons, hf]
    exact List.mem_cons_self
  rcases List.mem_cons.mp hm with z | z
  · obtain ⟨m, ⟨o, es, ep, hos, hd, _⟩, _⟩ := Ig.loc
    have hos : s.heap.get? X.env.locals = some o := hos
    rw [← z, e] at hos; cases hos
    refine ⟨e, by rw [z]; exact Ig.free, by rw [z]; exact Nat.ne_of_gt (Nat.lt_of_lt_of_le b1 ok.above), fun hb => ?_, fun v q => by rw [hd] at q; cases q⟩
    have := frs_lt ok _ (sub _ hb)
    rw [z] at this
    exact absurd (Nat.lt_of_lt_of_le this ok.above) (Nat.lt_irrefl _)
  · obtain ⟨q, hq, eq⟩ := List.mem_map.mp z
    obtain ⟨h1, h2, h3, h4, h5⟩ := Ig.pin q hq
    have e2 : q.2 = p.2 := by
      rw [← eq, h1] at e
      exact Option.some.inj e
    rw [← e2, ← eq]
    exact ⟨h1, h2, fun y => h4 (y ▸ own), fun hb => h4 (sub _ hb), h5⟩

/-! ### the rule -/
abbrev TGY := L2.St → Hp → (Nat → Hp → V → Hp → Hp → Prop) → (Nat → Hp → Hp → Prop) → (Hp → Prop) → Prop
structure PGenY (X : Cx) (k : Nat) (e : Expr) (tg : TGY) : Prop where
  run : ∀ (pins : List (Addr × Obj)) (s : Shared) (σ : L2.St) (H : Hp) (yl : Nat → Hp → V → Hp → Hp → Prop) (z : Nat → Hp → Hp → Prop) (start : Hp → Prop), Inv X pins σ H s → tg σ H yl z start → wpAny (model X.prog X.w) X.A (eval e X.env)
    (fun u s' => ∃ H1 sc, Inv X pins σ H1 sc ∧ GMadeY X.prog X.w X.K X.mg X.base k X.stack H1 sc yl z u s' ∧ start H1) X.xe s
def tForY (tgY : TGY) (g : TG) (tb : TS) : TS := fun D σ H => ∃ W : Nat → L2.St → Hp → Prop,
  tgY σ H (fun i Hr x H1 K => Ex K H1 ∧ ∀ σ Hc H1c K', W i σ Hc → Ex H1 H1c → Lk Hr H1 Hc H1c → Ex K' H1c → (∀ b o, K' b = some o → K b = some o ∨ (H1 b = none ∧ ∃ φ, o = .ext φ)) →
      g x σ H1c fun σ2 H2 => tb { D with nx := fun σ3 H3 => W (i + 1) σ3 H3 ∧ Ex K' H3 ∧ Dom H1c H3, ct := fun σ3 H3 => W (i + 1) σ3 H3 ∧ Ex K' H3 ∧ Dom H1c H3, bk := D.nx } σ2 H2)
    (fun i Hr H1 => ∀ σ Hc H1c, W i σ Hc → Ex H1 H1c → Lk Hr H1 Hc H1c → D.nx σ H1c) (fun H1 => ∀ Hc, Ex H1 Hc → W 0 σ Hc)
theorem ps_forY {X : Cx} {k : Nat} {tg iter : Expr} {body : List Stmt} {tgY : TGY} {g : TG} {tb : TS} {pos : Pos} (hp : PassesOwn (model X.prog X.w) X.A X.env X.xe) (hx : XeOk X) (hc : X.calm = true) (hst : X.stack = X.env :: X.outer) (hfr : X.env.frame = some X.env.locals) (hr : Room (k + 1) X.A)
    (hi : PGenY X k iter tgY) (hg : PG X tg g) (hb : PSs X body tb) (hs : ∀ x, foldedSetIterable iter X.env x = pure x := by intro _; rfl) : PS X (.For tg iter body [] pos) (tForY tgY g tb) := by
  refine ⟨fun pins s σ H D I h => ?_⟩
  obtain ⟨W, h⟩ := h
  refine wpAny_For (thn (hi.run pins s σ H _ _ _ I h) fun u s1 h1 => ?_) hs
  obtain ⟨H1, sc, Isc, ⟨a, gn, c, N, qual, scope, f, cd, go, rfl, ha, hgo, hea, hgs, hos, hba, hl, hkp, hcell, wake⟩, w0⟩ := h1
  refine wpAny_pyIter_gen (hgo _ hea) ?_
  -- what is older than the generator
  have b0 := Isc.sz
  have b1 := Isc.lt
  have b2 : ∀ x c, X.env.cells.lookup x = some c → c < sc.heap.objs.size := fun x c e => by
    obtain ⟨v, q⟩ := Isc.cell x c e
    exact q.lt
  have b3 : ∀ p ∈ X.pn ++ pins, p.1 < sc.heap.objs.size := fun p hp => Heap.lt_size (Isc.pin p hp).1
  -- the generator's cells, tracked
  let Cs : Addr → Prop := fun b => ∃ x, (cellsFrom (sc.heap.objs.size + 1) scope.names []).lookup x = some b
  have hCs : ∀ b, Cs b → H1 b = none := fun b ⟨x, e⟩ => Isc.hok.fresh (hcell x b e).1
  have v1 : Vw Cs H1 (add Cs H1) := vw_add hCs
  have hcs : ∀ b, Cs b → ∃ v, s1.heap.IsCell b v := fun b ⟨x, e⟩ => (hcell x b e).2
  have I1 : Inv X pins σ (add Cs H1) s1 := Isc.call' (ch := []) hos ⟨fun b o e _ _ _ => hkp b o e, fun b o e _ _ _ => ⟨o.slots, hkp b o e⟩, fun b o e n _ => by
      have nc : ¬ Cs b := fun ⟨x, c⟩ => absurd (Nat.lt_of_lt_of_le (Heap.lt_size e) (hcell x b c).1) (Nat.lt_irrefl _)
      rw [← v1.off b nc]
      exact n, fun b o e _ => ⟨o, hkp b o e⟩, fun b xs e => v1.up _ _ e, fun b o u e => v1.up _ _ e, fun b ps e => ⟨#[], by rw [v1.up _ _ e]; simp⟩⟩ (v1.okUp (Isc.hok.kept hkp) hcs) hba fun b hb => by cases hb
  -- what holds at each waking
  let C : CW := fun i s H => s.heap.get? a = some go ∧ ∃ σ Hc, Inv X pins σ Hc s ∧ W i σ Hc ∧ Vw Cs H Hc
  have C0 : C 0 (s1.setGen gn .running) H1 := ⟨hea, σ, add Cs H1, Inv.gens (G := (s1.setGen gn .running).gens) I1 (allBare_setGen hba rfl), w0 _ v1.up, v1⟩
  obtain ⟨okX, seg⟩ := wake X.A.in1 C (s1.setGen gn .running) (Room.in1 hr) Isc.ok.frames (fun _ _ e => e) hos (allBare_setGen hba rfl) C0
  generalize eX : gcxY X.prog X.w X.K X.mg X.base N qual scope f cd X.A.in1 X.stack sc H1 [(a, go)] = Xg at okX seg
  have n0 : Xg.s_0.heap.objs.size = sc.heap.objs.size := by subst eX; rfl
  have ho : Xg.outer = X.stack := by subst eX; rfl
  have hex : Xg.ex = [] := by subst eX; rfl
  have hbs : Xg.base = X.base := by subst eX; rfl
  have hpn : Xg.pn = [(a, go)] := by subst eX; rfl
  have hcl : ∀ b, Cs b ↔ ∃ x, Xg.env.cells.lookup x = some b := fun b => by subst eX; exact Iff.rfl
  have hok : ∀ {s₀ : Shared} {Hr H : Hp} {ip : List (Addr × Obj)} {σ : L2.St} {s : Shared}, Inv (gh Xg s₀ Hr) ip σ H s → HOk X.prog X.w H s.heap := fun I => by
    have q := I.hok
    subst eX
    exact q
  have hhk : ∀ {H : Hp} {h : Heap}, HOk X.prog X.w H h → HOk Xg.prog Xg.w H h := fun q => by subst eX; exact q
  have b0' : X.s_0.heap.objs.size ≤ Xg.s_0.heap.objs.size := by rw [n0]; exact b0
  have b1' : X.env.locals < Xg.s_0.heap.objs.size := by rw [n0]; exact b1
  have b2' : ∀ x c, X.env.cells.lookup x = some c → c < Xg.s_0.heap.objs.size := fun x c e => by rw [n0]; exact b2 x c e
  have b3' : ∀ p ∈ X.pn ++ pins, p.1 < Xg.s_0.heap.objs.size := fun p hp => by rw [n0]; exact b3 p hp
  let Zn : Nat → Hp → Hp → Prop := fun i Hr H1 => ∀ σ Hc H1c, W i σ Hc → Ex H1 H1c → Lk Hr H1 Hc H1c → D.nx σ H1c
  let Yn : Nat → Hp → V → Hp → Hp → Prop := fun i Hr x H1 K => Ex K H1 ∧ ∀ σ Hc H1c K', W i σ Hc → Ex H1 H1c → Lk Hr H1 Hc H1c → Ex K' H1c → (∀ b o, K' b = some o → K b = some o ∨ (H1 b = none ∧ ∃ φ, o = .ext φ)) →
      g x σ H1c fun σ2 H2 => tb { D with nx := fun σ3 H3 => W (i + 1) σ3 H3 ∧ Ex K' H3 ∧ Dom H1c H3, ct := fun σ3 H3 => W (i + 1) σ3 H3 ∧ Ex K' H3 ∧ Dom H1c H3, bk := D.nx } σ2 H2
  refine codeAny_forLoop_any (fun m s' => ∃ i σ' H' gs, Inv X pins σ' H' s' ∧ W i σ' H' ∧ s'.heap.get? a = some go ∧ s'.gens[gn]? = some gs ∧
    gs.Goes (model X.prog X.w) X.A.in1 (YR Xg C Zn) (YP Xg C Yn) m (.send .none) (s'.setGen gn .running)) ?_ sizeLine
    ⟨0, σ, add Cs H1, _, I1, w0 _ v1.up, hea, hgs, rfl, seg⟩
  rintro m s3 ⟨i3, σ3, H3, gs, I3, w3, ea3, eg3, go3⟩
  have hgl : gn < s3.gens.size := (Array.getElem?_eq_some_iff.mp eg3).1
  have hdp : X.A.depth < recursionLimit := by have := hr.dp; omega
  refine wpAny_gsz (n := gn + 1) hgl (next_genG (F := fun n s₀ s => YF Xg C Zn n s₀ s) (Er := fun _ _ => False) (n := m) (I3.ok.hd hc) I3.nolimit hdp (hgo _ ea3) eg3 go3 (fun v s₁ gs' hbare hv hsz => ?_) (fun s₁ hf h' hk hsz => ?_) fun _ _ q => q.elim)
  · -- an item
    obtain ⟨i, x, ip, Hr, σg, H4, Kp, hn, rv, Ig, ⟨ea4, σ4, Hc, I4, w4, vc⟩, ⟨hKp, hy⟩, hw⟩ := hv
    have hn4 : ∀ b, Cs b → H4 b = none := fun b c => let ⟨x, e⟩ := (hcl b).mp c; Ig.freeC x b e
    have hc4 : ∀ b, Cs b → ∃ v, s₁.heap.IsCell b v := fun b c => let ⟨x, e⟩ := (hcl b).mp c; Ig.cell x b e
    have v4 : Vw Cs H4 (add Cs H4) := vw_add hn4
    have hKn : ∀ b, Cs b → Kp b = none := fun b c => by
      cases q : Kp b with
      | none => rfl
      | some o => have := hKp b o q; rw [hn4 b c] at this; cases this
    have vK : Vw Cs Kp (add Cs Kp) := vw_add hKn
    have Is : Inv X pins σ4 (add Cs H4) s₁ := sync I4 Ig vc v4 ho hex (v4.okUp (hok Ig) hc4) b0' b1' b2' b3'
    have ea5 : s₁.heap.get? a = some go := (Ig.pin (a, go) (List.mem_append_left _ (by show _ ∈ Xg.pn; rw [hpn]; exact List.mem_singleton.mpr rfl))).1
    have Ip : Inv X (pins ++ gpins Xg ip s₁.heap) σ4 (add Cs H4) s₁ := Is.pins_of fun p hp => (List.mem_append.mp hp).elim (fun z => Is.pin p (List.mem_append_right _ z)) fun z => by
      obtain ⟨g1, g2, g3, g4, g5⟩ := gpins_ok Ig okX ho hst hfr b1' p z
      refine ⟨g1, ?_, g3, g4, g5⟩
      rw [← v4.off p.1 fun c => ?_]
      · exact g2
      · obtain ⟨v, o, e1, e2⟩ := hc4 _ c
        rw [g1] at e1
        cases e1
        exact g5 _ e2
    have Ip' : Inv X (pins ++ gpins Xg ip s₁.heap) σ4 (add Cs H4) (s₁.setGen gn gs') := Inv.gens (G := (s₁.setGen gn gs').gens) Ip (allBare_setGen Ig.bare hbare)
    obtain ⟨go1, nm, qn, ho1, hc1, hd1, hs1⟩ := hgo _ ea5
    refine wpAny_passesOwn hp (go_of (o := go1) (n := "generator") ho1 hc1 hd1 (by decide) ?_)
    -- the way back
    have mem : ∀ {b : Addr}, Own Xg ip b → b ∈ Xg.env.locals :: (Xg.pn ++ ip).map (·.1) := fun {b} h => by
      rcases h with h | ⟨q, hq, h⟩
      · rw [h]; exact List.mem_cons_self
      · exact List.mem_cons_of_mem _ (List.mem_map.mpr ⟨q, hq, h⟩)
    have there : ∀ {b : Addr}, Own Xg ip b → ∃ o, s₁.heap.get? b = some o := fun {b} h => by
      rcases h with h | ⟨q, hq, h⟩
      · obtain ⟨_, ⟨o, _, _, e, _⟩, _⟩ := Ig.loc
        exact ⟨o, by rw [h]; exact e⟩
      · exact ⟨q.2, by rw [← h]; exact (Ig.pin q hq).1⟩
    have finN : ∀ {σ7 : L2.St} {H7 : Hp} {s7 : Shared}, Inv X (pins ++ gpins Xg ip s₁.heap) σ7 H7 s7 → (W (i + 1) σ7 H7 ∧ Ex (add Cs Kp) H7 ∧ Dom (add Cs H4) H7) → (Susp gs' → s7.gens[gn]? = some gs') → ∃ m', m' < m ∧ ∃ i σ' H' gs, Inv X pins σ' H' s7 ∧ W i σ' H' ∧ s7.heap.get? a = some go ∧ s7.gens[gn]? = some gs ∧
        gs.Goes (model X.prog X.w) X.A.in1 (YR Xg C Zn) (YP Xg C Yn) m' (.send .none) (s7.setGen gn .running) := fun {σ7 H7 s7} I7 hW hS => by
      have pinned : ∀ {b o}, Own Xg ip b → s₁.heap.get? b = some o → s7.heap.get? b = some o ∧ H7 b = none := fun {b o} h e => by
        obtain ⟨q1, q2, _⟩ := I7.pin (b, o) (List.mem_append_right _ (List.mem_append_right _ (mem_pinsAt (mem h) e)))
        exact ⟨q1, q2⟩
      have h7c : ∀ b, Cs b → H7 b = some (isC b) := fun b c => hW.2.1 b _ (vK.on b c).2
      have v7 : Vw Cs (del Cs H7) H7 := vw_del h7c
      have hwk : Wk Xg ip s₁ (s7.setGen gn .running) (del Cs H7) := by
        refine ⟨allBare_setGen I7.bare rfl, fun b o e => let ⟨q1, q2⟩ := I7.bs b o (by rw [← hbs]; exact e); ⟨q1, v7.none q2⟩, ?_, fun b hb => v7.none (I7.stkFree b (by rw [← ho]; exact hb)), fun b o h e => (pinned h e).1, fun b h => ?_, fun x c e => ?_, hhk (v7.okDown I7.hok)⟩
        · rw [hbs, ho]; exact I7.stack
        · obtain ⟨o, e⟩ := there h
          exact v7.none (pinned h e).2
        · have cc : Cs c := (hcl c).mpr ⟨x, e⟩
          have q : ObjOk X.prog X.w H7 s7.heap c (isC c) := I7.hok c _ (h7c c cc)
          exact ⟨q.1, (v7.on c cc).1⟩
      have oa : Own Xg ip a := .inr ⟨(a, go), List.mem_append_left _ (by rw [hpn]; exact List.mem_singleton.mpr rfl), rfl⟩
      have ea7 := (pinned oa ea5).1
      have I7u : Inv X pins σ7 H7 s7 := I7.unpinned
      have hK7 : Ex Kp (del Cs H7) := fun b o e => by
        have nc : ¬ Cs b := fun c => by rw [hKn b c] at e; cases e
        rw [v7.off b nc]
        exact hW.2.1 b o (vK.up _ _ e)
      have hD7 : Dom H4 (del Cs H7) := fun b e => by
        have nc : ¬ Cs b := fun c => e (hn4 b c)
        rw [v7.off b nc]
        exact hW.2.2 b (by rw [← v4.off b nc]; exact e)
      obtain ⟨k1, k2⟩ := hw (s7.setGen gn .running) (del Cs H7) hwk ⟨ea7, σ7, H7, Inv.gens (G := (s7.setGen gn .running).gens) I7u (allBare_setGen I7.bare rfl), hW.1, v7⟩ hK7 hD7
      cases m with
      | zero => exact k1.elim
      | succ m =>
        have sus : Susp gs' := by
          cases gs' with
          | fresh c' => exact absurd k2.1 (by intro q; injection q with q; cases q)
          | suspended _ _ _ _ _ _ => trivial
          | running => exact k1.elim
          | finished => exact k1.elim
        exact ⟨m, Nat.lt_succ_self m, i + 1, σ7, H7, gs', I7u, hW.1, ea7, hS sus, k1⟩
    have body : ∀ (s6 : Shared) (σ6 : L2.St) (H6 : Hp), Inv X (pins ++ gpins Xg ip s₁.heap) σ6 H6 s6 → (Susp gs' → s6.gens[gn]? = some gs') → tb { D with nx := fun σ3 H3 => W (i + 1) σ3 H3 ∧ Ex (add Cs Kp) H3 ∧ Dom (add Cs H4) H3, ct := fun σ3 H3 => W (i + 1) σ3 H3 ∧ Ex (add Cs Kp) H3 ∧ Dom (add Cs H4) H3, bk := D.nx } σ6 H6 →
        wpAny (model X.prog X.w) X.A (execs body X.env) (fun fl s7 => SP X (pins ++ gpins Xg ip s₁.heap) { D with nx := fun σ3 H3 => W (i + 1) σ3 H3 ∧ Ex (add Cs Kp) H3 ∧ Dom (add Cs H4) H3, ct := fun σ3 H3 => W (i + 1) σ3 H3 ∧ Ex (add Cs Kp) H3 ∧ Dom (add Cs H4) H3, bk := D.nx } fl s7 ∧ (Susp gs' → s7.gens[gn]? = some gs')) X.xe s6 := fun s6 σ6 H6 I6 hS q6 =>
      wpAny_sleep (wpAny_mono (hb.run _ (wg s6 (s6.gens.map blank)) σ6 H6 _ (Inv.gens I6 (allBare_blank I6.bare)) q6) (fun fl s7 h7 G2 gr2 ks2 => by
        refine ⟨?_, fun su => ks2 gn gs' (hS su) su⟩
        cases fl with
        | next => obtain ⟨σ7, H7, I7, q7⟩ := h7; exact ⟨σ7, H7, Inv.gens I7 (gr2.bare I7.bare), q7⟩
        | cont => obtain ⟨σ7, H7, I7, q7⟩ := h7; exact ⟨σ7, H7, Inv.gens I7 (gr2.bare I7.bare), q7⟩
        | brk => obtain ⟨σ7, H7, I7, q7⟩ := h7; exact ⟨σ7, H7, Inv.gens I7 (gr2.bare I7.bare), q7⟩
        | ret v => obtain ⟨x7, σ7, H7, I7, r7, q7⟩ := h7; exact ⟨x7, σ7, H7, Inv.gens I7 (gr2.bare I7.bare), r7, q7⟩) fun e s' hxe G1 gr _ => hx e s' G1 gr hxe)
    have hKd : ∀ b o, add Cs Kp b = some o → Kp b = some o ∨ (H4 b = none ∧ ∃ φ, o = .ext φ) := fun b o e => by
      by_cases c : Cs b
      · rw [(vK.on b c).2] at e
        exact .inr ⟨hn4 b c, _, (Option.some.inj e).symm⟩
      · rw [← vK.off b c] at e
        exact .inl e
    have hat : (s₁.setGen gn gs').gens[gn]? = some gs' := setGen_at (by rw [setGen_size] at hsz; exact hsz)
    refine wpAny_passesOwn hp (wpAny_sleep (wpAny_mono (hg.run _ (wg (s₁.setGen gn gs') ((s₁.setGen gn gs').gens.map blank)) σ4 (add Cs H4) x v _ (Inv.gens Ip' (allBare_blank Ip'.bare)) rv (hy σ4 Hc (add Cs H4) (add Cs Kp) w4 v4.up (vc.lk v4) (vK.ex v4 hKp) hKd)) (fun _ s6 h6 G1 gr ks => ?_) fun e s' hxe G1 gr _ => hx e s' G1 gr hxe))
    obtain ⟨σ6, H6, I6, q6⟩ := h6
    refine wpAny_passesOwn hp (wpAny_mono (body (wg s6 G1) σ6 H6 (Inv.gens I6 (gr.bare I6.bare)) (fun su => ks gn gs' hat su) q6) (fun fl s7 ⟨h7, hS⟩ => ?_) fun _ _ q => q)
    cases fl with
    | next => obtain ⟨σ7, H7, I7, q7⟩ := h7; exact finN I7 q7 hS
    | cont => obtain ⟨σ7, H7, I7, q7⟩ := h7; exact finN I7 q7 hS
    | brk => obtain ⟨σ7, H7, I7, q7⟩ := h7; exact ⟨σ7, H7, I7.unpinned, q7⟩
    | ret v => obtain ⟨x7, σ7, H7, I7, r7, q7⟩ := h7; exact ⟨x7, σ7, H7, I7.unpinned, r7, q7⟩
  · -- the end
    obtain ⟨i, Hr, ip, σg, H4, hn, Ig, ⟨ea4, σ4, Hc, I4, w4, vc⟩, hz⟩ := hf
    have hn4 : ∀ b, Cs b → H4 b = none := fun b c => let ⟨x, e⟩ := (hcl b).mp c; Ig.freeC x b e
    have hc4 : ∀ b, Cs b → ∃ v, s₁.heap.IsCell b v := fun b c => let ⟨x, e⟩ := (hcl b).mp c; Ig.cell x b e
    have v4 : Vw Cs H4 (add Cs H4) := vw_add hn4
    have Is : Inv X pins σ4 (add Cs H4) s₁ := sync I4 Ig vc v4 ho hex (v4.okUp (hok Ig) hc4) b0' b1' b2' b3'
    have Ie : Inv X pins σ4 (add Cs H4) { s₁.setGen gn .finished with heap := h' } := Is.call' (ch := []) rfl (Un.kept hk) (Is.hok.kept hk) (allBare_setGen Is.bare rfl) fun b hb => by cases hb
    exact wpAny_execs_nil ⟨σ4, add Cs H4, Ie, hz σ4 Hc _ w4 v4.up (vc.lk v4)⟩
end SL

set_option Elab.async false
set_option linter.all false
set_option maxRecDepth 100000
set_option maxHeartbeats 4000000
/-! A generator def's promise for any consumer, by its body; its calls. -/
namespace SL
open PySem PySem.Spec PyProof.Rows L2 GenW BC Evl

/-- what is wanted of exceptions plays no part in the invariant -/
theorem reXe {X : Cx} {xe : Value → Shared → Prop} {pins : List (Addr × Obj)} {σ : L2.St} {H : Hp} {s : Shared} (I : Inv X pins σ H s) : Inv { X with xe := xe } pins σ H s :=
  ⟨⟨I.ok.mod, I.ok.kind, I.ok.glob, I.ok.blt, I.ok.above, I.ok.inj, I.ok.has, I.ok.cab, I.ok.hd, I.ok.frames, I.ok.stk, I.ok.exf, I.ok.bs, I.ok.bsz, I.ok.noex, I.ok.exfs, I.ok.funs, I.ok.frf⟩,
    I.os, I.bare, I.base, I.loc, I.cell, I.free, I.freeC, I.pin, I.hok, I.len⟩
/-- its own present as its entry -/
theorem rebase {X : Cx} {ip : List (Addr × Obj)} {σ : L2.St} {H : Hp} {s : Shared} (I : Inv X ip σ H s) (hf : ∀ b ∈ X.fs, H b = none) : Inv (gh X s H) ip σ H s where
  ok := gh_ok I.ok (fun b o e => I.bs b o e) I.funs hf
  os := rfl
  bare := I.bare
  base := Un.kept fun b u q => (of_cut q).2
  loc := I.loc
  cell := I.cell
  free := I.free
  freeC := I.freeC
  pin := I.pin
  hok := I.hok
  len := I.len
section
variable {P : Program} {w : World} {K : PySem.W.Frag} {mg : Str → Option Value} {base : Heap} {k : Nat}
theorem gfnY_of {f : Addr} {name qual : Str} {params : Arguments} {body : List Stmt} {scope : Scope} {dV kV doc pm cdv ct oc : Value} {an od : Option Addr} {osl : Array (Option Value)} {N ps : List Str} {sp : SpY}
    (lk : K.lookup f = some ⟨oc, od, .func (PySem.W.fnOf name qual params body scope dV kV doc pm an cdv ct), osl⟩) (hcd : PySem.W.codeIn K cdv qual = true) (S : GScope N ps scope)
    (len : ∀ vs H yl z, sp vs H yl z → vs.length = ps.length)
    (hbody : ∀ (A : Around) (outer : List Env) (s : Shared) (H : Hp) (vs : List V) (yl : Nat → Hp → V → Hp → Hp → Prop) (z : Nat → Hp → Hp → Prop) (pn : List (Addr × Obj)), Room k (A.deeper (envOfC qual scope s.heap.objs.size f cdv)) → sp vs H yl z →
      ∃ t, YSs (gcxY P w K mg base N qual scope f cdv A outer s H pn) body t ∧ t { yl := yl, nx := fun i Hr _ H' => z i Hr H', rt := fun i Hr v H' => v = .non ∧ z i Hr H' } 0 H (start N vs) H) :
    GFnY P w K mg base (k + 1) f (PySem.W.fnOf name qual params body scope dV kV doc pm an cdv ct) ps sp := by
  refine ⟨len, fun A outer s H args us vs yl z hr e0 hb r hsp => ?_⟩
  have hl := len _ _ _ _ hsp
  have kinS : K.In s.heap := e0.mod.kin.keeps (fun b o e => (e0.bs b o e).1)
  have limS : s.heap.NoLimit := e0.mod.nolimit.keeps (fun b o e => (e0.bs b o e).1)
  have kinds : ∀ y ∈ ps.zip us, scope.names.lookup y.1 = some .local ∨ (scope.names.lookup y.1 = some .cell ∧ ((cellsFrom (s.heap.objs.size + 1) scope.names []).lookup y.1).isSome = true) := by
    rintro ⟨n, v⟩ hy
    have hn := (List.of_mem_zip hy).1
    rcases S.par n hn with q | q
    · exact Or.inl q
    · exact Or.inr ⟨q, PySem.W.cellsFrom_some _ _ _ (Or.inl q)⟩
  refine codeAny_call_generator hr.depth (kinS _ _ lk) rfl S.co S.gen rfl (PySem.W.codeRec_of kinS hcd) (hb _ _ _ _ ?_)
  refine wpAny_newFunctionEnv_cells S.kind kinds (fun env he s1 x => ?_)
  subst he
  have x0 := x
  refine ⟨limS.keeps x.toInCall.keep, ?_⟩
  have kp1 : ∀ b o, s.heap.get? b = some o → s1.heap.get? b = some o := x.toInCall.keep
  obtain ⟨h1, tk, es1, _⟩ := x.done
  have os1 : s1.os = s.os := by rw [es1]
  have gen1 : s1.gens = s.gens := by rw [es1]
  have lt1 : s.heap.objs.size < s1.heap.objs.size := x.toInCall.ns.lt
  have bare1 : AllBare s1.gens := by rw [gen1]; exact e0.bare
  have main : ∀ (go : Obj) (nm qn : Value) (tk2 : Nat), go.cls = .type "generator" → go.data = .fields #[.int s1.gens.size 0, nm, qn] → go.slots = #[] → (∀ h : Heap, (h.push go).get? h.objs.size = some go) →
      GMadeY P w K mg base (k + 1) outer H s yl z (.ref s1.heap.objs.size) { s1 with gens := s1.gens.push (.fresh (.func body (envOfC qual scope s.heap.objs.size f cdv))), toks := tk2, heap := s1.heap.push go } := by
    intro go nm qn tk2 c1 c2 c3 c4
    have old : ∀ b o, s1.heap.get? b = some o → (s1.heap.push go).get? b = some o := fun b o e => Heap.get?_push_of_some _ e
    have bare2 : AllBare (s1.gens.push (.fresh (.func body (envOfC qual scope s.heap.objs.size f cdv)))) := AllBare.push bare1 rfl
    refine ⟨s1.heap.objs.size, s1.gens.size, _, N, qual, scope, f, cdv, go, rfl, Nat.le_of_lt lt1, fun h e => ⟨go, nm, qn, e, c1, c2, c3⟩, c4 _, Array.getElem?_push_size .., os1, bare2, (limS.keeps kp1).keeps old, fun b o e => old b o (kp1 b o e), fun x c e => ?_, ?_⟩
    · obtain ⟨ob, e1, e2⟩ := x0.cell x c e
      exact ⟨Nat.le_of_lt (x0.above x c (PySem.W.mem_lookup e)), _, ob, old _ _ e1, e2⟩
    intro Aw C s2 hrw hfr kp2 hos hba hC
    have e1 : Env0 P w K mg base Aw outer s H := ⟨hfr, e0.mod, e0.bs, e0.bsz, e0.funs, e0.frf, e0.hok, e0.bare⟩
    have I1 : Inv (gcxOf P w K mg base N qual scope f cdv Aw outer s H E0 []) [] (start N vs) H s1 := inv_startG S hrw.hd e1 hl r x
    have I2 : Inv (gcxOf P w K mg base N qual scope f cdv Aw outer s H E0 []) [] (start N vs) H s2 := by
      have all : ∀ b o, s1.heap.get? b = some o → s2.heap.get? b = some o := fun b o e => kp2 b o (old b o e)
      exact I1.call' (ch := []) (hos.trans os1.symm) (Un.kept all) (I1.hok.kept all) hba (fun b hb => by cases hb)
    have hgo : s2.heap.get? s1.heap.objs.size = some go := kp2 _ _ (c4 _)
    have I3 : Inv (gcxOf P w K mg base N qual scope f cdv Aw outer s H E0 [(s1.heap.objs.size, go)]) [] (start N vs) H s2 := Inv.pinnedG I2 (fun p hp => by
      have hp' : p = (s1.heap.objs.size, go) := by
        rcases List.mem_append.mp hp with q | q
        · exact List.mem_singleton.mp q
        · cases q
      subst hp'
      exact ⟨hgo, I1.hok.fresh (Nat.le_refl _), Nat.ne_of_gt lt1, I1.nofs (Nat.le_refl _), fun v q => by rw [c2] at q; cases q⟩)
    have I4 : Inv (gcxY P w K mg base N qual scope f cdv Aw outer s H [(s1.heap.objs.size, go)]) [] (start N vs) H s2 := reXe I3
    have I5 := rebase I4 e0.frf
    refine ⟨I4.ok, ?_⟩
    obtain ⟨t, ht, hq⟩ := hbody Aw outer s H vs yl z [(s1.heap.objs.size, go)] (hrw.deeper _) hsp
    refine seg_func ?_
    refine ht.run Aw [] C _ sizeLine 0 s2 H _ [] _ _ id id s2 (start N vs) H _ ⟨I4.ok, fun _ _ q => q, over_func, rfl, rfl, rfl⟩ (Nat.add_zero _) (fun n i s₀ Hr s' fl hn hC' hs => ?_) I5 hC hq
    cases fl with
    | brk => obtain ⟨_, _, _, q⟩ := hs; exact False.elim q
    | cont => obtain ⟨_, _, _, q⟩ := hs; exact False.elim q
    | next =>
      obtain ⟨σ', H', I', q⟩ := hs
      exact seg_end (.ok (.ret .none)) (.inl ⟨.inl rfl, i, Hr, [], σ', H', hn, I', hC', q⟩)
    | ret u =>
      obtain ⟨v, σ', H', I', rv, ev, q⟩ := hs
      subst ev
      obtain rfl : u = Value.none := rv
      exact seg_end (.ok (.ret .none)) (.inl ⟨.inl rfl, i, Hr, [], σ', H', hn, I', hC', q⟩)
  exact main _ _ _ _ rfl rfl rfl (fun h => Heap.get?_push_size _ rfl)

theorem Fun.yok {x qual : Str} {st : Stmt} {f : Addr} {fd : FuncData} {N ps : List Str} {sp : SpY} (F : Fun K x qual st f fd) (S : GScope N ps (defScope st)) (len : ∀ vs H yl z, sp vs H yl z → vs.length = ps.length)
    (hbody : ∀ (cdv : Value) (A : Around) (outer : List Env) (s : Shared) (H : Hp) (vs : List V) (yl : Nat → Hp → V → Hp → Hp → Prop) (z : Nat → Hp → Hp → Prop) (pn : List (Addr × Obj)), Room k (A.deeper (envOfC qual (defScope st) s.heap.objs.size f cdv)) → sp vs H yl z →
      ∃ t, YSs (gcxY P w K mg base N qual (defScope st) f cdv A outer s H pn) (defBody st) t ∧ t { yl := yl, nx := fun i Hr _ H' => z i Hr H', rt := fun i Hr v H' => v = .non ∧ z i Hr H' } 0 H (start N vs) H) : GFnY P w K mg base (k + 1) f fd ps sp := by
  obtain ⟨oc, od, kV, doc, pm, an, cdv, ct, osl, rfl, lk, hcd⟩ := F.ex
  exact gfnY_of lk hcd S len (fun A outer s H vs yl z pn hr hsp => hbody cdv A outer s H vs yl z pn hr hsp)
end
section
variable {X : Cx} {k : Nat} {f : Addr} {fd : FuncData} {ps ks : List Str} {sp : SpY} {dvs : List V} {ds : List Value} {x : Str} {p pos : Pos}
def tCallY (sp : SpY) (dvs : List V) (t : TA) : TGY := fun σ H yl z st => t σ H fun vs H1 => sp (vs ++ dvs) H1 yl z ∧ st H1
theorem pgy_call {e : Expr} {es : List Expr} {t : TA} (F : GFnY X.prog X.w X.K X.mg X.base k f fd ps sp) (hr : Room k X.A) (hg : Gl X x) (hm : X.mg x = some (.ref f)) (hk : PySem.W.keepIn X.K (.ref f) = true) (hb : Binds X.K fd ps ds) (hd : Vals dvs ds)
    (ha : PA X (e :: es) t) (hdb : (x == ("__debug__" : Str)) = false := by decide) (he : starEach (e :: es) X.env = (false, eval e X.env) :: starEach es X.env := by rfl) (hpl : (backTo pos (starEach es X.env)).any (·.1) = false := by rfl) :
    PGenY X k (.Call (.Name x p) (e :: es) [] pos) (tCallY sp dvs t) := by
  refine ⟨fun pins s σ H yl z start I h => ?_⟩
  refine wpAny_Call_Name_kw (ld_glob I hg hm ?_ hdb)
  refine PySem.W.callWith_K (h₀ := X.base) I.ok.mod.kin hk (thn (ha.run pos pins s σ H _ I h) (fun us s1 hh => ?_)) he hpl
  obtain ⟨vs, H1, I1, r, q, q0⟩ := hh
  refine ⟨I1.kIn, ?_⟩
  have r2 : Vals (vs ++ dvs) (us ++ ds) := Vals.append r hd
  have sz : (us ++ ds).length = ps.length := by rw [← r2.length]; exact F.len _ _ _ _ q
  refine wpAny_call (codeAny_mono (F.run X.A X.stack s1 H1 ⟨us, []⟩ (us ++ ds) (vs ++ dvs) yl z hr I1.env0 (hb s1 us I1.kIn sz) r2 q) (fun r s' hq => ?_))
  cases r with
  | error e => exact False.elim hq
  | ok fl => cases fl with
    | ret u => exact ⟨H1, s1, I1, hq, q0⟩
    | next => exact False.elim hq
    | brk => exact False.elim hq
    | cont => exact False.elim hq
/-- g(name = e, ..): keywords alone -/
def tCallYK (sp : SpY) (gV : List V → List V → List V) (tk : TA) : TGY := fun σ H yl z st => tk σ H fun zs H1 => sp (gV [] zs) H1 yl z ∧ st H1
theorem pgy_callK {kws : List Keyword} {tk : TA} {g : List Value → List Value → List Value} {gV : List V → List V → List V} (F : GFnY X.prog X.w X.K X.mg X.base k f fd ps sp) (hr : Room k X.A) (hg : Gl X x) (hm : X.mg x = some (.ref f)) (hk : PySem.W.keepIn X.K (.ref f) = true) (hb : KBinds X.K fd ps ks g gV)
    (hkw : PK X kws tk) (hall : (backToKw pos (keywordEach kws X.env)).all (·.1.isSome) = true := by rfl) (hks : (backToKw pos (keywordEach kws X.env)).filterMap (·.1) = ks := by rfl)
    (hdb : (x == ("__debug__" : Str)) = false := by decide)
    (hpl : ((backTo pos (starEach [] X.env)).any (·.1) || (backToKw pos (keywordEach kws X.env)).any (·.1.isNone)) = false := by rfl) :
    PGenY X k (.Call (.Name x p) [] kws pos) (tCallYK sp gV tk) := by
  refine ⟨fun pins s σ H yl z start I h => ?_⟩
  refine wpAny_Call_Name_kw (ld_glob I hg hm ?_ hdb)
  refine PySem.W.callWith_KW0 (h₀ := X.base) I.ok.mod.kin hk hall (thn (hkw.run pos pins s σ H _ I h) (fun ws s2 hh => ?_)) hpl
  obtain ⟨zs, H2, I2, rz, q, q0⟩ := hh
  refine ⟨I2.kIn, ?_⟩
  rw [hks]
  have r2 := hb.rel (us := []) (vs := []) .nil rz
  have sz : (g [] ws).length = ps.length := by rw [← r2.length]; exact F.len _ _ _ _ q
  refine wpAny_call (codeAny_mono (F.run X.A X.stack s2 H2 ⟨[], ks.zip ws⟩ (g [] ws) (gV [] zs) yl z hr I2.env0 (hb.to s2 [] ws I2.kIn sz) r2 q) (fun r s' hq => ?_))
  cases r with
  | error e => exact False.elim hq
  | ok fl => cases fl with
    | ret u => exact ⟨H2, s2, I2, hq, q0⟩
    | next => exact False.elim hq
    | brk => exact False.elim hq
    | cont => exact False.elim hq
end
/-! ### the part of a heap that must stand -/
def part (L : List Addr) (H : Hp) : Hp := fun b => if b ∈ L then H b else none
theorem part_ex {L : List Addr} {H : Hp} : Ex (part L H) H := fun b o h => by
  unfold part at h
  by_cases z : b ∈ L
  · rw [if_pos z] at h; exact h
  · rw [if_neg z] at h; cases h
theorem part_at {L : List Addr} {H : Hp} {b : Addr} {o : HO} (m : b ∈ L) (h : H b = some o) : part L H b = some o := by
  unfold part
  rw [if_pos m]; exact h
theorem of_part {L : List Addr} {H : Hp} {b : Addr} {o : HO} (h : part L H b = some o) : b ∈ L ∧ H b = some o := by
  unfold part at h
  by_cases z : b ∈ L
  · rw [if_pos z] at h; exact ⟨z, h⟩
  · rw [if_neg z] at h; cases h
/-! ### readings -/
def LoopY (J : It) (g : TG) (tb : TY) (D : YE) (i : Nat) (Hr : Hp) (σ : L2.St) (H1 : Hp) : Prop := ∃ W : Nat → Nat → Nat → Hp → L2.St → Hp → Prop, (∃ m, W 0 m i Hr σ H1) ∧ ∀ j m i Hr σ H, W j m i Hr σ H →
  (J.stop j H ∧ D.nx i Hr σ H) ∨ (J.go j H ∧ ∃ N : Nat → Hp → L2.St → Hp → Prop, (∀ i' Hr' σ' H', N i' Hr' σ' H' → ∃ m', m' < m ∧ W (j + 1) m' i' Hr' σ' H') ∧ ∀ x H', J.yld j H x H' → g x σ H' fun σ2 H2 => tb { D with nx := N, ct := N, bk := D.nx } i Hr σ2 H2)
section
variable {i : Nat} {Hr : Hp} {σ : L2.St} {H : Hp} {Q : VK} {D : YE} {Dp : Ends} {yl : Nat → Hp → V → Hp → Hp → Prop} {z : Nat → Hp → Hp → Prop} {st : Hp → Prop}
theorem x_yfor {wi : TI} {g : TG} {tb : TY} : tYFor wi g tb D i Hr σ H = wi σ H fun J H1 => LoopY J g tb D i Hr σ H1 := rfl
theorem x_yplain {t : TS} : tYPlain t D i Hr σ H = t { nx := D.nx i Hr, rt := D.rt i Hr, bk := D.bk i Hr, ct := D.ct i Hr } σ H := rfl
theorem x_ythen {t u : TY} : tYThen t u D i Hr σ H = t { D with nx := fun i' Hr' σ' H' => u D i' Hr' σ' H' } i Hr σ H := rfl
theorem x_y0 : tY0 D i Hr σ H = D.nx i Hr σ H := rfl
theorem x_yyield {ws : List Nat} {te : TE} : tYYield ws te D i Hr σ H = (i < sizeLine ∧ te σ H fun x H1 => ∃ K, D.yl i Hr x H1 K ∧ ∀ H2, Ex K H2 → Dom H1 H2 → D.nx (i + 1) H2 (wipe σ ws) H2) := rfl
theorem x_ywhile {c : TT} {tb : TY} : tYWhile c tb D i Hr σ H = ∃ W : Nat → Nat → Hp → L2.St → Hp → Prop, (∃ m, W m i Hr σ H) ∧ ∀ m i Hr σ H, W m i Hr σ H →
  c σ H fun b H1 => if b = true then ∃ N : Nat → Hp → L2.St → Hp → Prop, (∀ i' Hr' σ' H', N i' Hr' σ' H' → ∃ m', m' < m ∧ W m' i' Hr' σ' H') ∧ tb { D with nx := N, ct := N, bk := D.nx } i Hr σ H1 else D.nx i Hr σ H1 := rfl
theorem x_callY {sp : SpY} {dvs : List V} {t : TA} : tCallY sp dvs t σ H yl z st = t σ H fun vs H1 => sp (vs ++ dvs) H1 yl z ∧ st H1 := rfl
theorem x_callYK {sp : SpY} {gV : List V → List V → List V} {tk : TA} : tCallYK sp gV tk σ H yl z st = tk σ H fun zs H1 => sp (gV [] zs) H1 yl z ∧ st H1 := rfl
end
theorem lgy_list {K : PySem.W.Frag} {a : Addr} {xs : List V} {g : TG} {tb : TY} {D : YE} {i : Nat} {Hr : Hp} {σ : L2.St} {H : Hp} (Pv : Nat → Nat → Hp → L2.St → Hp → Prop) (h0 : Pv 0 i Hr σ H) (hl : ∀ j i Hr σ H, j ≤ xs.length → Pv j i Hr σ H → SqL K H a xs)
    (hs : ∀ j v i Hr σ H, xs[j]? = some v → Pv j i Hr σ H → g v σ H fun σ2 H2 => tb { D with nx := Pv (j + 1), ct := Pv (j + 1), bk := D.nx } i Hr σ2 H2) (hd : ∀ i Hr σ H, Pv xs.length i Hr σ H → D.nx i Hr σ H) :
    LoopY (Itl K a) g tb D i Hr σ H := by
  refine ⟨fun j m i Hr σ H => m = xs.length - j ∧ j ≤ xs.length ∧ Pv j i Hr σ H, ⟨xs.length, by simp, Nat.zero_le _, h0⟩, ?_⟩
  rintro j m i Hr σ H ⟨rfl, hj, p⟩
  have q := hl j i Hr σ H hj p
  by_cases hlt : j < xs.length
  · refine .inr ⟨⟨xs, xs[j], q, by simp [hlt]⟩, Pv (j + 1), fun i' Hr' σ' H' p' => ⟨xs.length - (j + 1), by omega, rfl, hlt, p'⟩, fun x H' y => ?_⟩
    obtain ⟨e, y⟩ := y
    subst e
    exact hs j x i Hr σ _ (y xs q) p
  · have e : j = xs.length := by omega
    subst e
    exact .inl ⟨⟨xs, q, Nat.le_refl _⟩, hd i Hr σ H p⟩
/-! ### the cells' slots -/
theorem cells_mem {x : Str} {c : Addr} : ∀ (names : List (Str × NameKind)) (n : Nat) (acc : List (Str × Addr)), (x, c) ∈ cellsFrom n names acc → (x, c) ∈ acc ∨ (x, NameKind.cell) ∈ names
  | [], _, _, h => .inl h
  | (nm, k) :: r, n, acc, h => by
    unfold cellsFrom at h
    by_cases hk : k = .cell
    · subst hk
      rw [if_pos (by decide)] at h
      rcases cells_mem r _ _ h with q | q
      · rcases List.mem_cons.mp q with e | q
        · cases e
          exact .inr List.mem_cons_self
        · exact .inl q
      · exact .inr (List.mem_cons_of_mem _ q)
    · rw [if_neg (by simpa using hk)] at h
      exact (cells_mem r _ _ h).imp id (List.mem_cons_of_mem _)
theorem cellsIn_by {P : Program} {w : World} {K : PySem.W.Frag} {mg : Str → Option Value} {base : Heap} {N : List Str} {qual : Str} {scope : Scope} {f : Addr} {cd : Value} {A : Around} {outer : List Env} {s : Shared} {H : Hp} {pn : List (Addr × Obj)} {ws : List Nat}
    (h : (N.zipIdx.all fun p => !(scope.names.any fun y => decide (y.1 = p.1) && decide (y.2 = NameKind.cell)) || ws.contains p.2) = true) : CellsIn (gcxY P w K mg base N qual scope f cd A outer s H pn) ws := by
  rintro i x hx ⟨c, hc⟩
  have m := PySem.W.mem_lookup (show (cellsFrom (s.heap.objs.size + 1) scope.names []).lookup x = some c from hc)
  rcases cells_mem _ _ _ m with q | q
  · cases q
  · have a := List.all_eq_true.mp h (x, i) (List.mem_zipIdx_iff_getElem?.mpr hx)
    rcases Bool.or_eq_true_iff.mp a with b | b
    · exfalso
      have : (scope.names.any fun y => decide (y.1 = x) && decide (y.2 = NameKind.cell)) = true := List.any_eq_true.mpr ⟨_, q, by simp⟩
      rw [this] at b
      cases b
    · simpa using b
end SL

set_option Elab.async false
set_option linter.all false
set_option maxRecDepth 100000
set_option maxHeartbeats 4000000
/-! the trails from a page in list order, and how many they are (orders.py, plain) -/
namespace TF
open BC
/-- the pages that can come next -/
def kids (G : Grid) (t : List Nat) : List Nat := (row G (lst t)).filter fun u => decide (u ∉ t)
/-- .. behind one of them -/
def later (G : Grid) (q : List Nat) (x : Nat) : List Nat := (row G (lst q)).filter fun u => decide (x < u) && decide (u ∉ q)
/-- what waits when t was taken, the next one first; t turned round -/
def restR (G : Grid) : List Nat → List (List Nat)
  | [] => []
  | [_] => []
  | x :: y :: r => ((later G (y :: r).reverse x).map fun u => (y :: r).reverse ++ [u]) ++ restR G (y :: r)
def rest (G : Grid) (t : List Nat) : List (List Nat) := restR G t.reverse
def stk (G : Grid) (t : List Nat) : List (List Nat) := ((kids G t).map fun u => t ++ [u]) ++ rest G t
def Asc (G : Grid) : Prop := ∀ i, (row G i).Pairwise (· < ·)
theorem rest_one (G : Grid) (p : Nat) : rest G [p] = [] := rfl
theorem rest_snoc {G : Grid} {q : List Nat} (hq : q ≠ []) (x : Nat) : rest G (q ++ [x]) = ((later G q x).map fun u => q ++ [u]) ++ rest G q := by
  unfold rest
  rw [List.reverse_append, List.reverse_singleton, List.singleton_append]
  obtain ⟨y, r, e⟩ : ∃ y r, q.reverse = y :: r := by
    cases h : q.reverse with
    | nil => exact absurd (List.reverse_eq_nil_iff.mp h) hq
    | cons y r => exact ⟨y, r, rfl⟩
  rw [e]
  show ((later G (y :: r).reverse x).map fun u => (y :: r).reverse ++ [u]) ++ restR G (y :: r) = _
  rw [← e, List.reverse_reverse]
/-- filtering an ascending list behind its first kept element -/
theorem filter_tail {l us : List Nat} {P : Nat → Bool} {u : Nat} (ha : l.Pairwise (· < ·)) (h : l.filter P = u :: us) : l.filter (fun y => decide (u < y) && P y) = us := by
  induction l with
  | nil => cases h
  | cons a l ih =>
    obtain ⟨h1, h2⟩ := List.pairwise_cons.mp ha
    cases c : P a with
    | true =>
      rw [List.filter_cons_of_pos c] at h
      obtain ⟨rfl, rfl⟩ := List.cons.inj h
      rw [List.filter_cons_of_neg (by simp)]
      refine List.filter_congr fun y hy => ?_
      rw [decide_eq_true (h1 y hy), Bool.true_and]
    | false =>
      rw [List.filter_cons_of_neg (by rw [c]; decide)] at h
      rw [List.filter_cons_of_neg (by rw [c]; simp)]
      exact ih h2 h
theorem later_kids {G : Grid} (ha : Asc G) {t : List Nat} {u : Nat} {us : List Nat} (h : kids G t = u :: us) : later G t u = us := filter_tail (ha _) h
theorem later_later {G : Grid} (ha : Asc G) {q : List Nat} {x u : Nat} {us : List Nat} (h : later G q x = u :: us) : later G q u = us := by
  have h1 := filter_tail (ha _) h
  unfold later
  rw [← h1]
  refine List.filter_congr fun y _ => ?_
  have hx : x < u := by
    have m : u ∈ later G q x := by rw [h]; exact List.mem_cons_self
    unfold later at m
    have := (List.mem_filter.mp m).2
    rw [Bool.and_eq_true, decide_eq_true_eq] at this
    exact this.1
  by_cases c : u < y
  · rw [decide_eq_true c, decide_eq_true (show x < y by omega), Bool.true_and, Bool.true_and]
  · rw [decide_eq_false c, Bool.false_and, Bool.false_and]
/-- the head's own rest is the tail -/
theorem rest_head {G : Grid} (ha : Asc G) : ∀ (n : Nat) {t u : List Nat} {R : List (List Nat)}, t.length ≤ n → rest G t = u :: R → rest G u = R
  | 0, t, u, R, hn, h => by
    have : t = [] := List.length_eq_zero_iff.mp (by omega)
    subst this
    cases h
  | n + 1, t, u, R, hn, h => by
    by_cases ht : t = []
    · subst ht; cases h
    obtain ⟨q, x, rfl⟩ : ∃ q x, t = q ++ [x] := ⟨_, _, (List.dropLast_concat_getLast ht).symm⟩
    rw [List.length_append, List.length_singleton] at hn
    by_cases hq : q = []
    · subst hq; cases h
    rw [rest_snoc hq] at h
    cases c : later G q x with
    | nil =>
      rw [c] at h
      exact rest_head ha n (by omega) h
    | cons y ys =>
      rw [c, List.map_cons, List.cons_append] at h
      obtain ⟨rfl, rfl⟩ := List.cons.inj h
      rw [rest_snoc hq, later_later ha c]
theorem stk_head {G : Grid} (ha : Asc G) {t u : List Nat} {R : List (List Nat)} (ht : t ≠ []) (h : stk G t = u :: R) : rest G u = R := by
  unfold stk at h
  cases c : kids G t with
  | nil =>
    rw [c] at h
    exact rest_head ha _ (Nat.le_refl _) h
  | cons y ys =>
    rw [c, List.map_cons, List.cons_append] at h
    obtain ⟨rfl, rfl⟩ := List.cons.inj h
    rw [rest_snoc ht, later_kids ha c]
/-- one trail behind another -/
def nxt (G : Grid) (t : List Nat) : Option (List Nat) := (stk G t).head?
/-- the first one that waits -/
def climb (G : Grid) (t : List Nat) : Option (List Nat) := (rest G t).head?
theorem climb_one (G : Grid) (p : Nat) : climb G [p] = none := rfl
theorem climb_snoc {G : Grid} {q : List Nat} (hq : q ≠ []) (x : Nat) : climb G (q ++ [x]) = match later G q x with
    | u :: _ => some (q ++ [u])
    | [] => climb G q := by
  unfold climb
  rw [rest_snoc hq]
  cases later G q x with
  | nil => rfl
  | cons u us => rfl
theorem nxt_eq (G : Grid) (t : List Nat) : nxt G t = match kids G t with
    | u :: _ => some (t ++ [u])
    | [] => climb G t := by
  unfold nxt stk
  cases kids G t with
  | nil => rfl
  | cons u us => rfl
/-! how many -/
/-- descendants so deep -/
def lev (G : Grid) : Nat → List Nat → Nat
  | 0, _ => 1
  | j + 1, t => ((kids G t).map fun u => lev G j (t ++ [u])).sum
def size (G : Grid) (n : Nat) (t : List Nat) : Nat := ((List.range (n + 1)).map fun j => lev G j t).sum
structure TrOk (G : Grid) (t : List Nat) : Prop where
  ne : t ≠ []
  nd : t.Nodup
  lt : ∀ x ∈ t, x < G.length
theorem TrOk.len {G : Grid} {t : List Nat} (h : TrOk G t) : t.length ≤ G.length := nodup_lt _ h.nd h.lt
theorem TrOk.kid {G : Grid} (hG : SiteOk G) {t : List Nat} (h : TrOk G t) {u : Nat} (hu : u ∈ kids G t) : TrOk G (t ++ [u]) := by
  have h1 := (List.mem_filter.mp hu).1
  have h2 := of_decide_eq_true (List.mem_filter.mp hu).2
  refine ⟨by simp, ?_, fun x hx => ?_⟩
  · rw [List.nodup_append]
    refine ⟨h.nd, by simp, fun a ha b hb e => ?_⟩
    rw [List.mem_singleton.mp hb] at e
    subst e
    exact h2 ha
  · rcases List.mem_append.mp hx with m | m
    · exact h.lt x m
    · rw [List.mem_singleton.mp m]; exact hG.rlt h1
theorem kids_asc {G : Grid} (ha : Asc G) (t : List Nat) : (kids G t).Pairwise (· < ·) := (ha _).filter _
theorem kids_len {G : Grid} (hG : SiteOk G) (ha : Asc G) {t : List Nat} (h : TrOk G t) : (kids G t).length + t.length ≤ G.length := by
  have hnd : (kids G t ++ t).Nodup := by
    rw [List.nodup_append]
    refine ⟨asc_nodup (kids_asc ha t), h.nd, fun a hA b hB e => ?_⟩
    subst e
    exact of_decide_eq_true (List.mem_filter.mp hA).2 hB
  have := nodup_lt G.length hnd fun x hx => by
    rcases List.mem_append.mp hx with m | m
    · exact hG.rlt (List.mem_filter.mp m).1
    · exact h.lt x m
  rw [List.length_append] at this
  exact this
theorem lev_zero {G : Grid} (hG : SiteOk G) : ∀ (j : Nat) {t : List Nat}, TrOk G t → G.length < t.length + j → lev G j t = 0
  | 0, t, h, hj => by have := h.len; omega
  | j + 1, t, h, hj => by
    show ((kids G t).map fun u => lev G j (t ++ [u])).sum = 0
    have : ∀ u ∈ kids G t, lev G j (t ++ [u]) = 0 := fun u hu => lev_zero hG j (h.kid hG hu) (by rw [List.length_append, List.length_singleton]; omega)
    rw [List.map_congr_left this]
    exact sum_zeros _
theorem size_succ (G : Grid) (n : Nat) (t : List Nat) : size G (n + 1) t = 1 + ((kids G t).map fun u => size G n (t ++ [u])).sum := by
  unfold size
  rw [List.range_succ_eq_map, List.map_cons, List.sum_cons, List.map_map]
  show 1 + _ = 1 + _
  congr 1
  have h : ∀ l : List Nat, ((List.range (n + 1)).map ((fun j => lev G j t) ∘ Nat.succ)) = (List.range (n + 1)).map fun j => ((kids G t).map fun u => lev G j (t ++ [u])).sum := fun _ => rfl
  rw [h []]
  generalize kids G t = ks
  clear h
  induction ks with
  | nil => exact sum_zeros _
  | cons u us ih =>
    simp only [List.map_cons, List.sum_cons]
    rw [← ih]
    generalize List.range (n + 1) = L
    induction L with
    | nil => rfl
    | cons a L ihL => simp only [List.map_cons, List.sum_cons]; omega
/-- all of them below t, t itself with them -/
def big (G : Grid) (t : List Nat) : Nat := size G (G.length - t.length) t
theorem big_eq {G : Grid} (hG : SiteOk G) {t : List Nat} (h : TrOk G t) : big G t = 1 + ((kids G t).map fun u => big G (t ++ [u])).sum := by
  unfold big
  have hl := h.len
  by_cases c : t.length < G.length
  · obtain ⟨n, hn⟩ : ∃ n, G.length - t.length = n + 1 := ⟨G.length - t.length - 1, by omega⟩
    rw [hn, size_succ]
    congr 2
    refine List.map_congr_left fun u hu => ?_
    rw [List.length_append, List.length_singleton, show G.length - (t.length + 1) = n by omega]
  · have e : G.length - t.length = 0 := by omega
    have k0 : kids G t = [] := by
      cases hk : kids G t with
      | nil => rfl
      | cons u us =>
        have := (h.kid hG (by rw [hk]; exact List.mem_cons_self)).len
        rw [List.length_append, List.length_singleton] at this
        omega
    rw [e, k0]
    rfl
/-- what is still to come when t was taken -/
def left (G : Grid) (t : List Nat) : Nat := ((stk G t).map (big G)).sum
theorem left_step {G : Grid} (hG : SiteOk G) (ha : Asc G) {t u : List Nat} {R : List (List Nat)} (ht : t ≠ []) (hu : TrOk G u) (h : stk G t = u :: R) : left G t = left G u + 1 := by
  have h1 := stk_head ha ht h
  unfold left
  rw [h, List.map_cons, List.sum_cons, big_eq hG hu]
  unfold stk
  rw [h1, List.map_append, List.sum_append, List.map_map]
  show 1 + ((kids G u).map fun v => big G (u ++ [v])).sum + _ = ((kids G u).map fun v => big G (u ++ [v])).sum + _ + 1
  omega
/-- everything that waits is a trail -/
theorem later_sub {G : Grid} {q : List Nat} {x u : Nat} (h : u ∈ later G q x) : u ∈ kids G q := by
  obtain ⟨h1, h2⟩ := List.mem_filter.mp h
  rw [Bool.and_eq_true] at h2
  exact List.mem_filter.mpr ⟨h1, h2.2⟩
theorem rest_ok {G : Grid} (hG : SiteOk G) : ∀ (n : Nat) {t : List Nat}, t.length ≤ n → TrOk G t → ∀ v ∈ rest G t, TrOk G v
  | 0, t, hn, h, _, _ => absurd (List.length_eq_zero_iff.mp (by omega)) h.ne
  | n + 1, t, hn, h, v, hv => by
    obtain ⟨q, x, rfl⟩ : ∃ q x, t = q ++ [x] := ⟨_, _, (List.dropLast_concat_getLast h.ne).symm⟩
    rw [List.length_append, List.length_singleton] at hn
    by_cases hq : q = []
    · subst hq; cases hv
    have okq : TrOk G q := ⟨hq, (List.nodup_append.mp h.nd).1, fun y hy => h.lt y (List.mem_append_left _ hy)⟩
    rw [rest_snoc hq] at hv
    rcases List.mem_append.mp hv with m | m
    · obtain ⟨u, hu, rfl⟩ := List.mem_map.mp m
      exact okq.kid hG (later_sub hu)
    · exact rest_ok hG n (by omega) okq v m
theorem stk_ok {G : Grid} (hG : SiteOk G) {t : List Nat} (h : TrOk G t) : ∀ v ∈ stk G t, TrOk G v := fun v hv => by
  rcases List.mem_append.mp hv with m | m
  · obtain ⟨u, hu, rfl⟩ := List.mem_map.mp m
    exact h.kid hG hu
  · exact rest_ok hG _ (Nat.le_refl _) h v m
/-- the trails from t on -/
def run (G : Grid) : Nat → List Nat → List (List Nat)
  | 0, t => [t]
  | n + 1, t => t :: (match nxt G t with
    | none => []
    | some u => run G n u)
def all (G : Grid) (p : Nat) : List (List Nat) := run G (left G [p]) [p]
end TF

set_option Elab.async false
set_option linter.all false
set_option maxRecDepth 100000
set_option maxHeartbeats 4000000
/-! the trails from a page: their order, how many at most, and count_trails' layers (plain) -/
namespace TF
open BC
/-! list order -/
theorem nz_append (a b : List Nat) : nz (a ++ b) = nz a ++ nz b := List.map_append
theorem lt_more : ∀ (t : List Int) (x : Int) (s : List Int), t < t ++ x :: s
  | [], _, _ => List.Lex.nil
  | a :: t, x, s => List.Lex.cons (lt_more t x s)
theorem lt_at {x y : Int} (h : x < y) : ∀ (q r s : List Int), q ++ x :: r < q ++ y :: s
  | [], _, _ => List.Lex.rel h
  | a :: q, r, s => List.Lex.cons (lt_at h q r s)
theorem later_lt {G : Grid} {q : List Nat} {x u : Nat} (h : u ∈ later G q x) : x < u := by
  have h2 := (List.mem_filter.mp h).2
  rw [Bool.and_eq_true, decide_eq_true_eq] at h2
  exact h2.1
theorem climb_lt {G : Grid} : ∀ (n : Nat) {t u : List Nat}, t.length ≤ n → climb G t = some u → ∀ s : List Nat, nz (t ++ s) < nz u
  | 0, t, u, hn, h, _ => by
    have : t = [] := List.length_eq_zero_iff.mp (by omega)
    subst this
    cases h
  | n + 1, t, u, hn, h, s => by
    by_cases ht : t = []
    · subst ht; cases h
    obtain ⟨q, x, rfl⟩ : ∃ q x, t = q ++ [x] := ⟨_, _, (List.dropLast_concat_getLast ht).symm⟩
    rw [List.length_append, List.length_singleton] at hn
    by_cases hq : q = []
    · subst hq; cases h
    rw [climb_snoc hq] at h
    rw [List.append_assoc]
    cases c : later G q x with
    | nil =>
      rw [c] at h
      exact climb_lt n (by omega) h _
    | cons y ys =>
      rw [c] at h
      obtain rfl : q ++ [y] = u := Option.some.inj h
      have hx : x < y := later_lt (G := G) (q := q) (by rw [c]; exact List.mem_cons_self)
      rw [nz_append, nz_append, nz_append]
      show nz q ++ (x : Int) :: nz s < nz q ++ (y : Int) :: nz []
      exact lt_at (show (x : Int) < (y : Int) by omega) _ _ _
theorem nxt_lt {G : Grid} {t u : List Nat} (h : nxt G t = some u) : nz t < nz u := by
  rw [nxt_eq] at h
  cases c : kids G t with
  | nil =>
    rw [c] at h
    have := climb_lt _ (Nat.le_refl _) h []
    rw [List.append_nil] at this
    exact this
  | cons y ys =>
    rw [c] at h
    obtain rfl : t ++ [y] = u := Option.some.inj h
    rw [nz_append]
    exact lt_more _ _ _
theorem run_asc {G : Grid} : ∀ (n : Nat) (t : List Nat), (run G n t).Pairwise (fun a b => nz a < nz b) ∧ ∀ v ∈ run G n t, v = t ∨ nz t < nz v
  | 0, t => ⟨List.pairwise_singleton _ _, fun v hv => .inl (List.mem_singleton.mp hv)⟩
  | n + 1, t => by
    unfold run
    cases c : nxt G t with
    | none => exact ⟨List.pairwise_singleton _ _, fun v hv => .inl (List.mem_singleton.mp hv)⟩
    | some u =>
      have hu := nxt_lt c
      obtain ⟨h1, h2⟩ := run_asc n u
      have hv : ∀ v ∈ run G n u, nz t < nz v := fun v hv => by
        rcases h2 v hv with rfl | h
        · exact hu
        · exact List.lt_trans hu h
      exact ⟨List.pairwise_cons.mpr ⟨hv, h1⟩, fun v hv' => (List.mem_cons.mp hv').imp id (hv v)⟩
/-! one behind the other -/
theorem big_pos {G : Grid} (hG : SiteOk G) {t : List Nat} (h : TrOk G t) : 0 < big G t := by rw [big_eq hG h]; omega
theorem left_zero {G : Grid} (hG : SiteOk G) {t : List Nat} (h : TrOk G t) (e : left G t = 0) : stk G t = [] := by
  cases c : stk G t with
  | nil => rfl
  | cons u R =>
    have := big_pos hG (stk_ok hG h u (by rw [c]; exact List.mem_cons_self))
    unfold left at e
    rw [c, List.map_cons, List.sum_cons] at e
    omega
theorem nxt_stk {G : Grid} {t u : List Nat} (h : nxt G t = some u) : ∃ R, stk G t = u :: R := by
  unfold nxt at h
  cases c : stk G t with
  | nil => rw [c] at h; cases h
  | cons v R => rw [c] at h; exact ⟨R, by rw [Option.some.inj h]⟩
theorem run_zero {G : Grid} (n : Nat) (t : List Nat) : (run G n t)[0]? = some t := by cases n <;> rfl
theorem run_next {G : Grid} (hG : SiteOk G) (ha : Asc G) : ∀ (n : Nat) {t : List Nat}, left G t ≤ n → TrOk G t → ∀ {i : Nat} {v : List Nat}, (run G n t)[i]? = some v → TrOk G v ∧ (run G n t)[i + 1]? = nxt G v
  | 0, t, hn, h, i, v, e => by
    have s0 := left_zero hG h (by omega)
    match i, e with
    | 0, e =>
      obtain rfl : t = v := Option.some.inj e
      refine ⟨h, ?_⟩
      show none = (stk G t).head?
      rw [s0]
      rfl
  | n + 1, t, hn, h, i, v, e => by
    unfold run at e ⊢
    cases c : nxt G t with
    | none =>
      rw [c] at e
      match i, e with
      | 0, e =>
        obtain rfl : t = v := Option.some.inj e
        exact ⟨h, c.symm⟩
    | some u =>
      rw [c] at e
      obtain ⟨R, hR⟩ := nxt_stk c
      have hu := stk_ok hG h u (by rw [hR]; exact List.mem_cons_self)
      have hl := left_step hG ha h.ne hu hR
      match i, e with
      | 0, e =>
        obtain rfl : t = v := Option.some.inj e
        exact ⟨h, by rw [c]; exact run_zero n u⟩
      | i + 1, e => exact run_next hG ha n (by omega) hu e
theorem run_len {G : Grid} (hG : SiteOk G) (ha : Asc G) : ∀ (n : Nat) {t : List Nat}, left G t = n → TrOk G t → (run G n t).length = n + 1
  | 0, t, hn, h => rfl
  | n + 1, t, hn, h => by
    unfold run
    cases c : nxt G t with
    | none =>
      exfalso
      have : stk G t = [] := by
        unfold nxt at c
        cases e : stk G t with
        | nil => rfl
        | cons a b => rw [e] at c; cases c
      unfold left at hn
      rw [this] at hn
      cases hn
    | some u =>
      obtain ⟨R, hR⟩ := nxt_stk c
      have hu := stk_ok hG h u (by rw [hR]; exact List.mem_cons_self)
      have hl := left_step hG ha h.ne hu hR
      show (run G n u).length + 1 = n + 1 + 1
      rw [run_len hG ha n (by omega) hu]
theorem one_ok {G : Grid} {p : Nat} (hp : p < G.length) : TrOk G [p] := ⟨by simp, by simp, fun x hx => by rw [List.mem_singleton.mp hx]; exact hp⟩
theorem left_one {G : Grid} (hG : SiteOk G) {p : Nat} (hp : p < G.length) : left G [p] + 1 = big G [p] := by
  rw [big_eq hG (one_ok hp)]
  unfold left stk
  rw [rest_one, List.append_nil, List.map_map]
  show ((kids G [p]).map fun u => big G ([p] ++ [u])).sum + 1 = _
  omega
theorem all_len {G : Grid} (hG : SiteOk G) (ha : Asc G) {p : Nat} (hp : p < G.length) : (all G p).length = big G [p] := by
  unfold all
  rw [run_len hG ha _ rfl (one_ok hp), left_one hG hp]
theorem all_next {G : Grid} (hG : SiteOk G) (ha : Asc G) {p : Nat} (hp : p < G.length) {i : Nat} {v : List Nat} (h : (all G p)[i]? = some v) : TrOk G v ∧ (all G p)[i + 1]? = nxt G v :=
  run_next hG ha _ (Nat.le_refl _) (one_ok hp) h
theorem all_zero {G : Grid} {p : Nat} : (all G p)[0]? = some [p] := run_zero _ _
theorem all_asc (G : Grid) (p : Nat) : (all G p).Pairwise (fun a b => nz a < nz b) := (run_asc _ _).1
/-! how many at most -/
def bnd : Nat → Nat
  | 0 => 1
  | r + 1 => 1 + (r + 1) * bnd r
theorem big_le {G : Grid} (hG : SiteOk G) (ha : Asc G) : ∀ (r : Nat) {t : List Nat}, TrOk G t → G.length ≤ t.length + r → big G t ≤ bnd r
  | 0, t, h, hr => by
    have := kids_len hG ha h
    have k0 : kids G t = [] := List.length_eq_zero_iff.mp (by omega)
    rw [big_eq hG h, k0]
    exact Nat.le_refl _
  | r + 1, t, h, hr => by
    have hk := kids_len hG ha h
    rw [big_eq hG h]
    show _ ≤ 1 + (r + 1) * bnd r
    have h1 : ((kids G t).map fun u => big G (t ++ [u])).sum ≤ (kids G t).length * bnd r := sum_le fun u hu => big_le hG ha r (h.kid hG hu) (by rw [List.length_append, List.length_singleton]; omega)
    have h2 : (kids G t).length * bnd r ≤ (r + 1) * bnd r := Nat.mul_le_mul_right _ (by omega)
    omega
theorem all_le {G : Grid} (hG : SiteOk G) (ha : Asc G) {p : Nat} (hp : p < G.length) (h6 : G.length ≤ 6) : (all G p).length ≤ 326 := by
  rw [all_len hG ha hp]
  exact big_le hG ha 5 (one_ok hp) (by rw [List.length_singleton]; omega)
/-! sets of pages as numbers -/
def hb (b x : Nat) : Bool := decide (b / 2 ^ x % 2 = 1)
def bits (t : List Nat) : Nat := (t.map (2 ^ ·)).sum
theorem hb_zero (y : Nat) : hb 0 y = false := by
  unfold hb
  rw [Nat.zero_div]
  rfl
theorem hb_add {b a : Nat} (h : hb b a = false) (y : Nat) : hb (b + 2 ^ a) y = (decide (y = a) || hb b y) := by
  have h0 : b / 2 ^ a % 2 = 0 := by
    have := of_decide_eq_false h
    omega
  unfold hb
  rcases Nat.lt_trichotomy y a with c | c | c
  · rw [decide_eq_false (show ¬ y = a by omega), Bool.false_or]
    obtain ⟨d, rfl⟩ : ∃ d, a = y + 1 + d := ⟨a - y - 1, by omega⟩
    have e : 2 ^ (y + 1 + d) = 2 ^ y * (2 * 2 ^ d) := by rw [Nat.pow_add, Nat.pow_succ, Nat.mul_assoc]
    rw [e, Nat.add_mul_div_left _ _ (Nat.two_pow_pos y), Nat.add_mul_mod_self_left]
  · subst c
    rw [decide_eq_true rfl, Bool.true_or, Nat.add_div_right _ (Nat.two_pow_pos y)]
    exact decide_eq_true (by omega)
  · rw [decide_eq_false (show ¬ y = a by omega), Bool.false_or]
    obtain ⟨d, rfl⟩ : ∃ d, y = a + 1 + d := ⟨y - a - 1, by omega⟩
    have e : (b + 2 ^ a) / 2 ^ (a + 1) = b / 2 ^ (a + 1) := by
      rw [Nat.pow_succ, ← Nat.div_div_eq_div_mul, ← Nat.div_div_eq_div_mul, Nat.add_div_right _ (Nat.two_pow_pos a)]
      omega
    rw [Nat.pow_add, ← Nat.div_div_eq_div_mul, ← Nat.div_div_eq_div_mul, e]
theorem bits_snoc (t : List Nat) (x : Nat) : bits (t ++ [x]) = bits t + 2 ^ x := by
  unfold bits
  rw [List.map_append, List.sum_append]
  show _ + (2 ^ x + 0) = _
  omega
theorem hb_bits : ∀ (n : Nat) {t : List Nat}, t.length ≤ n → t.Nodup → ∀ y, hb (bits t) y = decide (y ∈ t)
  | 0, t, hn, _, y => by
    have : t = [] := List.length_eq_zero_iff.mp (by omega)
    subst this
    exact hb_zero y
  | n + 1, t, hn, nd, y => by
    by_cases ht : t = []
    · subst ht; exact hb_zero y
    obtain ⟨q, x, rfl⟩ : ∃ q x, t = q ++ [x] := ⟨_, _, (List.dropLast_concat_getLast ht).symm⟩
    rw [List.length_append, List.length_singleton] at hn
    obtain ⟨n1, _, n3⟩ := List.nodup_append.mp nd
    have ih := hb_bits n (by omega) n1
    have hx : hb (bits q) x = false := by
      rw [ih]
      exact decide_eq_false fun m => n3 x m x (List.mem_singleton.mpr rfl) rfl
    rw [bits_snoc, hb_add hx, ih]
    by_cases c : y = x
    · subst c; simp
    · simp [c]
/-! numbers by keys -/
abbrev KD := List ((Nat × Nat) × Nat)
def get2 (L : KD) (k : Nat × Nat) : Nat := ((L.find? fun p => decide (p.1 = k)).map (·.2)).getD 0
def put2 (L : KD) (k : Nat × Nat) (n : Nat) : KD := if (L.any fun p => decide (p.1 = k)) = true then L.map (fun p => if p.1 = k then (p.1, n) else p) else L ++ [(k, n)]
def add2 (L : KD) (k : Nat × Nat) (n : Nat) : KD := put2 L k (get2 L k + n)
def wsum (F : Nat × Nat → Nat) (L : KD) : Nat := (L.map fun e => e.2 * F e.1).sum
theorem put2_keys (L : KD) (k : Nat × Nat) (n : Nat) : (put2 L k n).map (·.1) = if k ∈ L.map (·.1) then L.map (·.1) else L.map (·.1) ++ [k] := by
  unfold put2
  have e : (L.any fun p => decide (p.1 = k)) = decide (k ∈ L.map (·.1)) := by
    rw [Bool.eq_iff_iff, List.any_eq_true, decide_eq_true_eq, List.mem_map]
    constructor
    · rintro ⟨p, hp, h⟩; exact ⟨p, hp, of_decide_eq_true h⟩
    · rintro ⟨p, hp, h⟩; exact ⟨p, hp, decide_eq_true h⟩
  rw [e]
  by_cases c : k ∈ L.map (·.1)
  · rw [if_pos (decide_eq_true c), if_pos c, List.map_map]
    refine List.map_congr_left fun p _ => ?_
    show (if p.1 = k then (p.1, n) else p).1 = p.1
    split <;> rfl
  · rw [if_neg (by rw [decide_eq_false c]; decide), if_neg c, List.map_append]
    rfl
theorem put2_nodup {L : KD} {k : Nat × Nat} {n : Nat} (h : (L.map (·.1)).Nodup) : ((put2 L k n).map (·.1)).Nodup := by
  rw [put2_keys]
  split
  · exact h
  · rename_i c
    rw [List.nodup_append]
    refine ⟨h, by simp, fun a ha b hb e => ?_⟩
    rw [List.mem_singleton.mp hb] at e
    subst e
    exact c ha
theorem wsum_add {F : Nat × Nat → Nat} {n : Nat} {k : Nat × Nat} : ∀ {L : KD}, (L.map (·.1)).Nodup → wsum F (add2 L k n) = wsum F L + n * F k
  | [], _ => by
    show (0 + n) * F k + 0 = 0 + n * F k
    rw [Nat.zero_add, Nat.zero_add, Nat.add_zero]
  | p :: L, h => by
    obtain ⟨h1, h2⟩ := List.nodup_cons.mp h
    by_cases c : p.1 = k
    · have e : add2 (p :: L) k n = (p.1, p.2 + n) :: L := by
        have f1 : (p :: L).find? (fun q => decide (q.1 = k)) = some p := List.find?_cons_of_pos (decide_eq_true c)
        unfold add2 put2 get2
        rw [List.any_cons, decide_eq_true c, Bool.true_or, if_pos rfl, f1, List.map_cons, if_pos c]
        show (p.1, p.2 + n) :: _ = _
        congr 1
        conv => rhs; rw [← List.map_id L]
        refine List.map_congr_left fun q hq => ?_
        rw [if_neg fun e => h1 (show p.1 ∈ L.map (·.1) by rw [c, ← e]; exact List.mem_map.mpr ⟨q, hq, rfl⟩)]
        rfl
      rw [e]
      unfold wsum
      rw [List.map_cons, List.sum_cons, List.map_cons, List.sum_cons]
      show (p.2 + n) * F p.1 + (L.map fun e => e.2 * F e.1).sum = p.2 * F p.1 + (L.map fun e => e.2 * F e.1).sum + n * F k
      rw [c, Nat.add_mul, Nat.add_right_comm]
    · have e : add2 (p :: L) k n = p :: add2 L k n := by
        have f2 : (p :: L).find? (fun q => decide (q.1 = k)) = L.find? (fun q => decide (q.1 = k)) := List.find?_cons_of_neg (by simpa using c)
        unfold add2 put2 get2
        rw [List.any_cons, decide_eq_false c, Bool.false_or, f2, List.map_cons, if_neg c]
        split <;> rfl
      rw [e]
      have ih := wsum_add (F := F) (n := n) (k := k) h2
      unfold wsum at ih ⊢
      rw [List.map_cons, List.sum_cons, List.map_cons, List.sum_cons, ih, Nat.add_assoc]
theorem put2_mem {L : KD} {k : Nat × Nat} {n : Nat} {e : (Nat × Nat) × Nat} (h : e ∈ put2 L k n) : (e = (k, n)) ∨ e ∈ L := by
  unfold put2 at h
  split at h
  · obtain ⟨p, hp, he⟩ := List.mem_map.mp h
    split at he
    · rename_i c
      exact .inl (by rw [← he, c])
    · exact .inr (by rw [← he]; exact hp)
  · rcases List.mem_append.mp h with m | m
    · exact .inr m
    · exact .inl (List.mem_singleton.mp m)
/-- what a dict of numbers stands for -/
structure Lr (L : KD) (T : List (List Nat)) : Prop where
  nd : (L.map (·.1)).Nodup
  pos : ∀ e ∈ L, 0 < e.2
  keys : ∀ e ∈ L, ∃ t ∈ T, (bits t, lst t) = e.1
  sum : ∀ F : Nat × Nat → Nat, wsum F L = (T.map fun t => F (bits t, lst t)).sum
theorem Lr.nil : Lr [] [] := ⟨by simp, by simp, by simp, fun _ => rfl⟩
theorem Lr.one (p : Nat) : Lr [((2 ^ p, p), 1)] [[p]] := ⟨by simp, by simp, fun e he => ⟨[p], by simp, by
  rw [List.mem_singleton.mp he]
  show ((2 ^ p + 0), p) = (2 ^ p, p)
  rw [Nat.add_zero]⟩, fun F => by
  show 1 * F (2 ^ p, p) + 0 = F (2 ^ p + 0, p) + 0
  rw [Nat.one_mul, Nat.add_zero (2 ^ p)]⟩
theorem Lr.one_all {L : KD} {T : List (List Nat)} (h : Lr L T) : (L.map (·.2)).sum = T.length := by
  have e := h.sum fun _ => 1
  unfold wsum at e
  simp only [Nat.mul_one] at e
  rw [e]
  clear e h
  induction T with
  | nil => rfl
  | cons a T ih => rw [List.map_cons, List.sum_cons, ih, List.length_cons]; omega
theorem Lr.empty {L : KD} {T : List (List Nat)} (h : Lr L T) : L = [] ↔ T = [] := by
  have e := h.one_all
  constructor
  · intro c
    rw [c] at e
    exact List.length_eq_zero_iff.mp e.symm
  · intro c
    cases L with
    | nil => rfl
    | cons p L =>
      have := h.pos p List.mem_cons_self
      rw [c, List.map_cons, List.sum_cons] at e
      simp only [List.length_nil] at e
      omega
/-- one more trail, n times -/
theorem mem_sum {x : Nat} : ∀ {l : List Nat}, x ∈ l → x ≤ l.sum
  | a :: l, h => by
    rw [List.sum_cons]
    rcases List.mem_cons.mp h with rfl | h
    · omega
    · have := mem_sum h; omega
theorem Lr.le {L : KD} {T : List (List Nat)} (h : Lr L T) : ∀ e ∈ L, e.2 ≤ T.length := fun e he => by
  rw [← h.one_all]
  exact mem_sum (List.mem_map.mpr ⟨e, he, rfl⟩)
/-- the dict that longer_ways makes; the inner loop, then the outer one -/
def ext1 (G : Grid) (f : KD) (e : (Nat × Nat) × Nat) (xs : List Nat) : KD := xs.foldl (fun f x => if hb e.1.1 x then f else add2 f (e.1.1 + 2 ^ x, x) e.2) f
def longer (G : Grid) (f : KD) (L : KD) : KD := L.foldl (fun f e => ext1 G f e (row G e.1.2)) f
/-- what the dict is while it is made -/
structure Mid (P : Nat × Nat → Prop) (W : (Nat × Nat → Nat) → Nat) (f : KD) : Prop where
  nd : (f.map (·.1)).Nodup
  pos : ∀ e ∈ f, 0 < e.2
  keys : ∀ e ∈ f, P e.1
  sum : ∀ F : Nat × Nat → Nat, wsum F f = W F
theorem Mid.add {P : Nat × Nat → Prop} {W : (Nat × Nat → Nat) → Nat} {f : KD} (h : Mid P W f) {k : Nat × Nat} {n : Nat} (hk : P k) (hn : 0 < n) : Mid P (fun F => W F + n * F k) (add2 f k n) :=
  ⟨put2_nodup h.nd, fun e he => (put2_mem he).elim (fun c => by rw [c]; show 0 < get2 f k + n; omega) (h.pos e), fun e he => (put2_mem he).elim (fun c => by rw [c]; exact hk) (h.keys e), fun F => by rw [wsum_add h.nd, h.sum]⟩
theorem Mid.ext {P : Nat × Nat → Prop} {G : Grid} {e : (Nat × Nat) × Nat} (hn : 0 < e.2) : ∀ {xs : List Nat} {W : (Nat × Nat → Nat) → Nat} {f : KD}, Mid P W f → (∀ x ∈ xs, hb e.1.1 x = false → P (e.1.1 + 2 ^ x, x)) →
    Mid P (fun F => W F + e.2 * ((xs.filter fun x => !hb e.1.1 x).map fun x => F (e.1.1 + 2 ^ x, x)).sum) (ext1 G f e xs)
  | [], W, f, h, _ => ⟨h.nd, h.pos, h.keys, fun F => by rw [show ext1 G f e [] = f from rfl, h.sum]; simp⟩
  | x :: xs, W, f, h, hP => by
    unfold ext1
    rw [List.foldl_cons]
    cases c : hb e.1.1 x with
    | true =>
      rw [if_pos rfl, List.filter_cons_of_neg (by rw [c]; decide)]
      exact Mid.ext (G := G) hn h fun y hy => hP y (List.mem_cons_of_mem _ hy)
    | false =>
      rw [if_neg (by decide), List.filter_cons_of_pos (by rw [c]; decide)]
      have := Mid.ext (G := G) hn (h.add (hP x List.mem_cons_self c) hn) fun y hy => hP y (List.mem_cons_of_mem _ hy)
      refine ⟨this.nd, this.pos, this.keys, fun F => ?_⟩
      have e1 := this.sum F
      unfold ext1 at e1
      rw [e1, List.map_cons, List.sum_cons, Nat.mul_add]
      omega
theorem Mid.longer {P : Nat × Nat → Prop} {G : Grid} : ∀ {L : KD} {W : (Nat × Nat → Nat) → Nat} {f : KD}, (∀ e ∈ L, 0 < e.2 ∧ ∀ x ∈ row G e.1.2, hb e.1.1 x = false → P (e.1.1 + 2 ^ x, x)) → Mid P W f →
    Mid P (fun F => W F + wsum (fun k => (((row G k.2).filter fun x => !hb k.1 x).map fun x => F (k.1 + 2 ^ x, x)).sum) L) (longer G f L)
  | [], W, f, _, h => ⟨h.nd, h.pos, h.keys, fun F => by rw [show TF.longer G f [] = f from rfl, h.sum]; rfl⟩
  | e :: L, W, f, hL, h => by
    obtain ⟨hn, hx⟩ := hL e List.mem_cons_self
    have := Mid.longer (G := G) (fun e he => hL e (List.mem_cons_of_mem _ he)) (Mid.ext (G := G) hn h hx)
    unfold TF.longer at this ⊢
    rw [List.foldl_cons]
    refine ⟨this.nd, this.pos, this.keys, fun F => ?_⟩
    rw [this.sum F]
    unfold wsum
    rw [List.map_cons, List.sum_cons]
    exact Nat.add_assoc _ _ _
/-- one page longer -/
def exts (G : Grid) (T : List (List Nat)) : List (List Nat) := T.flatMap fun t => (kids G t).map fun u => t ++ [u]
theorem lst_snoc (t : List Nat) (u : Nat) : lst (t ++ [u]) = u := by
  unfold lst
  rw [List.getLast?_append]
  rfl
theorem kids_hb {G : Grid} {t : List Nat} (h : TrOk G t) : kids G t = (row G (lst t)).filter fun x => !hb (bits t) x := by
  unfold kids
  refine List.filter_congr fun x _ => ?_
  rw [hb_bits _ (Nat.le_refl _) h.nd, decide_not]
theorem Lr.step {G : Grid} {L : KD} {T : List (List Nat)} (h : Lr L T) (hT : ∀ t ∈ T, TrOk G t) : Lr (longer G [] L) (exts G T) := by
  have M : Mid (fun k => ∃ t ∈ exts G T, (bits t, lst t) = k) (fun _ => 0) ([] : KD) := ⟨by simp, by simp, by simp, fun _ => rfl⟩
  have key : ∀ t u : Nat, True := fun _ _ => trivial
  have := Mid.longer (G := G) (L := L) (fun e he => ⟨h.pos e he, fun x hx hn => by
    obtain ⟨t, ht, ek⟩ := h.keys e he
    refine ⟨t ++ [x], List.mem_flatMap.mpr ⟨t, ht, List.mem_map.mpr ⟨x, ?_, rfl⟩⟩, ?_⟩
    · rw [kids_hb (hT t ht)]
      rw [← ek] at hx hn
      exact List.mem_filter.mpr ⟨hx, by rw [hn]; rfl⟩
    · rw [bits_snoc, lst_snoc, ← ek]⟩) M
  refine ⟨this.nd, this.pos, this.keys, fun F => ?_⟩
  rw [this.sum F, h.sum, Nat.zero_add]
  unfold exts
  clear this M key h
  induction T with
  | nil => rfl
  | cons t T ih =>
    rw [List.map_cons, List.sum_cons, ih fun t ht => hT t (List.mem_cons_of_mem _ ht), List.flatMap_cons, List.map_append, List.sum_append, List.map_map]
    congr 2
    rw [kids_hb (hT t List.mem_cons_self)]
    refine List.map_congr_left fun x _ => ?_
    show F (bits t + 2 ^ x, x) = F (bits (t ++ [x]), lst (t ++ [x]))
    rw [bits_snoc, lst_snoc]
/-! layer by layer -/
def lay (G : Grid) (p : Nat) : Nat → List (List Nat)
  | 0 => [[p]]
  | k + 1 => exts G (lay G p k)
def dct (G : Grid) (p : Nat) : Nat → KD
  | 0 => [((2 ^ p, p), 1)]
  | k + 1 => longer G [] (dct G p k)
theorem lay_ok {G : Grid} (hG : SiteOk G) {p : Nat} (hp : p < G.length) : ∀ (k : Nat), ∀ t ∈ lay G p k, TrOk G t
  | 0, t, ht => by rw [List.mem_singleton.mp ht]; exact one_ok hp
  | k + 1, t, ht => by
    obtain ⟨q, hq, m⟩ := List.mem_flatMap.mp ht
    obtain ⟨u, hu, rfl⟩ := List.mem_map.mp m
    exact (lay_ok hG hp k q hq).kid hG hu
theorem dct_ok {G : Grid} (hG : SiteOk G) {p : Nat} (hp : p < G.length) : ∀ (k : Nat), Lr (dct G p k) (lay G p k)
  | 0 => Lr.one p
  | k + 1 => (dct_ok hG hp k).step (lay_ok hG hp k)
/-- descendants so deep -/
def dep (G : Grid) : Nat → List (List Nat) → List (List Nat)
  | 0, T => T
  | k + 1, T => dep G k (exts G T)
theorem dep_lev (G : Grid) : ∀ (k : Nat) (T : List (List Nat)), (dep G k T).length = (T.map fun t => lev G k t).sum
  | 0, T => by
    show T.length = (T.map fun _ => 1).sum
    induction T with
    | nil => rfl
    | cons a T ih => rw [List.map_cons, List.sum_cons, ← ih, List.length_cons]; omega
  | k + 1, T => by
    show (dep G k (exts G T)).length = _
    rw [dep_lev G k]
    unfold exts
    induction T with
    | nil => rfl
    | cons t T ih =>
      rw [List.flatMap_cons, List.map_append, List.sum_append, ih, List.map_cons, List.sum_cons, List.map_map]
      rfl
theorem dep_out (G : Grid) : ∀ (k : Nat) (T : List (List Nat)), dep G (k + 1) T = exts G (dep G k T)
  | 0, T => rfl
  | k + 1, T => dep_out G k (exts G T)
theorem lay_dep (G : Grid) (p : Nat) : ∀ k, lay G p k = dep G k [[p]]
  | 0 => rfl
  | k + 1 => by rw [dep_out, ← lay_dep G p k]; rfl
theorem lay_len (G : Grid) (p k : Nat) : (lay G p k).length = lev G k [p] := by
  rw [lay_dep, dep_lev]
  rfl
def cum (G : Grid) (p : Nat) : Nat → Nat
  | 0 => 0
  | i + 1 => cum G p i + (lay G p i).length
theorem cum_size (G : Grid) (p : Nat) : ∀ n, cum G p (n + 1) = size G n [p] := by
  have : ∀ n, cum G p n = ((List.range n).map fun j => lev G j [p]).sum := by
    intro n
    induction n with
    | zero => rfl
    | succ n ih =>
      rw [List.range_succ, List.map_append, List.sum_append, ← ih]
      show cum G p n + _ = cum G p n + (lev G n [p] + 0)
      rw [lay_len]
      rfl
  exact fun n => this (n + 1)
theorem lay_end {G : Grid} (hG : SiteOk G) {p : Nat} (hp : p < G.length) : lay G p G.length = [] := by
  refine List.length_eq_zero_iff.mp ?_
  rw [lay_len]
  exact lev_zero hG _ (one_ok hp) (by rw [List.length_singleton]; omega)
theorem lay_stay {G : Grid} {p m : Nat} (h : lay G p m = []) : ∀ d, lay G p (m + d) = []
  | 0 => h
  | d + 1 => by
    show exts G (lay G p (m + d)) = []
    rw [lay_stay h d]
    rfl
theorem cum_stay {G : Grid} {p m : Nat} (h : lay G p m = []) : ∀ d, cum G p (m + d) = cum G p m
  | 0 => rfl
  | d + 1 => by
    show cum G p (m + d) + (lay G p (m + d)).length = _
    rw [lay_stay h d, cum_stay h d]
    rfl
/-- count_trails' number -/
theorem cum_end {G : Grid} (hG : SiteOk G) (ha : Asc G) {p m : Nat} (hp : p < G.length) (hm : m ≤ G.length) (h : lay G p m = []) : cum G p m = (all G p).length := by
  rw [all_len hG ha hp]
  obtain ⟨d, hd⟩ : ∃ d, G.length = m + d := ⟨G.length - m, by omega⟩
  have e := cum_stay h d
  rw [← e, ← hd]
  obtain ⟨n, hn⟩ : ∃ n, G.length = n + 1 := ⟨G.length - 1, by omega⟩
  unfold big
  rw [List.length_singleton, hn, cum_size, Nat.add_sub_cancel]
theorem lay_lt {G : Grid} (hG : SiteOk G) {p k : Nat} (hp : p < G.length) (h : lay G p k ≠ []) : k < G.length := by
  rcases Nat.lt_or_ge k G.length with c | c
  · exact c
  · exfalso
    obtain ⟨d, hd⟩ : ∃ d, k = G.length + d := ⟨k - G.length, by omega⟩
    rw [hd] at h
    exact h (lay_stay (lay_end hG hp) d)
theorem cum_mono (G : Grid) (p : Nat) : ∀ (i d : Nat), cum G p i ≤ cum G p (i + d)
  | i, 0 => Nat.le_refl _
  | i, d + 1 => Nat.le_trans (cum_mono G p i d) (Nat.le_add_right _ _)
theorem lay_le {G : Grid} (hG : SiteOk G) (ha : Asc G) {p : Nat} (hp : p < G.length) (h6 : G.length ≤ 6) (k : Nat) : (lay G p k).length ≤ 326 := by
  by_cases c : lay G p k = []
  · rw [c]; exact Nat.zero_le _
  · have hk := lay_lt hG hp c
    have h1 : cum G p (k + 1) ≤ cum G p G.length := by
      obtain ⟨d, hd⟩ : ∃ d, G.length = k + 1 + d := ⟨G.length - (k + 1), by omega⟩
      rw [hd]
      exact cum_mono G p _ d
    rw [cum_end hG ha hp (Nat.le_refl _) (lay_end hG hp)] at h1
    have h2 := all_le hG ha hp h6
    have h3 : cum G p (k + 1) = cum G p k + (lay G p k).length := rfl
    omega
end TF

set_option Elab.async false
set_option linter.all false
set_option maxRecDepth 100000
set_option maxHeartbeats 4000000
/-! dicts: readings, loops over keys, keys that are texts of lists of digits -/
namespace BC
open PySem PySem.Spec PyProof.Rows L2 Evl
section
variable {K : PySem.W.Frag} {σ : L2.St} {H : Hp} {Q : VK} {QT : Bool → Hp → Prop} {td ty tv tx : TE} {D : Ends} {g : TG} {tb : TS} {c : TE}
theorem x_dnewK : tDNewK σ H Q = ∀ p, H p = none → Q (.ref p) (upd H p (.dK [])) := rfl
theorem x_dnewT : tDNewT σ H Q = ∀ p, H p = none → Q (.ref p) (upd H p (.dT [])) := rfl
theorem x_dget : tDGet td ty σ H Q = td σ H (fun x H1 => ty σ H1 fun y H2 => ∃ a v, x = .ref a ∧ DGet H2 a y (some v) ∧ Q v H2) := rfl
theorem x_dget1 : tDGet1 td ty σ H Q = td σ H (fun x H1 => ∃ a, x = .ref a ∧ IsD H1 a ∧ ty σ H1 fun y H2 => ∃ o, DGet H2 a y o ∧ Q (o.getD .non) H2) := rfl
theorem x_dget2 : tDGet2 td ty tx σ H Q = td σ H (fun x H1 => ∃ a, x = .ref a ∧ IsD H1 a ∧ ty σ H1 fun y H2 => tx σ H2 fun z H3 => ∃ o, DGet H3 a y o ∧ Q (o.getD z) H3) := rfl
theorem x_din : tDIn ty td σ H Q = ty σ H (fun y H1 => td σ H1 fun x H2 => ∃ a o, x = .ref a ∧ DGet H2 a y o ∧ Q (.bl o.isSome) H2) := rfl
theorem x_dnotin : tDNotIn ty td σ H Q = ty σ H (fun y H1 => td σ H1 fun x H2 => ∃ a o, x = .ref a ∧ DGet H2 a y o ∧ Q (.bl (!o.isSome)) H2) := rfl
theorem x_dput : sDPut td ty tv D σ H = tv σ H (fun v H1 => td σ H1 fun x H2 => ty σ H2 fun y H3 => ∃ a H4, x = .ref a ∧ DPut H3 a y v H4 ∧ D.nx σ H4) := rfl
theorem x_ikeys {R : It → Hp → Prop} : iKeys td σ H R = td σ H (fun x H1 => ∃ d o, x = .ref d ∧ ((∃ kvs, H1 d = some (.frz o (.dK kvs)) ∧ R (Itk d o kvs) H1) ∨ ∃ kvs, H1 d = some (.frz o (.dT kvs)) ∧ R (Itkt d o kvs) H1)) := rfl
/-- the keys of a locked dict -/
theorem lg_keys {d : Addr} {o : Obj} {kvs : List (Key × V)} (Pv : Nat → L2.St → Hp → Prop) (h0 : Pv 0 σ H) (hl : ∀ i σ H, i ≤ kvs.length → Pv i σ H → H d = some (.frz o (.dK kvs)))
    (hs : ∀ i k v σ H, kvs[i]? = some (k, v) → Pv i σ H → g (kV k) σ H fun σ2 H2 => tb { D with nx := Pv (i + 1), ct := Pv (i + 1), bk := D.nx } σ2 H2) (hd : ∀ σ H, Pv kvs.length σ H → D.nx σ H) : LoopG (Itk d o kvs) g tb D σ H := by
  refine ⟨fun i m σ H => m = kvs.length - i ∧ i ≤ kvs.length ∧ Pv i σ H, ⟨kvs.length, by simp, Nat.zero_le _, h0⟩, ?_⟩
  rintro i m σ H ⟨rfl, hi, p⟩
  have q := hl i σ H hi p
  by_cases hlt : i < kvs.length
  · refine .inr ⟨⟨q, hlt⟩, Pv (i + 1), fun σ' H' p' => ⟨kvs.length - (i + 1), by omega, rfl, hlt, p'⟩, fun x H' y => ?_⟩
    obtain ⟨rfl, k, v, e, rfl⟩ := y
    exact hs i k v σ _ e p
  · have e : i = kvs.length := by omega
    subst e
    exact .inl ⟨⟨q, Nat.le_refl _⟩, hd σ H p⟩
end
theorem frz_ex {H H' : Hp} {d : Addr} {u x : HO} (h : H d = some u) (e : Ex (upd H d x) H') : Ex H (upd H' d u) := fun a o ho => by
  by_cases q : a = d
  · subst q
    rw [upd_same]
    rw [h] at ho
    exact ho
  · rw [upd_ne q]
    exact e a o (by rw [upd_ne q]; exact ho)
theorem ex_frz {H H' : Hp} {d a : Addr} {o : HO} {x : HO} (q : a ≠ d) (ho : H a = some o) (e : Ex (upd H d x) H') : H' a = some o := e a o (by rw [upd_ne q]; exact ho)
/-! ### lists of digits, shown -/
def Dg (t : List Int) : Prop := ∀ n ∈ t, 0 ≤ n ∧ n < 10
def digL (cs : List Nat) : List Int := (cs.filter fun c => decide (48 ≤ c) && decide (c < 58)).map fun c : Nat => (c : Int) - 48
theorem digL_append (a b : List Nat) : digL (a ++ b) = digL a ++ digL b := by
  unfold digL
  rw [List.filter_append, List.map_append]
theorem digL_one : ∀ k : Fin 10, digL (Str.ofString (toString ((k.val : Nat) : Int))).cps.toList = [((k.val : Nat) : Int)] := by decide +kernel
theorem digL_int {n : Int} (h0 : 0 ≤ n) (h1 : n < 10) : digL (Str.ofString (toString n)).cps.toList = [n] := by
  have h := digL_one ⟨n.toNat, by omega⟩
  rw [show ((n.toNat : Nat) : Int) = n by omega] at h
  exact h
theorem digL_join : ∀ ns : List Int, Dg ns → digL (Str.join ", " (ns.map fun n => ((toString n : String) : Str))).cps.toList = ns
  | [], _ => by decide +kernel
  | [n], h => by
    obtain ⟨h0, h1⟩ := h n List.mem_cons_self
    exact digL_int h0 h1
  | n :: m :: ns, h => by
    obtain ⟨h0, h1⟩ := h n List.mem_cons_self
    have ih := digL_join (m :: ns) fun x hx => h x (List.mem_cons_of_mem _ hx)
    show digL ((((toString n : String) : Str) ++ ", " ++ Str.join ", " ((m :: ns).map fun n => ((toString n : String) : Str))).cps.toList) = _
    rw [cps_toList_append, cps_toList_append, digL_append, digL_append, ih, digL_int h0 h1, signs_sep]
    rfl
theorem digL_shown {ns : List Int} (h : Dg ns) : digL (shInts ns).cps.toList = ns := by
  unfold shInts
  rw [PyData.shown_list, PyData.shownAll_ints, cps_toList_append, cps_toList_append, digL_append, digL_append, digL_join ns h, signs_lbrack, signs_rbrack]
  show [] ++ ns ++ [] = ns
  simp
theorem shInts_inj {a b : List Int} (ha : Dg a) (hb : Dg b) (e : shInts a = shInts b) : a = b := by
  rw [← digL_shown ha, ← digL_shown hb, e]
/-! ### dicts by such texts -/
section
variable {α : Type} {f : α → V}
def kx (t : List Int) : Key := Sum.inr (shInts t)
theorem kx_inj {a b : List Int} (ha : Dg a) (hb : Dg b) : kx a = kx b ↔ a = b := ⟨fun e => shInts_inj ha hb (Sum.inr.inj e), fun e => by rw [e]⟩
def ren (f : α → V) (L : List (List Int × α)) : List (Key × V) := L.map fun p => (kx p.1, f p.2)
def getA (L : List (List Int × α)) (t : List Int) : Option α := (L.find? fun p => decide (p.1 = t)).map (·.2)
def putA (L : List (List Int × α)) (t : List Int) (a : α) : List (List Int × α) := if (L.any fun p => decide (p.1 = t)) = true then L.map (fun p => if p.1 = t then (p.1, a) else p) else L ++ [(t, a)]
theorem ren_val (t : List Int) (ht : Dg t) : ∀ L : List (List Int × α), (∀ p ∈ L, Dg p.1) → valV (ren f L) (kx t) = (getA L t).map f
  | [], _ => rfl
  | p :: L, h => by
    have ih := ren_val t ht L fun q hq => h q (List.mem_cons_of_mem _ hq)
    have hp := h p List.mem_cons_self
    show valV ((kx p.1, f p.2) :: ren f L) (kx t) = _
    by_cases e : p.1 = t
    · rw [valV_pos (by show kx p.1 = kx t; rw [e])]
      simp [getA, e]
    · rw [valV_neg (by show ¬ kx p.1 = kx t; rw [kx_inj hp ht]; exact e), ih]
      simp [getA, e]
theorem ren_any (t : List Int) (ht : Dg t) : ∀ L : List (List Int × α), (∀ p ∈ L, Dg p.1) → ((ren f L).any fun kv => decide (kv.1 = kx t)) = L.any fun p => decide (p.1 = t)
  | [], _ => rfl
  | p :: L, h => by
    have ih := ren_any t ht L fun q hq => h q (List.mem_cons_of_mem _ hq)
    have hp := h p List.mem_cons_self
    show (decide (kx p.1 = kx t) || (ren f L).any fun kv => decide (kv.1 = kx t)) = _
    rw [ih, List.any_cons]
    congr 1
    exact decide_eq_decide.mpr (kx_inj hp ht)
theorem ren_put (t : List Int) (ht : Dg t) (a : α) (L : List (List Int × α)) (h : ∀ p ∈ L, Dg p.1) : putK (ren f L) (kx t) (f a) = ren f (putA L t a) := by
  unfold putK putA
  rw [ren_any t ht L h]
  by_cases c : (L.any fun p => decide (p.1 = t)) = true
  · rw [if_pos c, if_pos c]
    unfold ren
    rw [List.map_map, List.map_map]
    refine List.map_congr_left fun p hp => ?_
    show (if kx p.1 = kx t then (kx p.1, f a) else (kx p.1, f p.2)) = _
    by_cases e : p.1 = t
    · rw [if_pos (by rw [e])]
      show _ = (kx (if p.1 = t then (p.1, a) else p).1, f (if p.1 = t then (p.1, a) else p).2)
      rw [if_pos e]
    · rw [if_neg (by rw [kx_inj (h p hp) ht]; exact e)]
      show _ = (kx (if p.1 = t then (p.1, a) else p).1, f (if p.1 = t then (p.1, a) else p).2)
      rw [if_neg e]
  · rw [if_neg c, if_neg c]
    unfold ren
    rw [List.map_append]
    rfl
theorem putA_key {L : List (List Int × α)} {t : List Int} {a : α} {p : List Int × α} (h : p ∈ putA L t a) : p.1 = t ∨ ∃ q ∈ L, q.1 = p.1 := by
  unfold putA at h
  split at h
  · obtain ⟨q, hq, rfl⟩ := List.mem_map.mp h
    refine .inr ⟨q, hq, ?_⟩
    split <;> rfl
  · rcases List.mem_append.mp h with h | h
    · exact .inr ⟨p, h, rfl⟩
    · rw [List.mem_singleton.mp h]
      exact .inl rfl
theorem putA_len (L : List (List Int × α)) (t : List Int) (a : α) : (putA L t a).length ≤ L.length + 1 := by
  unfold putA
  split
  · rw [List.length_map]; omega
  · rw [List.length_append, List.length_singleton]; omega
theorem ren_len (L : List (List Int × α)) : (ren f L).length = L.length := by unfold ren; rw [List.length_map]
theorem ren_at {L : List (List Int × α)} {i : Nat} {k : Key} {v : V} (h : (ren f L)[i]? = some (k, v)) : ∃ t a, L[i]? = some (t, a) ∧ k = kx t ∧ v = f a := by
  unfold ren at h
  rw [List.getElem?_map] at h
  cases e : L[i]? with
  | none => rw [e] at h; cases h
  | some p => rw [e] at h; cases h; exact ⟨p.1, p.2, rfl, rfl, rfl⟩
end
end BC
namespace BC
open PySem PySem.Spec PyProof.Rows L2 Evl
section
variable {α : Type} {f : α → V}
theorem putA_nodup {L : List (List Int × α)} {t : List Int} {a : α} (h : (L.map (·.1)).Nodup) : ((putA L t a).map (·.1)).Nodup := by
  unfold putA
  split
  · rw [List.map_map]
    have e : ((fun p : List Int × α => p.1) ∘ fun p : List Int × α => if p.1 = t then (p.1, a) else p) = fun p => p.1 := funext fun p => by
      show (if p.1 = t then (p.1, a) else p).1 = p.1
      split <;> rfl
    rw [e]
    exact h
  · next c =>
    rw [List.map_append, List.nodup_append]
    refine ⟨h, by simp, fun x hx y hy e => ?_⟩
    obtain ⟨p, hp, rfl⟩ := List.mem_map.mp hx
    have hy' : y = t := by simpa using hy
    refine c (List.any_eq_true.mpr ⟨p, hp, decide_eq_true ?_⟩)
    rw [e, hy']
theorem getA_at : ∀ {L : List (List Int × α)} {i : Nat} {t : List Int} {a : α}, (L.map (·.1)).Nodup → L[i]? = some (t, a) → getA L t = some a
  | [], _, _, _, _, h => by simp at h
  | p :: L, 0, t, a, _, h => by
    have : p = (t, a) := by simpa using h
    subst this
    simp [getA]
  | p :: L, i + 1, t, a, nd, h => by
    rw [List.map_cons, List.nodup_cons] at nd
    have h' : L[i]? = some (t, a) := by simpa using h
    have ih := getA_at nd.2 h'
    have ne : p.1 ≠ t := fun e => nd.1 (List.mem_map.mpr ⟨(t, a), List.mem_of_getElem? h', e.symm⟩)
    unfold getA at ih ⊢
    rw [List.find?_cons, decide_eq_false ne]
    exact ih
end
/-- what stands at a text's key, counted -/
theorem ren_get {L : List (List Int × Int)} {t : List Int} (ht : Dg t) (h : ∀ p ∈ L, Dg p.1) : (valV (ren V.int L) (kx t)).getD (.int 0) = .int ((getA L t).getD 0) := by
  rw [ren_val t ht L h]
  cases getA L t <;> rfl
theorem ints_at {ns : List Int} {i : Nat} {v : V} (h : (ns.map V.int)[i]? = some v) : ∃ n, ns[i]? = some n ∧ v = .int n := by
  rw [List.getElem?_map] at h
  cases e : ns[i]? with
  | none => rw [e] at h; cases h
  | some n => rw [e] at h; cases h; exact ⟨n, rfl, rfl⟩
theorem refs_at {ps : List Addr} {i : Nat} {v : V} (h : (ps.map V.ref)[i]? = some v) : ∃ q, ps[i]? = some q ∧ v = .ref q := by
  rw [List.getElem?_map] at h
  cases e : ps[i]? with
  | none => rw [e] at h; cases h
  | some n => rw [e] at h; cases h; exact ⟨n, rfl, rfl⟩
theorem tyS {K : PySem.W.Frag} {H : Hp} {x : Str} : tyV K "str" (.str x) H := rfl
end BC

set_option Elab.async false
set_option linter.all false
set_option maxRecDepth 100000
set_option maxHeartbeats 4000000
/-! dicts whose keys are tuples: for (k, v) in d.items(), list(d.values()), d != {} -/
namespace BC
open PySem PySem.Spec PyProof.Rows L2 Evl
section
variable {X : Cx} {pins : List (Addr × Obj)} {σ : L2.St} {H : Hp} {s : Shared} {d : Addr} {o : Obj}
theorem entry_atT {α : Type} {f : α → DictEntry} {es : Array DictEntry} {xs : List α} (he : es.toList = xs.map f) (i : Nat) : es[i]? = (xs[i]?).map f := by
  rw [← Array.getElem?_toList, he, List.getElem?_map]
/-- a locked dict, entry by entry -/
theorem frzT2 {kvs : List (List Key × V)} (I : Inv X pins σ H s) (h : H d = some (.frz o (.dT kvs))) :
    (d == sysModules) = false ∧ s.heap.get? d = some o ∧ o.ExactDict ∧ ∃ (es : Array DictEntry) (ep : Nat), o.data = .dict es ep ∧ es.size = kvs.length ∧ kvs.length ≤ sizeLine ∧
      ∀ (i : Nat) (hi : i < es.size) (k : List Key) (v : V), kvs[i]? = some (k, v) → ∃ (q : Addr), es[i].key = .ref q ∧ H q = some (.tup (k.map kV)) ∧ RelV v es[i].val := by
  obtain ⟨hd, z, hs, xs, pr, o', es, ep, ho, hx, hdt, he, _⟩ := I.hok d _ h
  rw [hd] at ho
  cases ho
  have l1 : es.size = xs.length := size_of_entries he
  have l2 : kvs.length = xs.length := Paired.length pr
  refine ⟨hs, hd, hx, es, ep, hdt, by omega, z, fun i hi k v e => ?_⟩
  obtain ⟨b, hb, e1, e2, e3⟩ := paired_get pr e
  have q := entry_atT he i
  rw [hb, Array.getElem?_eq_getElem hi] at q
  have q2 : es[i] = entryOfKey (tupleKind (mixKind X.prog X.w)) b := Option.some.inj q
  rw [q2]
  exact ⟨b.2.1, rfl, e2, e3⟩
theorem vals_of_get : ∀ {xs : List V} {us : List Value}, xs.length = us.length → (∀ (j : Nat) v u, xs[j]? = some v → us[j]? = some u → RelV v u) → Vals xs us
  | [], [], _, _ => .nil
  | x :: xs, u :: us, hl, h => .cons (h 0 x u rfl rfl) (vals_of_get (by simpa using hl) fun j v w a b => h (j + 1) v w a b)
theorem raw_of {h : Heap} {es : Array DictEntry} {ep : Nat} (e : h.get? d = some o) (hx : o.ExactDict) (hd : o.data = .dict es ep) : DT.Raw h d es ep := ⟨o, e, hx, hd⟩
end
/-- the pairs of a locked dict, each a new tuple -/
def Itit (d : Addr) (o : Obj) (kvs : List (List Key × V)) : It :=
  ⟨fun i H => H d = some (.frz o (.dT kvs)) ∧ i < kvs.length, fun i H x H' => ∃ T q k v, kvs[i]? = some (k, v) ∧ H q = some (.tup (k.map kV)) ∧ x = .ref T ∧ H T = none ∧ H' = upd H T (.tup [.ref q, v]), fun i H => H d = some (.frz o (.dT kvs)) ∧ kvs.length ≤ i⟩
theorem turn_itemsT {P : Program} {w : World} {K : PySem.W.Frag} {d : Addr} {o : Obj} {es : Array DictEntry} {ep : Nat} {kvs : List (List Key × V)} {elts : List Expr} {kk : Nat} {tpos : Pos} (it : Addr) (hod : o.data = .dict es ep) :
    Turn P w K (.Tuple elts kk tpos) (Itit d o kvs) [it] it (fun i h => ∃ ok ov, IsItemIter h it d i es.size ep ok ov) where
  mem := by simp
  obj := fun i h st b hb => by
    have e : b = it := by simpa using hb
    subst e
    obtain ⟨ok, ov, e⟩ := st
    exact ⟨_, e, fun v z => nomatch z⟩
  keep := fun i h h' st k => let ⟨ok, ov, e⟩ := st; ⟨ok, ov, k it (by simp) _ e⟩
  item := by
    intro X hP hw hK hc i pins s σ H E I hf st hg
    subst hP hw hK
    obtain ⟨hd, hi⟩ := hg
    obtain ⟨hs, hgd, hx, es', ep', hdt, hsz, hz, ent⟩ := frzT2 I hd
    obtain ⟨rfl, rfl⟩ := dict_ep hod hdt
    obtain ⟨⟨k, v⟩, hkv⟩ : ∃ p, kvs[i]? = some p := ⟨kvs[i], List.getElem?_eq_getElem hi⟩
    have hie : i < es'.size := by omega
    obtain ⟨q, hkey, hq, ru⟩ := ent i hie k v hkv
    obtain ⟨ok, ov, he⟩ := st
    have hlt : it < s.heap.objs.size := Heap.lt_size he
    refine DT.nextI he (raw_of hgd hx hdt) hie fun h' ho hT hz' hk => ?_
    refine ⟨_, rfl, wpAny_letOwnedTupleGo_items (s := { s with heap := h' }) ho fun h'' he' sb => ?_⟩
    have hT2 : h''.get? s.heap.objs.size = some { cls := .type "tuple", data := .seq #[es'[i].key, es'[i].val] } := (sb.2 _ (Nat.ne_of_gt hlt)).trans hT
    have new : ObjOk X.prog X.w (upd H s.heap.objs.size (.tup [.ref q, v])) h'' s.heap.objs.size (.tup [.ref q, v]) :=
      ⟨by show 2 ≤ sizeLine; decide, [es'[i].key, es'[i].val], .cons hkey (.cons ru .nil), ⟨_, hT2, rfl, _, rfl⟩⟩
    have I1 : Inv X pins σ (upd H s.heap.objs.size (.tup [.ref q, v])) { s with heap := h'' } :=
      I.turnedNew (t' := s.toks) (ch := [it]) (fun b ob hb e => (sb.2 b (by simpa using hb)).trans (hk b ob (by simpa using hb) e)) hf (Nat.le_refl _) new
    refine ⟨.ref s.heap.objs.size, _, I1, rfl, ⟨_, q, k, v, hkv, hq, rfl, I.hok.fresh (Nat.le_refl _), rfl⟩, ⟨_, _, he'⟩, fun b hb => ?_⟩
    have e : b = it := by simpa using hb
    rw [e, upd_ne (Nat.ne_of_lt hlt)]
    exact (hf it (by simp)).1
  done := by
    intro X hP hw hK hc i pins s σ H E I hf st hg
    subst hP hw hK
    obtain ⟨hd, hi⟩ := hg
    obtain ⟨f0, f1, f2, f3, f4, f5⟩ := hf it (by simp)
    obtain ⟨hs, hgd, hx, es', ep', hdt, hsz, hz, ent⟩ := frzT2 I hd
    obtain ⟨rfl, rfl⟩ := dict_ep hod hdt
    obtain ⟨ok, ov, he⟩ := st
    exact DT.endI (I.ok.hd hc) he (raw_of hgd hx hdt) (by omega) fun h' eb => ⟨rfl, I.turned (t' := s.toks) (fun b ob hb e => eb b ob hb e) f0 f1 f3 f4 f5⟩
  self := fun A i s Q E st h => let ⟨_, _, e⟩ := st; PySem.W.kcp_self e h
def iItemsT (td : TE) : TI := fun σ H R => td σ H fun x H1 => ∃ d o kvs, x = .ref d ∧ H1 d = some (.frz o (.dT kvs)) ∧ R (Itit d o kvs) H1
section
variable {X : Cx} {K : PySem.W.Frag} {e : Expr} {td : TE} {apos cpos : Pos}
theorem pi_itemsT {elts : List Expr} {kk : Nat} {tpos : Pos} (he : PE X e td) (hbase : attributeBase e "items" X.env (eval e X.env) = eval e X.env := by rfl) (hline : (apos.endLine == cpos.line) = true := by rfl) :
    PI X (.Tuple elts kk tpos) (.Call (.Attribute e "items" apos) [] [] cpos) (iItemsT td) := by
  refine ⟨fun pins s σ H R I h => ?_⟩
  refine wpAny_Call_method (T := "dict") (id := "dict.items") hbase rfl hline PySem.F.plainAttrs_dict PySem.F.slot_dict_items PySem.F.type_dict_items (thn (he.run pins s σ H _ I h) fun u s1 ⟨x, H1, I1, rx, d, o, kvs, ex, hd, q⟩ => ?_)
  subst ex
  obtain rfl : u = Value.ref d := rx
  obtain ⟨hs, hgd, hx, es, ep, hdt, hsz, hz, ent⟩ := frzT2 I1 hd
  have hm := raw_of hgd hx hdt
  refine ⟨hm.typeIs, fun a q => by cases q; exact ⟨o, hgd, hx.2.1⟩, ?_⟩
  have I2 : Inv X pins σ H1 { s1 with heap := s1.heap.push { cls := .type "dict_items", data := .fields #[.ref d] } } := I1.kept (t' := s1.toks) fun b ob q => Heap.get?_push_of_some _ q
  have fin : wpAny (model X.prog X.w) X.A (pyIter (.ref s1.heap.objs.size)) (PIE X pins σ (.Tuple elts kk tpos) R) X.xe { s1 with heap := s1.heap.push { cls := .type "dict_items", data := .fields #[.ref d] } } := by
    refine DT.iterI (d := d) ⟨_, Heap.get?_push_size _ rfl, rfl, rfl⟩ (hm.push _) (pi_one (tk := s1.toks) I2 _ (turn_itemsT _ hdt) ⟨.none, .none, ?_⟩ q)
    exact Heap.get?_push_size _ rfl
  show wpAny _ _ (callWith cpos (.builtin "dict.items") [.ref d] [] []) _ X.xe s1
  exact method_meetsIn PySem.F.slot_dict_items PySem.F.entry_dict_items rfl (PySem.evalArgs_none ⟨rfl, hm.typeIs, PySem.F.args_dict_items_1 _, _, DT.meetsItems (es := es) (ep := ep) hs, hm, fin⟩)
theorem x_iitemsT {σ : L2.St} {H : Hp} {R : It → Hp → Prop} : iItemsT td σ H R = td σ H fun x H1 => ∃ d o kvs, x = .ref d ∧ H1 d = some (.frz o (.dT kvs)) ∧ R (Itit d o kvs) H1 := rfl
end
/-! ### list(d.values()) -/
section
variable {X : Cx} {K : PySem.W.Frag} {e : Expr} {td : TE} {apos ipos cpos lpos : Pos}
def tValsT (td : TE) : TE := fun σ H Q => td σ H fun x H1 => ∃ d kvs, x = .ref d ∧ H1 d = some (.dT kvs) ∧ ∀ p, H1 p = none → Q (.ref p) (upd H1 p (.lst (kvs.map (·.2))))
theorem pe_valsT (hc : X.calm = true) (hg : Gl X "list") (hm : X.mg "list" = none) (he : PE X e td) (hbase : attributeBase e "values" X.env (eval e X.env) = eval e X.env := by rfl) (hline : (apos.endLine == cpos.line) = true := by rfl)
    (na : starEach [Expr.Call (.Attribute e "values" apos) [] [] cpos] X.env = (false, eval (.Call (.Attribute e "values" apos) [] [] cpos) X.env) :: starEach [] X.env := by rfl) :
    PE X (.Call (.Name "list" lpos) [.Call (.Attribute e "values" apos) [] [] cpos] [] ipos) (tValsT td) := by
  refine ⟨fun pins s σ H Q I h => ?_⟩
  refine Call_ (ld_blt I hg hm (show bootBuiltins ("list" : Str) = some (.type "list") by decide +kernel) ?_)
  refine callWith_type1 (args_cons ?_ na) na rfl
  refine wpAny_Call_method (T := "dict") (id := "dict.values") hbase rfl hline PySem.F.plainAttrs_dict PySem.F.slot_dict_values PySem.F.type_dict_values (thn (he.run pins s σ H _ I h) fun u s1 ⟨x, H1, I1, rx, d, kvs, ex, hd, q⟩ => ?_)
  subst ex
  obtain rfl : u = Value.ref d := rx
  obtain ⟨z, hs, xs, pr, o, es, ep, ho, hx, hdt, hent, hn⟩ := I1.hok d _ hd
  have l1 : es.size = xs.length := size_of_entries hent
  have l2 : kvs.length = xs.length := Paired.length pr
  have hm1 : s1.heap.DictRaw d es ep := ⟨o, ho, hx, hdt⟩
  refine ⟨hm1.typeIs, fun a q => by cases q; exact ⟨o, ho, hx.2.1⟩, ?_⟩
  show wpAny _ _ (callWith cpos (.builtin "dict.values") [.ref d] [] []) _ X.xe s1
  refine method_meetsIn PySem.F.slot_dict_values PySem.F.entry_dict_values rfl (PySem.evalArgs_none ⟨rfl, hm1.typeIs, PySem.F.args_dict_values_1 _, _, meets_dict_values_raw d hs, ⟨es, ep, hm1⟩, ?_⟩)
  have I2 : Inv X pins σ H1 { s1 with heap := s1.heap.push { cls := .type "dict_values", data := .fields #[.ref d] } } := I1.kept (t' := s1.toks) fun b ob q => Heap.get?_push_of_some _ q
  refine args_nil ?_
  refine PySem.W.kdl_call (KdlSrc.rawValues (r := s1.heap.objs.size) (d := d) (es := es) (ep := ep)) (I2.ok.hd hc) ⟨⟨_, Heap.get?_push_size _ rfl, rfl, rfl⟩, hm1.push _⟩ (by omega) fun h' tk acc' c' kp e it => ?_
  have hl : acc'.toList.length = xs.length := by rw [Array.length_toList, it.1]; exact l1
  have rv : Vals (kvs.map (·.2)) acc'.toList := by
    refine vals_of_get (by rw [List.length_map, l2, hl]) fun j v u hv hu => ?_
    obtain ⟨hj, ev⟩ := it.2 j u (by rw [← Array.getElem?_toList]; exact hu)
    rw [List.getElem?_map] at hv
    obtain ⟨kv, hkv, rfl⟩ : ∃ kv, kvs[j]? = some kv ∧ kv.2 = v := by
      cases c : kvs[j]? with
      | none => rw [c] at hv; cases hv
      | some kv => rw [c] at hv; exact ⟨kv, rfl, Option.some.inj hv⟩
    obtain ⟨b, hb, e1, e2, e3⟩ := paired_get pr (show kvs[j]? = some (kv.1, kv.2) from hkv)
    have q2 := entry_atT hent j
    rw [hb, Array.getElem?_eq_getElem hj] at q2
    have q3 : es[j] = entryOfKey (tupleKind (mixKind X.prog X.w)) b := Option.some.inj q2
    rw [ev, q3]
    exact e3
  have hz : (kvs.map (·.2)).length ≤ sizeLine := by rw [List.length_map]; exact z
  have hp : H1 (s1.heap.push { cls := .type "dict_values", data := .fields #[.ref d] }).objs.size = none := I2.hok.fresh (Nat.le_refl _)
  refine ⟨.ref _, _, I2.laid (t' := tk) (o := .lst (kvs.map (·.2))) kp (Nat.le_refl _) ?_, rfl, q _ hp⟩
  exact ⟨hz, acc'.toList, c', rv, by rw [Array.toArray_toList]; exact e⟩
theorem x_valsT {σ : L2.St} {H : Hp} {Q : VK} : tValsT td σ H Q = td σ H fun x H1 => ∃ d kvs, x = .ref d ∧ H1 d = some (.dT kvs) ∧ ∀ p, H1 p = none → Q (.ref p) (upd H1 p (.lst (kvs.map (·.2)))) := rfl
end
/-! ### d != {} -/
section
variable {prog : Program} {w : World} {A : Around} {E : Value → Shared → Prop} {s : Shared}
theorem same_empty {nm : String} {a b : Addr} {es : Array DictEntry} {ep ep' : Nat} {Q : Bool → Shared → Prop} (ha : (a == sysModules) = false) (hb : (b == sysModules) = false) (da : DT.Raw s.heap a es ep) (db : DT.Raw s.heap b #[] ep') (h : Q (es.size == 0) s) :
    wpAny (model prog w) A (Builtin.Dict.samePairs nm a b) Q E s := by
  obtain ⟨oa, hoa, _, hda⟩ := da
  obtain ⟨ob, hob, _, hdb⟩ := db
  unfold Builtin.Dict.samePairs Builtin.Dict.showsAll
  rw [if_neg (show ¬ (a == sysModules) = true by rw [ha]; exact Bool.false_ne_true), if_neg (show ¬ (b == sysModules) = true by rw [hb]; exact Bool.false_ne_true)]
  refine wpAny_bind (wpAny_pure (wpAny_bind (wpAny_pure ?_)))
  refine wpAny_bind (wpAny_dictEntries hoa hda ?_)
  dsimp only
  refine wpAny_bind (wpAny_dictEntries hob hdb ?_)
  by_cases hsz : es.size = 0
  case neg =>
    rw [if_pos (by simpa using hsz)]
    have hbf : (es.size == 0) = false := by simpa using hsz
    rw [hbf] at h
    exact wpAny_bind (wpAny_rule (wpAny_pure h))
  case pos =>
    rw [if_neg (by rw [hsz]; decide)]
    refine wpAny_bind (wpAny_dictEpoch hoa hda ?_)
    refine wpAny_bind ?_
    rw [Std.Legacy.Range.forIn_eq_forIn_range']
    simp only [Std.Legacy.Range.size, Nat.sub_zero, Nat.add_sub_cancel, Nat.div_one, hsz]
    have h' : Q true s := by rw [hsz] at h; exact h
    exact wpAny_pure (wpAny_pure h')
theorem ne_empty {a b : Addr} {es : Array DictEntry} {ep ep' : Nat} {Q : Value → Shared → Prop} (ha : (a == sysModules) = false) (hb : (b == sysModules) = false) (da : DT.Raw s.heap a es ep) (db : DT.Raw s.heap b #[] ep') (hu : A.units < cLine) (h : Q (.bool (!(es.size == 0))) s) :
    wpAny (model prog w) A (compareOp .NotEq (.ref a) (.ref b)) Q E s := by
  refine wpAny_richCompare_same_room (op := .NotEq) da.typeIs db.typeIs PySem.F.slot_dict_ne (wpAny_call_entry PySem.F.slot_dict_ne da.typeIs PySem.F.entry_dict_ne ?_ (PySem.F.args_dict_ne_2 _ _)) hu
  show wpAny _ _ (Builtin.Dict.dictSlotArgs "__ne__" ⟨[.ref a, .ref b], []⟩ >>= _) _ _ s
  refine wpAny_bind ?_
  unfold Builtin.Dict.dictSlotArgs
  refine wpAny_bind (wpAny_notOrdered_dict da.typeIs ?_)
  show wpAny _ _ (pure (Value.ref a, Value.ref b)) _ _ s
  refine wpAny_pure ?_
  refine wpAny_bind (wpAny_isInstance (T := "dict") db.typeIs PySem.F.sub_dict_dict ?_)
  simp only [Bool.not_true, Bool.false_eq_true, if_false]
  refine wpAny_bind (wpAny_pure (wpAny_bind (wpAny_pure ?_)))
  refine wpAny_bind (same_empty ha hb da db ?_)
  refine wpAny_pure ⟨_, rfl, ?_, ?_⟩
  · exact fun x => nomatch x
  · simpa using h
end
section
variable {X : Cx}
def rNeE : R2 := fun x y H Q => ∃ a b kvs, x = .ref a ∧ y = .ref b ∧ H a = some (.dT kvs) ∧ H b = some (.dT []) ∧ Q (.bl (!decide (kvs = []))) H
theorem op_neE (hu : X.A.units + 64 < cLine) : OpR X (compareOp .NotEq) rNeE := by
  intro pins s σ H x y v u Q I rx ry h
  obtain ⟨a, b, kvs, rfl, rfl, ea, eb, q⟩ := h
  obtain rfl : v = Value.ref a := rx
  obtain rfl : u = Value.ref b := ry
  obtain ⟨_, ya, xs, pr, oa, es, ep, hoa, hxa, hda, hent, _⟩ := (show ObjOk X.prog X.w H s.heap a (.dT kvs) from I.hok a _ ea)
  obtain ⟨_, yb, xs2, pr2, ob, es2, ep2, hob, hxb, hdb, hent2, _⟩ := (show ObjOk X.prog X.w H s.heap b (.dT []) from I.hok b _ eb)
  cases pr2
  have z2 : es2 = #[] := by
    apply Array.toList_inj.mp
    rw [hent2]
    rfl
  subst z2
  have l1 : es.size = xs.length := size_of_entries hent
  have l2 : kvs.length = xs.length := Paired.length pr
  have e : (!(es.size == 0)) = (!decide (kvs = [])) := by
    rw [l1, ← l2]
    cases kvs with
    | nil => rfl
    | cons x r => simp
  refine ne_empty ya yb (raw_of hoa hxa hda) (raw_of hob hxb hdb) (by omega) ?_
  rw [e]
  exact ⟨.bl _, H, I, rfl, q⟩
end
/-! ### {(a, b): v} -/
section
variable {X : Cx} {pos : Pos} {k v : Expr} {tk tv : TE}
def tDispT1 (tk tv : TE) : TE := fun σ H Q => ∀ p, H p = none → tk σ (upd H p (.dT [])) fun x H1 => tv σ H1 fun y H2 => ∃ (q : Addr) (ks : List Key), x = .ref q ∧ H2 q = some (.tup (ks.map kV)) ∧ H2 p = some (.dT []) ∧ Q (.ref p) (upd H2 p (.dT [(ks, y)]))
theorem pe_dispT1 (hu : X.A.units + 1 < cLine) (hk : PE X k tk) (hv : PE X v tv) : PE X (.Dict [some k] [v] pos) (tDispT1 tk tv) := by
  refine ⟨fun pins s σ H Q I q => ?_⟩
  have hn := I.hok.fresh (Nat.le_refl s.heap.objs.size)
  have I1 := I.laid (a := s.heap.objs.size) (o := .dT []) (h' := s.heap.push { cls := .type "dict", data := .dict #[] }) (t' := s.toks) (fun _ _ q => Heap.get?_push_of_some _ q) (Nat.le_refl _) (dt_empty s.heap I.big)
  have pp : PPs X pos [some k] [v] [(tk, tv)] := pps_cons hk hv pps_nil
  have hp : tPairs [(tk, tv)] σ (upd H s.heap.objs.size (.dT [])) fun ps H2 => match ps with
      | [(x, y)] => ∃ (q : Addr) (ks : List Key), x = .ref q ∧ H2 q = some (.tup (ks.map kV)) ∧ H2 s.heap.objs.size = some (.dT []) ∧ Q (.ref s.heap.objs.size) (upd H2 s.heap.objs.size (.dT [(ks, y)]))
      | _ => False := q _ hn
  have hl : (pairTrees [some k] [v] X.env pos).length = 1 := pairTrees_length [some k] [v] X.env pos rfl rfl
  rw [arm_eval_Dict, zip_pairTrees [some k] [v] X.env pos rfl rfl, dictDisplay_pairs _ (fun he => by rw [he] at hl; cases hl) (by rw [hl]; omega)]
  refine wpAny_bind (wpAny_standAt (wpAny_bind (wpAny_subDictH (knd := tupleKind (mixKind X.prog X.w)) (Q := fun d s' => wpAny (model X.prog X.w) X.A (pure (Value.ref d)) (EP X pins σ Q) X.xe s') (show X.A.units < cLine by omega) (by rw [hl]; omega)
    (wpAny_mono (pp.run pins _ σ _ _ I1 hp) (fun ws s2 h2 => ?_) fun _ _ e => e))))
  obtain ⟨ps, H2, I2, rel, h3⟩ := h2
  match ps, rel, h3 with
  | [(x, y)], rel, h3 =>
    obtain ⟨qa, ks, rfl, hq, hP, q2⟩ := h3
    cases rel with
    | @cons a b as bs r1 r2 =>
      cases r2
      obtain ⟨b1, b2⟩ := b
      obtain ⟨ra, rb⟩ := r1
      cases ra
      obtain ⟨z, hd, xs, kt, dd⟩ := dt_of I2.hok hP
      cases kt
      refine ⟨[(ks, qa, b2)], ⟨rfl, rfl, key_of I2.hok hq, trivial⟩, dd, fun h' tk' dd' hs => wpAny_pure ⟨.ref s.heap.objs.size, _, ?_, rfl, q2⟩⟩
      obtain ⟨qo, es, ep, hqo, h2', h3', h4', _, h5'⟩ := dd'
      refine d_write I2 (by rw [hP]; exact True.intro) hs ⟨qo, hqo⟩ ⟨by show 1 ≤ sizeLine; decide, hd, [(ks, qa, b2)], .cons ⟨rfl, ?_, rb⟩ .nil, qo, es, ep, hqo, h2', h3', h4', h5'⟩
      rw [upd_ne (ne_of hq hP (fun z => nomatch z))]
      exact hq
theorem x_dispT1 {σ : L2.St} {H : Hp} {Q : VK} : tDispT1 tk tv σ H Q = ∀ p, H p = none → tk σ (upd H p (.dT [])) fun x H1 => tv σ H1 fun y H2 => ∃ (q : Addr) (ks : List Key), x = .ref q ∧ H2 q = some (.tup (ks.map kV)) ∧ H2 p = some (.dT []) ∧ Q (.ref p) (upd H2 p (.dT [(ks, y)])) := rfl
end
end BC

set_option Elab.async false
set_option linter.all false
set_option maxRecDepth 100000
set_option maxHeartbeats 4000000
/-! constants that are tuples of numbers, sorted of a list of lists of numbers that ascends already -/
namespace BC
open PySem PySem.Spec PyProof.Rows L2 Evl
/-- a tuple of numbers that the module holds -/
def TupK (K : PySem.W.Frag) (a : Addr) (ns : List Int) : Prop := ∃ (o : Obj) (its : Array Value) (n : Nat), K.lookup a = some o ∧ o.cls = .type "tuple" ∧ o.data = .seq its n ∧ its.size ≤ sizeLine ∧ Vals (ns.map V.int) its.toList
theorem TupK.at {K : PySem.W.Frag} {a : Addr} {ns : List Int} (h : TupK K a ns) (H : Hp) : SqT K H a (ns.map V.int) := .inr h
/-! ### sorted(rows) -/
def rSortLL : List V → Hp → VK → Prop := fun xs H Q => ∃ (a : Addr) (F : Grid), xs = [.ref a] ∧ GridAt H a F ∧ F.Pairwise (fun x y => nz x < nz y) ∧ ∀ p H', H p = none → Ex H H' → GridAt H' p F → Q (.ref p) H'
theorem each_zip {P : Addr → List Nat → Prop} : ∀ (rs : List Addr) (ls : List (List Nat)), rs.length = ls.length → (∀ (i : Nat) (r : Addr) (l : List Nat), rs[i]? = some r → ls[i]? = some l → P r l) →
    PySem.W.EachIs (fun (v : Value) (b : Addr × List Nat) => v = .ref b.1 ∧ P b.1 b.2) (rs.map Value.ref) (rs.zip ls)
  | [], [], _, _ => .nil
  | r :: rs, l :: ls, hl, h => .cons ⟨rfl, h 0 r l rfl rfl⟩ (each_zip rs ls (by simpa using hl) fun i r l a b => h (i + 1) r l a b)
theorem each_refs : ∀ {out : List Value} {bs : List (Addr × List Nat)}, PySem.W.EachIs (fun (v : Value) b => v = .ref b.1) out bs → out = (bs.map (·.1)).map Value.ref
  | _, _, .nil => rfl
  | _, _, .cons h t => by rw [h, each_refs t]; rfl
theorem vals_refs' : ∀ {rs : List Addr} {vs : List Value}, Vals (rs.map V.ref) vs → vs = rs.map Value.ref
  | [], _, h => by cases h; rfl
  | r :: rs, _, h => by
    cases h with
    | cons h t => rw [vals_refs' t, show _ = Value.ref r from h]; rfl
theorem cr_sortLL {X : Cx} (hc : X.calm = true) (hu : X.A.units + 64 < cLine) : CallR X (.builtin "sorted") rSortLL := by
  intro pins s σ H xs us Q I r h
  obtain ⟨a, F, rfl, ⟨rs, ha, hl, hr⟩, pw, q⟩ := h
  obtain rfl := Vals.ref1 r
  obtain ⟨hz, vs, c, rv, ho⟩ := (show ObjOk X.prog X.w H s.heap a (.lst (rs.map V.ref)) from I.hok a _ ha)
  obtain rfl := vals_refs' rv
  rw [List.length_map] at hz
  have lz : (rs.zip F).length = rs.length := by rw [List.length_zip, hl, Nat.min_self]
  have m1 : (rs.zip F).map (·.1) = rs := List.map_fst_zip (by omega)
  have m2 : (rs.zip F).map (·.2) = F := List.map_snd_zip (by omega)
  have rd : ∀ (i : Nat) (r : Addr) (l : List Nat), rs[i]? = some r → F[i]? = some l → ∃ as, Reads s.heap (.ref r) (.list ((nz l).map .int)) as := fun i r l e1 e2 => by
    have hH := hr i r e1
    rw [row_at e2] at hH
    exact Dp.reads I _ (.ref r) (.ref r) (.lst (.inl (.inl hH)) (dp_ints _)) rfl
  have e0 := each_zip (P := fun r l => ∃ as, Reads s.heap (.ref r) (.list ((nz l).map .int)) as) rs F hl rd
  have e1 : PySem.W.EachIs (fun (v : Value) (b : Addr × List Nat) => v = .ref b.1) (rs.map Value.ref) (rs.zip F) := e0.mono fun _ _ h => h.1
  have e2 : PySem.W.EachIs (fun (v : Value) (b : Addr × List Nat) => ∃ as, Reads s.heap v (.list ((nz b.2).map .int)) as) (rs.map Value.ref) (rs.zip F) := e0.mono fun v b h => by rw [h.1]; exact h.2
  refine PySem.W.sorted_data (enc := fun b : Addr × List Nat => .list ((nz b.2).map .int)) ⟨_, ho, rfl, _, rfl⟩ e1 e2 (PySem.W.AllAlike.of fun b b' => by simp only [PySem.W.alike]; exact PySem.W.alike_ints _ _) (PySem.W.Sortable.others fun b => ⟨(by intro z; cases z), (by intro xs z; cases z)⟩) (by rw [lz]; exact hz)
    (fun b _ => by simp only [PyData.depth]; rw [PySem.W.depth_ints]; omega) fun out ho2 e3 => ?_
  have srt : (rs.zip F).mergeSort (PySem.W.dataLe false fun b : Addr × List Nat => .list ((nz b.2).map .int)) = rs.zip F := by
    rw [PySem.W.dataLe_rows (fun b : Addr × List Nat => nz b.2)]
    refine List.mergeSort_of_pairwise ?_
    have p2 : ((rs.zip F).map (·.2)).Pairwise (fun x y => nz x < nz y) := by rw [m2]; exact pw
    rw [List.pairwise_map] at p2
    exact p2.imp fun h => decide_eq_true (List.le_of_lt h)
  rw [srt] at e3
  have eo : out = rs.map Value.ref := by rw [each_refs e3, m1]
  subst eo
  obtain ⟨ep, he'⟩ := PyProof.Rows.sortedAll_at s.heap (rs.map Value.ref) (rs.map Value.ref).toArray
  have hn : H (s.heap.objs.size + 1) = none := I.hok.fresh (Nat.le_succ _)
  have ex := Ex.new hn (o := .lst (rs.map V.ref))
  exact ⟨.ref _, upd H (s.heap.objs.size + 1) (.lst (rs.map V.ref)), I.laid (t' := s.toks) (fun _ _ => PyProof.Rows.sortedAll_old) (Nat.le_succ _) ⟨by rw [List.length_map]; exact hz, rs.map Value.ref, ep, rv, he'⟩, rfl,
    q _ _ hn ex ⟨rs, upd_same, hl, fun i p e => ex _ _ (hr i p e)⟩⟩
theorem k_sortLL {X : Cx} (hc : X.calm = true) (hu : X.A.units + 64 < cLine) : CallR X (.builtin "sorted") rSortLL := cr_sortLL hc hu
/-! ### dicts of numbers by pairs -/
def ky (k : Nat × Nat) : List Key := [Sum.inl (k.1 : Int), Sum.inl (k.2 : Int)]
theorem ky_inj {a b : Nat × Nat} : ky a = ky b ↔ a = b := by
  constructor
  · intro h
    obtain ⟨a1, a2⟩ := a
    obtain ⟨b1, b2⟩ := b
    have h1 := (List.cons.inj h).1
    have h2 := (List.cons.inj (List.cons.inj h).2).1
    have e1 : (a1 : Int) = (b1 : Int) := Sum.inl.inj h1
    have e2 : (a2 : Int) = (b2 : Int) := Sum.inl.inj h2
    rw [Int.ofNat_inj.mp e1, Int.ofNat_inj.mp e2]
  · intro h; rw [h]
def renP (L : TF.KD) : List (List Key × V) := L.map fun e => (ky e.1, V.int (e.2 : Nat))
theorem renP_len (L : TF.KD) : (renP L).length = L.length := by unfold renP; rw [List.length_map]
theorem renP_val (k : Nat × Nat) : ∀ L : TF.KD, valV (renP L) (ky k) = (L.find? fun p => decide (p.1 = k)).map fun p => V.int (p.2 : Nat)
  | [] => rfl
  | p :: L => by
    have ih := renP_val k L
    unfold valV renP at ih ⊢
    rw [List.map_cons]
    by_cases c : p.1 = k
    · have f1 : (p :: L).find? (fun p => decide (p.1 = k)) = some p := List.find?_cons_of_pos (decide_eq_true c)
      have f2 : ((ky p.1, V.int (p.2 : Nat)) :: L.map fun e => (ky e.1, V.int (e.2 : Nat))).find? (fun kv => decide (kv.1 = ky k)) = some (ky p.1, V.int (p.2 : Nat)) := List.find?_cons_of_pos (decide_eq_true (ky_inj.mpr c))
      rw [f1, f2]
      rfl
    · have f1 : (p :: L).find? (fun p => decide (p.1 = k)) = L.find? (fun p => decide (p.1 = k)) := List.find?_cons_of_neg (by simpa using c)
      have f2 : ((ky p.1, V.int (p.2 : Nat)) :: L.map fun e => (ky e.1, V.int (e.2 : Nat))).find? (fun kv => decide (kv.1 = ky k)) = (L.map fun e => (ky e.1, V.int (e.2 : Nat))).find? (fun kv => decide (kv.1 = ky k)) := List.find?_cons_of_neg (by simpa using fun z => c (ky_inj.mp z))
      rw [f1, f2]
      exact ih
theorem renP_get (L : TF.KD) (k : Nat × Nat) : (valV (renP L) (ky k)).getD (V.int 0) = V.int (TF.get2 L k : Nat) := by
  rw [renP_val]
  unfold TF.get2
  cases L.find? fun p => decide (p.1 = k) with
  | none => rfl
  | some p => rfl
theorem renP_put (L : TF.KD) (k : Nat × Nat) (n : Nat) : putK (renP L) (ky k) (V.int (n : Nat)) = renP (TF.put2 L k n) := by
  have e : ((renP L).any fun kv => decide (kv.1 = ky k)) = L.any fun p => decide (p.1 = k) := by
    unfold renP
    rw [List.any_map]
    congr 1
    funext p
    exact decide_eq_decide.mpr ky_inj
  unfold putK TF.put2
  rw [e]
  split
  · unfold renP
    rw [List.map_map, List.map_map]
    refine List.map_congr_left fun p _ => ?_
    show (if ky p.1 = ky k then (ky p.1, V.int (n : Nat)) else (ky p.1, V.int (p.2 : Nat))) = (ky (if p.1 = k then (p.1, n) else p).1, V.int ((if p.1 = k then (p.1, n) else p).2 : Nat))
    by_cases c : p.1 = k
    · rw [if_pos c, if_pos (ky_inj.mpr c)]
    · rw [if_neg c, if_neg fun z => c (ky_inj.mp z)]
  · unfold renP
    rw [List.map_append]
    rfl
theorem renP_at {L : TF.KD} {i : Nat} {e : (Nat × Nat) × Nat} (h : L[i]? = some e) : (renP L)[i]? = some (ky e.1, V.int (e.2 : Nat)) := by unfold renP; rw [List.getElem?_map, h]; rfl
theorem renP_nil (L : TF.KD) : renP L = [] ↔ L = [] := by
  unfold renP
  exact List.map_eq_nil_iff
theorem renP_vals (L : TF.KD) : (renP L).map (·.2) = ((L.map (·.2)).map fun n : Nat => (n : Int)).map V.int := by
  unfold renP
  rw [List.map_map, List.map_map, List.map_map]
  rfl
/-! ### for (a, b), n in d.items() -/
theorem lg_itemsT {σ : L2.St} {H : Hp} {D : Ends} {g : TG} {tb : TS} {d : Addr} {o : Obj} {kvs : List (List Key × V)} (Pv : Nat → L2.St → Hp → Prop) (h0 : Pv 0 σ H) (hl : ∀ i σ H, i ≤ kvs.length → Pv i σ H → H d = some (.frz o (.dT kvs)))
    (hs : ∀ i k v σ H T q, kvs[i]? = some (k, v) → Pv i σ H → H T = none → H q = some (.tup (k.map kV)) → g (.ref T) σ (upd H T (.tup [.ref q, v])) fun σ2 H2 => tb { D with nx := Pv (i + 1), ct := Pv (i + 1), bk := D.nx } σ2 H2) (hd : ∀ σ H, Pv kvs.length σ H → D.nx σ H) : LoopG (Itit d o kvs) g tb D σ H := by
  refine ⟨fun i m σ H => m = kvs.length - i ∧ i ≤ kvs.length ∧ Pv i σ H, ⟨kvs.length, by simp, Nat.zero_le _, h0⟩, ?_⟩
  rintro i m σ H ⟨rfl, hi, p⟩
  have q := hl i σ H hi p
  by_cases hlt : i < kvs.length
  · refine .inr ⟨⟨q, hlt⟩, Pv (i + 1), fun σ' H' p' => ⟨kvs.length - (i + 1), by omega, rfl, hlt, p'⟩, fun x H' y => ?_⟩
    obtain ⟨T, qq, k, v, e, hq, rfl, nT, rfl⟩ := y
    exact hs i k v σ H T qq e p nT hq
  · have e : i = kvs.length := by omega
    subst e
    exact .inl ⟨⟨q, Nat.le_refl _⟩, hd σ H p⟩
theorem x_lockT {t : TS} {D : Ends} {σ : L2.St} {H : Hp} : tLock t D σ H = ∃ d u, H d = some u ∧ Mut (some u) ∧ ∀ od, t ⟨fun σ' H' => H' d = some (.frz od u) ∧ D.nx σ' (upd H' d u), fun v H' => H' d = some (.frz od u) ∧ D.rt v (upd H' d u), fun σ' H' => H' d = some (.frz od u) ∧ D.bk σ' (upd H' d u), fun σ' H' => H' d = some (.frz od u) ∧ D.ct σ' (upd H' d u)⟩ σ (upd H d (.frz od u)) := rfl
end BC

set_option Elab.async false
set_option linter.all false
set_option maxRecDepth 100000
set_option maxHeartbeats 4000000
/-! own __len__, sorted(d.items()), comprehensions over pairs -/
namespace BC
open PySem PySem.Spec PyProof.Rows L2 Evl
section
variable {X : Cx} {CX : CXT} {k : Nat} {C f : Addr} {fd : FuncData} {ps : List Str} {sp : Sp} {E : XK}
/-- len(o), by the class's own __len__ -/
def rLenOwn (C : Addr) (sp : Sp) (E : XK) : List V → Hp → VK → Prop := fun xs H Q => ∃ a dx fs, xs = [.ref a] ∧ H a = some (.ins C dx fs) ∧ sp [.ref a] H (fun v H' => ∃ n : Int, v = .int n ∧ 0 ≤ n ∧ n < 2 ^ 63 ∧ Q (.int n) H') E
theorem call_lenOwn (hs : PySem.W.findIn X.K (.ref C) "__len__" = some (some (.ref f))) (hf : PySem.W.isFn X.K (.ref f) = true) (F : FnOk X.prog X.w X.K X.mg X.base CX k f fd ps sp) (hr : Room (k + 1) X.A) (hb : Binds X.K fd ps []) (hx : Passes CX X E) : CallR X (.builtin "len") (rLenOwn C sp E) := by
  intro pins s σ H xs us Q I r h
  obtain ⟨a, dx, fs, rfl, ea, h⟩ := h
  obtain ⟨u, rfl, ru⟩ := vals1 r
  obtain rfl : u = Value.ref a := ru
  obtain ⟨mA, O, _, _, _, _⟩ := ins_get I.hok ea
  obtain ⟨od, J, _⟩ := O.look
  obtain ⟨m, hF⟩ := I.fr
  have hl : ([Value.ref a] ++ ([] : List Value)).length = ps.length := by
    rw [← F.len _ _ _ _ h]
    rfl
  refine PySem.W.len_K hF I.ok.mod.kin J hs hf (wpAny_call ?_)
  refine codeAny_mono (F.run X.A.in1 X.stack s H ⟨[.ref a], []⟩ [.ref a] [.ref a] _ E hr.in1 I.env0.in1 (hb _ [.ref a] I.kIn hl) (.cons rfl .nil) h) fun r s' hq => ?_
  cases r with
  | error er => exact hx pins σ H s er s' I hq
  | ok fl =>
    cases fl with
    | ret u =>
      obtain ⟨v, H', I3, rv, n, rfl, n0, n1, q⟩ := I.after hq
      obtain ⟨t, rfl⟩ := rv
      exact ⟨⟨n0, n1⟩, .int n, H', I3.tok _, ⟨_, rfl⟩, q⟩
    | next => exact False.elim hq
    | brk => exact False.elim hq
    | cont => exact False.elim hq
end
/-! ### sorted(d.items()), numbers by numbers -/
def PairAt (H : Hp) (t : Addr) (q : Int × Int) : Prop := H t = some (.tup [.int q.1, .int q.2])
def itK (q : Int × Int) : Key × V := (Sum.inl q.1, .int q.2)
def leP (a b : Int × Int) : Prop := a.1 < b.1 ∨ (a.1 = b.1 ∧ a.2 ≤ b.2)
open L2.DX
/-- d.items() of a dict of numbers or texts -/
def rItems : V → List V → Hp → VK → Prop := fun x xs H Q => ∃ (a : Addr) (kvs : List (Key × V)), x = .ref a ∧ xs = [] ∧ H a = some (.dK kvs) ∧ ∀ p, H p = none → Q (.ref p) (upd H p (itemsO p a))
def rSortIt : List V → Hp → VK → Prop := fun xs H Q => ∃ (v d : Addr) (qs : List (Int × Int)), xs = [.ref v] ∧ H v = some (itemsO v d) ∧ H d = some (.dK (qs.map itK)) ∧
  ∀ (H' : Hp) (p : Addr) (ts : List Addr) (rs : List (Int × Int)), Ex H H' → H p = none → H' p = some (.lst (ts.map V.ref)) → rs.Perm qs → rs.Pairwise leP → ts.length = rs.length → (∀ i t, ts[i]? = some t → H t = none ∧ PairAt H' t (rs.getD i (0, 0))) → Q (.ref p) H'
theorem pairs_get {κ : Type} [DecidableEq κ] {P : Program} {w : World} {knd : KeyKind P w κ} {es : List DictEntry} {vs : List (κ × Value)} (h : Pairs knd es vs) : ∀ {j : Nat} {en : DictEntry}, es[j]? = some en → ∃ kv, vs[j]? = some kv ∧ knd.is kv.1 en.key = true ∧ en.val = kv.2 := by
  induction h with
  | nil => intro j en e; simp at e
  | @cons e kv es kvs h1 h2 _ ih =>
    intro j en he
    cases j with
    | zero =>
      simp at he
      subst he
      exact ⟨kv, by simp, h1, h2⟩
    | succ j =>
      simp only [List.getElem?_cons_succ] at he ⊢
      exact ih he
section
variable {X : Cx}
theorem mt_items : MtR X "dict.items" rItems := by
  intro pins s σ H x xs v us Q I rx rxs h
  obtain ⟨a, kvs, rfl, rfl, ha, q⟩ := h
  cases rx
  cases rxs
  obtain ⟨hz, hd0, vs, kv, o, es, ep, ho, hx, hdat, _⟩ := dk_of I.hok ha
  refine DT.callItems (es := es) (ep := ep) hd0 ⟨o, ho, hx, hdat⟩ ?_
  have hf : H s.heap.objs.size = none := I.hok.fresh (Nat.le_refl _)
  exact ⟨.ref s.heap.objs.size, upd H s.heap.objs.size (itemsO s.heap.objs.size a), I.laid (t' := s.toks) (fun b u e => Heap.get?_push_of_some _ e) (Nat.le_refl _) (itemsO_ok (Heap.get?_push_size _ rfl)), rfl, q _ hf⟩
def adr : Value → Addr
  | .ref b => b
  | _ => 0
theorem cr_sortIt (hc : X.calm = true) : CallR X (.builtin "sorted") rSortIt := by
  intro pins s σ H xs us Q I r h
  obtain ⟨p, a, qs, rfl, hp, ha, q⟩ := h
  obtain rfl := Vals.ref1 r
  have view : s.heap.IsItemsView p a := (show ObjOk X.prog X.w H s.heap p (itemsO p a) from I.hok p _ hp).1
  obtain ⟨hz, hd0, vs, kv, o, es, ep, ho, hx, hdat, hks, prs, hn⟩ := dk_of I.hok ha
  rw [List.length_map] at hz
  have l1 : (qs.map itK).length = vs.length := Paired.length kv
  rw [List.length_map] at l1
  have l2 : es.size = vs.length := by rw [← prs.length, Array.length_toList]
  refine DT.sortedI (es := es) (ep := ep) (I.ok.hd hc) view ⟨o, ho, hx, hdat⟩ (by omega) fun h' tk as hk hlt hl hG => ?_
  have lak : as.length = qs.length := by omega
  have nd : as.Nodup := List.Pairwise.imp (fun h => Nat.ne_of_lt h) hG.rise
  have pr : ∀ (j : Nat) (b : Addr), as[j]? = some b → ∃ (g : Int × Int) (t u : Tok), qs[j]? = some g ∧ h'.get? b = some { cls := .type "tuple", data := .seq #[Value.int g.1 t, Value.int g.2 u] } := by
    intro j b hj
    obtain ⟨en, he, hg⟩ := hG.pairs j b hj
    have he' : es.toList[j]? = some en := by rw [Array.getElem?_toList]; exact he
    obtain ⟨kv0, h1, h2, h3⟩ := pairs_get prs he'
    have hjl : j < qs.length := by have := (List.getElem?_eq_some_iff.mp hj).1; omega
    have hq : qs[j]? = some qs[j] := List.getElem?_eq_getElem hjl
    obtain ⟨u, hu, ru⟩ := kv_get kv (i := j) (k := Sum.inl qs[j].1) (v := .int qs[j].2) (by rw [List.getElem?_map, hq]; rfl)
    rw [h1] at hu
    cases hu
    obtain ⟨tk1, hk1⟩ : RelV (kV (Sum.inl qs[j].1)) en.key := relV_key (show keyIs (Sum.inl qs[j].1) en.key = true from h2)
    obtain ⟨tk2, hk2⟩ := ru
    refine ⟨qs[j], tk1, tk2, hq, ?_⟩
    rw [hg, h3, hk2]
    have : en.key = Value.int qs[j].1 tk1 := hk1
    rw [this]
  have hob : (h'.push { cls := .type "list", data := .seq (as.map Value.ref).toArray }).get? h'.objs.size = some (seqObj "list" (as.map Value.ref).toArray 0) := Heap.get?_push_size _ rfl
  have kb : ∀ b o, s.heap.get? b = some o → (h'.push { cls := .type "list", data := .seq (as.map Value.ref).toArray }).get? b = some o := fun b o e => Heap.get?_push_of_some _ (hk b o e)
  have ne0 : ∀ b o, h'.get? b = some o → b ≠ h'.objs.size := fun b o e => Nat.ne_of_lt (Heap.lt_size e)
  generalize hh2 : h'.push { cls := .type "list", data := .seq (as.map Value.ref).toArray } = h2 at hob kb ⊢
  have ka : ∀ b o, h'.get? b = some o → h2.get? b = some o := fun b o e => by rw [← hh2]; exact Heap.get?_push_of_some _ e
  let kf : Value → Int × Int := fun u => qs.getD (as.idxOf (adr u)) (0, 0)
  have kfa : ∀ (j : Nat) (b : Addr), as[j]? = some b → kf (.ref b) = qs.getD j (0, 0) := fun j b hj => by
    obtain ⟨hjl, hjb⟩ := List.getElem?_eq_some_iff.mp hj
    show qs.getD (as.idxOf b) (0, 0) = _
    rw [← hjb, nd.idxOf_getElem j hjl]
  have isp : ∀ v ∈ as.map Value.ref, Srt.IsPair h2 v (kf v).1 (kf v).2 := fun v hv => by
    obtain ⟨b, hb, rfl⟩ := List.mem_map.mp hv
    obtain ⟨j, hj⟩ := List.mem_iff_getElem?.mp hb
    obtain ⟨g, t, u, hg, hob⟩ := pr j b hj
    rw [kfa j b hj, List.getD_eq_getElem?_getD, hg]
    exact ⟨b, _, t, u, 0, rfl, ka _ _ hob, rfl, rfl⟩
  refine wpAny_call_entry PyProof.Rows.slot_list_sort ⟨_, hob, rfl⟩ PyProof.Rows.entry_list_sort
    (SrtO.list_sort_ord (s := { s with heap := h2, toks := tk }) (SrtO.swo_lex kf) hob (by rw [List.length_map]; omega) (fun h2' => SrtO.pairs_sortableO (by omega) isp fun o e => ?_) fun out h1 h2' => ⟨.none, rfl, ?_⟩) (PyProof.Rows.args_list_sort _)
  · have e' : some o = some (seqObj "list" (as.map Value.ref).toArray 0) := e.symm.trans hob
    cases e'
    intro c
    exact absurd (Value.type.inj c) (by decide)
  · show EP X pins σ Q (.ref h'.objs.size) { s with heap := sortedHeap h2 h'.objs.size (as.map Value.ref) out.toArray, toks := tk }
    have hperm := h2'.perm
    have outr : ∀ u ∈ out, ∃ b, b ∈ as ∧ u = Value.ref b := fun u hu => by
      obtain ⟨b, hb, e⟩ := List.mem_map.mp (hperm.mem_iff.mp hu)
      exact ⟨b, hb, e.symm⟩
    have hout : out = (out.map adr).map Value.ref := by
      rw [List.map_map]
      conv => lhs; rw [← List.map_id out]
      refine List.map_congr_left fun u hu => ?_
      obtain ⟨b, _, rfl⟩ := outr u hu
      rfl
    have tperm : (out.map adr).Perm as := by
      have := hperm.map adr
      rw [List.map_map] at this
      have e : as.map (adr ∘ Value.ref) = as := by
        conv => rhs; rw [← List.map_id as]
        exact List.map_congr_left fun b _ => rfl
      rw [e] at this
      exact this
    have kF : ∀ b o, b ≠ h'.objs.size → h2.get? b = some o → (sortedHeap h2 h'.objs.size (as.map Value.ref) out.toArray).get? b = some o := fun b o hb e => (PyProof.Rows.sortedHeap_old hb (Heap.lt_size e)).trans e
    have kS : ∀ b o, s.heap.get? b = some o → (sortedHeap h2 h'.objs.size (as.map Value.ref) out.toArray).get? b = some o := fun b o e => kF b o (ne0 _ _ (hk b o e)) (kb b o e)
    obtain ⟨eF, heF⟩ := PyProof.Rows.sortedHeap_at (vs := as.map Value.ref) (out := out.toArray) hob
    have I1 : Inv X pins σ H { s with heap := sortedHeap h2 h'.objs.size (as.map Value.ref) out.toArray, toks := tk } := I.kept (t' := tk) kS
    have hn0 : H h'.objs.size = none := I.hok.fresh (Nat.le_of_lt hlt)
    have lout : (out.map adr).length = qs.length := by rw [tperm.length_eq, lak]
    have rv : Vals ((out.map adr).map V.ref) out := by
      conv => rhs; rw [hout]
      exact LiI.vals_refs _
    have I2 : Inv X pins σ (upd H h'.objs.size (.lst ((out.map adr).map V.ref))) { s with heap := sortedHeap h2 h'.objs.size (as.map Value.ref) out.toArray, toks := tk } :=
      I1.take (h' := sortedHeap h2 h'.objs.size (as.map Value.ref) out.toArray) (t' := tk) (fun b ob _ e => e) (I.fpOk (Nat.le_of_lt hlt) hn0) ⟨by rw [List.length_map, lout]; omega, out, eF, rv, heF⟩
    obtain ⟨H2, I3, g, qt⟩ := takeT (P := fun b vs => ∃ (j : Nat) (g : Int × Int), as[j]? = some b ∧ qs[j]? = some g ∧ vs = [.int g.1, .int g.2]) I as _ I2 nd fun b hb => by
      obtain ⟨j, hj⟩ := List.mem_iff_getElem?.mp hb
      obtain ⟨g, t, u, hg, hob⟩ := pr j b hj
      have hbl : s.heap.objs.size ≤ b := Nat.le_of_lt (hG.above b hb)
      refine ⟨hbl, ?_, [.int g.1, .int g.2], ⟨j, g, hj, hg, rfl⟩, fun H3 => ⟨(by rw [sizeLine_eq]; show 2 ≤ 16777216; omega), [Value.int g.1 t, Value.int g.2 u], .cons ⟨t, rfl⟩ (.cons ⟨u, rfl⟩ .nil), ⟨_, kF _ _ (ne0 _ _ hob) (ka _ _ hob), rfl, 0, rfl⟩⟩⟩
      rw [upd_ne (ne0 _ _ hob)]
      exact I.hok.fresh hbl
    have gr : ∀ b o, H b = some o → H2 b = some o := fun b o e => g b o (by rw [upd_ne (ne_of_none e hn0)]; exact e)
    refine ⟨.ref h'.objs.size, H2, I3, rfl, q H2 h'.objs.size (out.map adr) ((out.map adr).map fun b => kf (.ref b)) gr hn0 (g _ _ upd_same) ?_ ?_ (by simp only [List.length_map]) fun i t hi => ?_⟩
    · have e := tperm.map (fun b => kf (.ref b))
      have e2 : as.map (fun b => kf (.ref b)) = qs := by
        apply List.ext_getElem?
        intro j
        rw [List.getElem?_map]
        cases c : as[j]? with
        | none =>
          rw [List.getElem?_eq_none_iff] at c
          rw [List.getElem?_eq_none (by omega)]
          rfl
        | some b =>
          have hjl := (List.getElem?_eq_some_iff.mp c).1
          show some (kf (.ref b)) = _
          rw [kfa j b c, List.getD_eq_getElem?_getD, List.getElem?_eq_getElem (by omega)]
          rfl
      rw [e2] at e
      exact e
    · have hs := h1
      rw [hout] at hs
      unfold SrtO.Srtd at hs
      rw [List.pairwise_map] at hs
      rw [List.pairwise_map]
      refine hs.imp fun {x y} h => ?_
      have := SrtO.lexB_no.mp h
      unfold leP
      show (kf (.ref x)).1 < (kf (.ref y)).1 ∨ ((kf (.ref x)).1 = (kf (.ref y)).1 ∧ (kf (.ref x)).2 ≤ (kf (.ref y)).2)
      omega
    · have ta : t ∈ as := tperm.mem_iff.mp (List.mem_of_getElem? hi)
      obtain ⟨vs', ⟨j, g', j1, j2, ev⟩, hH⟩ := qt t ta
      refine ⟨I.hok.fresh (Nat.le_of_lt (hG.above t ta)), ?_⟩
      have e3 : ((out.map adr).map fun b => kf (.ref b)).getD i (0, 0) = g' := by
        rw [List.getD_eq_getElem?_getD, List.getElem?_map, hi]
        show kf (.ref t) = g'
        rw [kfa j t j1, List.getD_eq_getElem?_getD, j2]
        rfl
      unfold BC.PairAt
      rw [e3, hH, ev]
end
/-! ### xs[:1] = ys -/
theorem bounds_head (n : Nat) : sliceBounds none (some 1) none n = (((0 : Nat) : Int), ((min 1 n : Nat) : Int), 1) := by
  unfold sliceBounds
  simp
  omega
section
variable {prog : Program} {w : World} {A : Around} {s : Shared} {E : Value → Shared → Prop}
theorem setItem_head {l b sl : Addr} {items new : Array Value} {n n2 : Nat} {vl vu : Value} {Q : Unit → Shared → Prop}
    (e : s.heap.get? l = some { cls := .type "list", data := .seq items n }) (e2 : s.heap.get? b = some { cls := .type "list", data := .seq new n2 }) (hne : l ≠ b)
    (hs : s.heap.IsSliceOf sl vl vu .none) (pl : IsPart vl none) (pu : IsPart vu (some 1))
    (hsz : items.size + new.size ≤ sizeLine) (h : Q () { s with heap := s.heap.update l (Obj.mapSeq fun xs => xs.extract 0 0 ++ new ++ xs.extract (min 1 items.size) xs.size) }) :
    wpAny (model prog w) A (setItem (.ref l) (.ref sl) (.ref b)) Q E s := by
  have hl : s.heap.IsList l items := PySem.IsL.isList e
  have hb : s.heap.IsList b new := PySem.IsL.isList e2
  obtain ⟨os, hos, hcs, hds⟩ := id hs
  have hTs : s.TypeIs (.ref sl) "slice" := ⟨os, hos, hcs⟩
  have hstep : ¬ ((rawPart none == rawInt 0) = true) := Bool.false_ne_true
  have hsame : Builtin.List.listSameRef (.ref l) (.ref b) = false := by
    unfold Builtin.List.listSameRef
    exact beq_eq_false_iff_ne.mpr hne
  have hmax : (max ((0 : Nat) : Int) ((min 1 items.size : Nat) : Int)).toNat = min 1 items.size := by omega
  have hz' : ((fun xs : Array Value => xs.extract 0 0 ++ new ++ xs.extract (min 1 items.size) xs.size) items).size ≤ sizeLine + 1 := by
    simp only [Array.size_append, Array.size_extract]
    omega
  unfold setItem
  try with_reducible refine wpAny_holding ?_
  first | refine wpAny_bind (wpAny_pure ?_) | skip
  refine wpAny_bind (wpAny_sequenceKey hl.typeIs (by decide) ?_)
  refine wpAny_bind (wpAny_callSpecial?_slot (name := Str.ofString "__setitem__") hl.typeIs slot_list_setitem
    (wpAny_call_entry slot_list_setitem hl.typeIs entry_list_setitem ?_ (args_list_setitem _ _ _)))
  show wpAny _ _ (Builtin.List.listSubscript? (.ref sl) >>= _) _ _ s
  refine wpAny_bind ?_
  unfold Builtin.List.listSubscript?
  refine wpAny_bind (wpAny_specialOf hTs slice_no_index ?_)
  simp only [Option.isNone_none, if_true]
  refine wpAny_pure ?_
  show wpAny _ _ (typeOf (.ref sl) >>= _) _ _ s
  refine wpAny_bind (wpAny_typeOf hTs ?_)
  first
    | rw [if_neg (by decide)]
    | refine PySem.W.KFB.if_not (by decide) ?_
  rw [listSliceParts_eq]
  refine wpAny_bind (wpAny_bind (wpAny_field hos hds (x := .none) rfl (wpAny_bind (wpAny_listPart .none ?_))))
  rw [if_neg hstep]
  refine wpAny_bind (wpAny_field hos hds (x := vl) rfl (wpAny_bind (wpAny_listPart pl ?_)))
  refine wpAny_bind (wpAny_field hos hds (x := vu) rfl (wpAny_bind (wpAny_listPart pu (wpAny_pure ?_))))
  first
    | simp only [hsame, Bool.false_eq_true, if_false]
    | refine PySem.W.KFB.if_not hsame ?_
    | (dsimp only
       rw [if_neg (by rw [hsame]; exact Bool.false_ne_true)])
  refine wpAny_bind (m := Builtin.List.listAllItems (.ref b) "must assign iterable to extended slice") ?_
  unfold Builtin.List.listAllItems
  refine wpAny_bind (wpAny_typeOf hb.typeIs ?_)
  first
    | refine PySem.W.KFB.if_so (by decide) ?_
    | rw [if_pos (by decide)]
    | simp only [beq_self_eq_true, Bool.true_or, if_true]
  unfold Builtin.List.listItems
  refine wpAny_bind (wpAny_seqItems e2 rfl (wpAny_pure ?_))
  refine wpAny_bind (wpAny_bind (wpAny_seqItems e rfl (wpAny_pure ?_)))
  refine wpAny_bind (wpAny_of_eq ((sliceIndices_raw none (some 1) none items.size (by simp)).trans (congrArg (pure : Int × Int × Int → Sem (Int × Int × Int)) (bounds_head items.size))) ?_)
  show wpAny _ _ (if ((1 : Int) == 1) = true then _ else _) _ _ s
  rw [if_pos (by decide)]
  refine wpAny_bind (wpAny_rule ?_)
  first
    | simp only [notLongL hsz, Bool.false_eq_true, if_false]
    | refine PySem.W.KFB.if_not (notLongL hsz) ?_
  first | refine wpAny_bind (wpAny_pure ?_) | skip
  show wpAny _ _ (updateSeq l (fun xs => xs.extract 0 ((0 : Nat) : Int).toNat ++ new ++ xs.extract (max ((0 : Nat) : Int) ((min 1 items.size : Nat) : Int)).toNat xs.size) >>= _) _ _ s
  rw [hmax, Int.toNat_natCast]
  refine wpAny_bind (wpAny_updateSeq (hz := Nat.le_trans (Nat.le_add_right _ _) hsz) (_hz' := hz') e rfl ?_)
  refine wpAny_bind (wpAny_letGo ?_)
  first
    | exact wpAny_bind (wpAny_pure (wpAny_pure ⟨.none, rfl, wpAny_pure h⟩))
    | exact wpAny_pure ⟨.none, rfl, wpAny_pure h⟩
end
section
variable {X : Cx} {o e : Expr} {to : TE} {p2 pos : Pos}
/-- o[:1] = v, both lists -/
def gHead (to : TE) : TG := fun v σ H QG => to σ H fun x H1 => ∃ a b xs ys, x = .ref a ∧ v = .ref b ∧ a ≠ b ∧ H1 a = some (.lst xs) ∧ H1 b = some (.lst ys) ∧ xs.length + ys.length ≤ sizeLine ∧ QG σ (upd H1 a (.lst (ys ++ xs.drop 1)))
theorem set_head {pins : List (Addr × Obj)} {s : Shared} {σ : L2.St} {H : Hp} {l b sl : Addr} {xs ys : List V} {vl vu : Value} {Q : Unit → Shared → Prop} (I : Inv X pins σ H s)
    (hH : H l = some (.lst xs)) (hB : H b = some (.lst ys)) (hne : l ≠ b) (hs : s.heap.IsSliceOf sl vl vu .none) (pl : IsPart vl none) (pu : IsPart vu (some 1))
    (hz : xs.length + ys.length ≤ sizeLine) (h : ∀ s', Inv X pins σ (upd H l (.lst (ys ++ xs.drop 1))) s' → Q () s') :
    wpAny (model X.prog X.w) X.A (setItem (.ref l) (.ref sl) (.ref b)) Q X.xe s := by
  obtain ⟨z, its, n, r, hl, e⟩ := I.lstM hH
  obtain ⟨z2, its2, n2, r2, hl2, e2⟩ := I.lstM hB
  refine setItem_head e e2 hne hs pl pu (by rw [List.size_toArray, List.size_toArray]; omega) (h _ ?_)
  have ed : ∀ {α : Type} (zs : List α), zs.drop (min 1 zs.length) = zs.drop 1 := fun zs => by
    cases zs with
    | nil => rfl
    | cons a zs => rw [List.length_cons, show min 1 (zs.length + 1) = 1 by omega]
  have er : ys ++ xs.drop 1 = xs.take 0 ++ ys ++ xs.drop (min 1 xs.length) := by rw [ed, List.take_zero, List.nil_append]
  rw [er]
  refine I.lset (its' := its.take 0 ++ its2 ++ its.drop (min 1 its.length)) (t' := s.toks) hH e ?_ (Vals.append (Vals.append (r.take _) r2) (by rw [r.length]; exact r.drop _)) ?_
  · rw [List.size_toArray]
    exact splice_eq its its2 0 (min 1 its.length)
  · rw [List.length_append, List.length_append, List.length_take, List.length_drop]
    omega
theorem pg_head {k1 : Nat} {p3 : Pos} (ho : PE X o to)
    (ha0 : ∀ v, assign (.Subscript o (.Slice none (some (.Constant (.int 1) k1 p3)) none p2) pos) X.env v = (do
      let ov ← holding [v] (eval o X.env)
      let iv ← holding [v, ov] (eval (.Slice none (some (.Constant (.int 1) k1 p3)) none p2) X.env)
      standAt pos
      holding [v, ov, iv] (setItem ov iv v)
      release [iv, v, ov] []) := by intro _; rfl) : PG X (.Subscript o (.Slice none (some (.Constant (.int 1) k1 p3)) none p2) pos) (gHead to) := by
  refine ⟨fun pins s σ H v u Q I r h => ?_⟩
  rw [ha0]
  refine wpAny_bind (wpAny_holding (thn (ho.run pins s σ H _ I h) fun ov s1 ⟨x, H1, I1, r1, q1⟩ => ?_))
  obtain ⟨a, b, xs, ys, rfl, rfl, hne, ha, hb, hz, q⟩ := q1
  cases r1
  cases r
  refine wpAny_bind (wpAny_holding ?_)
  refine wpAny_Slice ?_
  rw [evalPart_none]
  refine wpAny_pure ?_
  rw [evalPart_some]
  refine thn ((pe_int (X := X) (i := 1)).run pins s1 σ H1 (fun v H' => v = .int 1 ∧ H' = H1) I1 ⟨rfl, rfl⟩) fun u s2 ⟨x, H2, I2, r2, ex, eH⟩ => ?_
  subst ex
  subst eH
  obtain ⟨t, rfl⟩ := r2
  refine wpAny_pure ?_
  have I4 : Inv X pins σ H2 { s2 with heap := s2.heap.push { cls := .type "slice", data := .fields #[.none, .int 1 t, .none] } } := I2.kept (t' := s2.toks) fun b ob q => Heap.get?_push_of_some _ q
  refine wpAny_bind (wpAny_standAt (wpAny_bind (wpAny_holding ?_)))
  refine set_head I4 ha hb hne (Heap.IsSliceOf.new ..) .none (.int _ _) hz fun s' I5 => ?_
  exact wpAny_release ⟨σ, _, I5, q⟩
theorem x_ghead {σ : L2.St} {H : Hp} {v : V} {QG : L2.St → Hp → Prop} : gHead to v σ H QG = to σ H fun x H1 => ∃ a b xs ys, x = .ref a ∧ v = .ref b ∧ a ≠ b ∧ H1 a = some (.lst xs) ∧ H1 b = some (.lst ys) ∧ xs.length + ys.length ≤ sizeLine ∧ QG σ (upd H1 a (.lst (ys ++ xs.drop 1))) := rfl
end
/-! ### comprehensions over pairs -/
section
variable {K : PySem.W.Frag} {σ : L2.St} {H1 : Hp} {g : TG} {tt : TT} {te : TE} {vs : List Nat} {Dl : Addr} {Q : VK}
/-- the items of a list or a tuple are pairs -/
theorem lc_pairs {a : Addr} {J : It} {ts : List Addr} {u v : Nat → V} {j k : Nat} (hJ : (J = Itl K a ∧ SqL K H1 a (ts.map V.ref)) ∨ (J = Itt K a ∧ SqT K H1 a (ts.map V.ref))) (hp : ∀ i t, ts[i]? = some t → H1 t = some (.tup [u i, v i])) (keep : Nat → Bool) (f : Nat → V) (hD : H1 Dl = none) (hn : ts.length ≤ 100000)
    (hw : ∀ x y : V, wipe (((wipe σ vs).set j (some x)).set k (some y)) vs = wipe σ vs)
    (ht : ∀ i, i < ts.length → Evl.EvT tt (((wipe σ vs).set j (some (u i))).set k (some (v i))) H1 (keep i))
    (he : ∀ i, i < ts.length → keep i = true → Evl.Ev te (((wipe σ vs).set j (some (u i))).set k (some (v i))) H1 (f i))
    (hd : ∀ H', Evl.Ex H1 H' → H' Dl = some (.lst (kept ts.length keep f)) → Q (.ref Dl) H') : LcG J (gTup K 2 (gCons (gName j) (gCons (gName k) gNil))) tt te vs σ Dl H1 Q := by
  have gt : ∀ i, i < ts.length → ts[i]? = some (ts.getD i 0) := fun i hi => by rw [List.getD_eq_getElem?_getD, List.getElem?_eq_getElem hi]; rfl
  have fin : ∀ (i : Nat) (H' : Hp) (x : V) (QG : L2.St → Hp → Prop), i < ts.length → Evl.Ex H1 H' → (ts.map V.ref)[i]? = some x → (Evl.Ex H' H' → QG (((wipe σ vs).set j (some (u i))).set k (some (v i))) H') → gTup K 2 (gCons (gName j) (gCons (gName k) gNil)) x (wipe σ vs) H' QG := fun i H' x QG hi e hx q => by
    rw [List.getElem?_map, gt i hi] at hx
    cases hx
    exact g_two (e _ _ (hp i _ (gt i hi))) (q (Ex.refl _))
  rcases hJ with ⟨rfl, hx⟩ | ⟨rfl, hx⟩
  · refine lc_pure ts.length (fun i => ((wipe σ vs).set j (some (u i))).set k (some (v i))) keep f hD hn (fun H' e => ⟨_, Evl.ex_l e hx, by rw [List.length_map]; exact Nat.le_refl _⟩) (fun i H' hi e => ⟨_, _, Evl.ex_l e hx, by rw [List.getElem?_map, gt i hi]; rfl⟩)
      (fun i H' x H'' QG hi e y q => ?_) (fun i hi => hw _ _) ht he hd
    obtain ⟨rfl, hf⟩ := y
    exact fin i _ _ QG hi e (hf _ (Evl.ex_l e hx)) q
  · refine lc_pure ts.length (fun i => ((wipe σ vs).set j (some (u i))).set k (some (v i))) keep f hD hn (fun H' e => ⟨_, Evl.ex_t e hx, by rw [List.length_map]; exact Nat.le_refl _⟩) (fun i H' hi e => ⟨_, _, Evl.ex_t e hx, by rw [List.getElem?_map, gt i hi]; rfl⟩)
      (fun i H' x H'' QG hi e y q => ?_) (fun i hi => hw _ _) ht he hd
    obtain ⟨rfl, hf⟩ := y
    exact fin i _ _ QG hi e (hf _ (Evl.ex_t e hx)) q
/-- zip of two lists, the second not longer -/
theorem lc_zipS {a b : Addr} {xs ys : List V} {j k : Nat} (keep : Nat → Bool) (f : Nat → V) (hx : SqL K H1 a xs) (hy : SqL K H1 b ys) (he0 : ys.length ≤ xs.length) (hD : H1 Dl = none) (hn : ys.length ≤ 100000)
    (hw : ∀ u v : V, wipe (((wipe σ vs).set j (some u)).set k (some v)) vs = wipe σ vs)
    (ht : ∀ i x y, xs[i]? = some x → ys[i]? = some y → Evl.EvT tt (((wipe σ vs).set j (some x)).set k (some y)) H1 (keep i))
    (he : ∀ i x y, xs[i]? = some x → ys[i]? = some y → keep i = true → Evl.Ev te (((wipe σ vs).set j (some x)).set k (some y)) H1 (f i))
    (hd : ∀ H', Evl.Ex H1 H' → H' Dl = some (.lst (kept ys.length keep f)) → Q (.ref Dl) H') : LcG (Itz K a b) (gTup K 2 (gCons (gName j) (gCons (gName k) gNil))) tt te vs σ Dl H1 Q := by
  have gx : ∀ i, i < ys.length → xs[i]? = some (xs.getD i .non) := fun i hi => by rw [List.getD_eq_getElem?_getD, List.getElem?_eq_getElem (by omega)]; rfl
  have gy : ∀ i, i < ys.length → ys[i]? = some (ys.getD i .non) := fun i hi => by rw [List.getD_eq_getElem?_getD, List.getElem?_eq_getElem hi]; rfl
  refine lc_pure ys.length (fun i => ((wipe σ vs).set j (some (xs.getD i .non))).set k (some (ys.getD i .non))) keep f hD hn (fun H' e => ⟨xs, ys, Evl.ex_l e hx, Evl.ex_l e hy, ?_⟩)
    (fun i H' hi e => ⟨xs, ys, _, _, Evl.ex_l e hx, Evl.ex_l e hy, gx i hi, gy i hi⟩)
    (fun i H' x H'' QG hi e y q => ?_) (fun i hi => hw _ _) (fun i hi => ht i _ _ (gx i hi) (gy i hi)) (fun i hi => he i _ _ (gx i hi) (gy i hi)) hd
  · first | exact .inr (Nat.le_refl _) | exact .inr ⟨by omega, Nat.le_refl _⟩ | (simp; omega)
  obtain ⟨T, u, v, rfl, hT, rfl, hf, hf2⟩ := y
  have hu := hf xs (Evl.ex_l e hx)
  have hv := hf2 ys (Evl.ex_l e hy)
  have e1 : xs.getD i .non = u := by rw [List.getD_eq_getElem?_getD, hu]; rfl
  have e2 : ys.getD i .non = v := by rw [List.getD_eq_getElem?_getD, hv]; rfl
  refine g_two upd_same ?_
  have q2 := q (Evl.Ex.new hT)
  rw [e1, e2] at q2
  exact q2
end
/-! ### dict(pairs), sorted(d) -/
section
variable {K : PySem.W.Frag}
theorem putK_end {kvs : List (Key × V)} {k : Key} {v : V} (h : k ∉ kvs.map (·.1)) : putK kvs k v = kvs ++ [(k, v)] := by
  unfold putK
  rw [if_neg]
  intro e
  obtain ⟨p, hp, e⟩ := List.any_eq_true.mp e
  exact h (List.mem_map.mpr ⟨p, hp, of_decide_eq_true e⟩)
theorem mergeK_nodup : ∀ (more kvs : List (Key × V)), ((kvs ++ more).map (·.1)).Nodup → mergeK kvs more = kvs ++ more
  | [], kvs, _ => by rw [List.append_nil]; rfl
  | p :: more, kvs, h => by
    have hn : p.1 ∉ kvs.map (·.1) := fun hm => by
      rw [List.map_append, List.nodup_append] at h
      exact h.2.2 p.1 hm p.1 (by simp) rfl
    show mergeK (putK kvs p.1 p.2) more = _
    rw [putK_end hn, mergeK_nodup more _ (by rw [List.append_assoc]; exact h)]
    simp
theorem nodup_itK {qs : List (Int × Int)} (h : (qs.map (·.1)).Nodup) : ((qs.map itK).map (·.1)).Nodup := by
  have e : (qs.map itK).map (·.1) = (qs.map (·.1)).map Sum.inl := by rw [List.map_map, List.map_map]; rfl
  rw [e, List.nodup_iff_pairwise_ne, List.pairwise_map]
  exact h.imp fun h e => h (Sum.inl.inj e)
/-- what the list of pairs at a reads -/
def PairsAt (K : PySem.W.Frag) (H : Hp) (a : Addr) (ts : List Addr) (qs : List (Int × Int)) : Prop := SqL K H a (ts.map V.ref) ∧ ts.length = qs.length ∧ ∀ i t, ts[i]? = some t → PairAt H t (qs.getD i (0, 0))
theorem PairsAt.ex {H H' : Hp} {a : Addr} {ts : List Addr} {qs : List (Int × Int)} (h : PairsAt K H a ts qs) (e : Ex H H') : PairsAt K H' a ts qs := ⟨ex_l e h.1, h.2.1, fun i t hi => e _ _ (h.2.2 i t hi)⟩
def rDictI (K : PySem.W.Frag) : List V → Hp → VK → Prop := fun xs H Q => ∃ (a : Addr) (ts : List Addr) (qs : List (Int × Int)), xs = [.ref a] ∧ PairsAt K H a ts qs ∧ (qs.map (·.1)).Nodup ∧ ∀ p, H p = none → Q (.ref p) (upd H p (.dK (qs.map itK)))
theorem paired_of {H : Hp} : ∀ {ts : List Addr} {qs : List (Int × Int)}, ts.length = qs.length → (∀ (i : Nat) t, ts[i]? = some t → PairAt H t (qs.getD i (0, 0))) → Paired (fun p kv => SqT K H p [kV kv.1, kv.2]) ts (qs.map itK)
  | [], [], _, _ => .nil
  | [], _ :: _, h, _ => by simp at h
  | _ :: _, [], h, _ => by simp at h
  | t :: ts, q :: qs, h, hp => .cons (.inl (.inl (hp 0 t rfl))) (paired_of (by simpa using h) fun i u hi => by
    have := hp (i + 1) u (by simpa using hi)
    simpa using this)
theorem k_dictP {X : Cx} (hK : X.K = K) (hc : X.calm = true) : CallR X (.type "dict") (rDictI K) := by
  subst hK
  intro pins s σ H xs us Q I r h
  obtain ⟨a, ts, qs, rfl, ⟨hs, hl, hp⟩, nd, q⟩ := h
  refine call_dictP hc pins s σ H _ us Q I r ⟨a, ts, qs.map itK, rfl, hs, paired_of hl hp, fun p np => ?_⟩
  have e : mergeK [] (qs.map itK) = qs.map itK := by rw [mergeK_nodup _ _ (by simpa using nodup_itK nd)]; rfl
  rw [e]
  exact q p np
def rSortDI : List V → Hp → VK → Prop := fun xs H Q => ∃ (a : Addr) (kvs : List (Key × V)) (ks : List Int), xs = [.ref a] ∧ Rd H a (.dK kvs) ∧ kvs.map (·.1) = ks.map Sum.inl ∧ ks.length < 64 ∧
    ∀ (ys : List Int) (p : Addr), ys.Perm ks → ys.Pairwise (· ≤ ·) → H p = none → Q (.ref p) (upd H p (.lst (ys.map V.int)))
theorem cr_sortDI {X : Cx} (hc : X.calm = true) : CallR X (.builtin "sorted") rSortDI := call_sortedDI hc
theorem tyD {H : Hp} {p : Addr} {kvs : List (Key × V)} (h : H p = some (.dK kvs)) : tyV K "dict" (.ref p) H := .inr (.inr (.inl ⟨rfl, .inl ⟨kvs, h⟩⟩))
theorem valV_itK {qs : List (Int × Int)} (nd : (qs.map (·.1)).Nodup) {x y : Int} (h : (x, y) ∈ qs) : valV (qs.map itK) (Sum.inl x) = some (.int y) := by
  induction qs with
  | nil => exact (List.not_mem_nil h).elim
  | cons q qs ih =>
    rw [List.map_cons, List.nodup_cons] at nd
    rw [List.map_cons]
    rcases List.mem_cons.mp h with e | h
    · subst e
      exact valV_pos rfl
    · have ne : q.1 ≠ x := fun e => nd.1 (List.mem_map.mpr ⟨(x, y), h, e.symm⟩)
      rw [valV_neg (by show ¬ (Sum.inl q.1 : Key) = Sum.inl x; exact fun e => ne (Sum.inl.inj e))]
      exact ih nd.2 h
theorem valV_itK_none {qs : List (Int × Int)} {x : Int} (h : x ∉ qs.map (·.1)) : valV (qs.map itK) (Sum.inl x) = none := by
  induction qs with
  | nil => rfl
  | cons q qs ih =>
    rw [List.map_cons, List.mem_cons, not_or] at h
    rw [List.map_cons, valV_neg (by show ¬ (Sum.inl q.1 : Key) = Sum.inl x; exact fun e => h.1 (Sum.inl.inj e).symm)]
    exact ih h.2
end
/-! ### readings -/
section
variable {K : PySem.W.Frag} {σ : L2.St} {H : Hp} {Q : VK} {ta tv : TE} {a : TA} {D : Ends} {f : Str} {C : Addr} {sp : Sp} {dvs : List V} {E : XK}
theorem x_fld : tFld K ta f σ H Q = ta σ H (fun x H1 => ∃ a C dx fs v, x = .ref a ∧ H1 a = some (.ins C dx fs) ∧ Cls K C ∧ NoAttr K C f ∧ fs.lookup f = some v ∧ Q v H1) := rfl
theorem x_sfld : sFld K ta tv f D σ H = tv σ H (fun y H1 => ta σ H1 fun x H2 => ∃ a C dx fs, x = .ref a ∧ H2 a = some (.ins C dx fs) ∧ Cls K C ∧ NoAttr K C f ∧ fs.length < 1000 ∧ D.nx σ (upd H2 a (.ins C dx (putF f y fs)))) := rfl
theorem x_prop : tProp C sp dvs E ta σ H Q = ta σ H (fun x H1 => ∃ a dx fs, x = .ref a ∧ H1 a = some (.ins C dx fs) ∧ sp (.ref a :: dvs) H1 Q E) := rfl
theorem x_meth {m : Str} {t : TA} : tMeth C m sp dvs E ta t σ H Q = ta σ H (fun x H1 => ∃ a dx fs, x = .ref a ∧ H1 a = some (.ins C dx fs) ∧ fs.lookup m = none ∧ t σ H1 fun vs H2 => sp (x :: (vs ++ dvs)) H2 Q E) := rfl
theorem x_make : tMake C sp dvs E a σ H Q = a σ H (fun vs H1 => ∀ x dx, H1 x = none → H1 dx = none → dx ≠ x → sp (.ref x :: (vs ++ dvs)) (upd (upd H1 dx (.own x)) x (.ins C dx [])) (fun v H2 => v = .non ∧ Q (.ref x) H2) E) := rfl
theorem k_fld {X : Cx} {e : Expr} {pos : Pos} (hK : X.K = K) (he : PE X e ta) (hb : attributeBase e f X.env (eval e X.env) = eval e X.env) : PE X (.Attribute e f pos) (tFld K ta f) := by subst hK; exact pe_fld he hb
theorem k_sfld {X : Cx} {o value : Expr} {pos' pos : Pos} (hK : X.K = K) (ha : PE X o ta) (hv : PE X value tv) (hs : swapsWith value (some (.Attribute o f pos')) pos.line X.env = pure false) : PS X (.Assign [.Attribute o f pos'] value pos) (sFld K ta tv f) := by subst hK; exact ps_fld ha hv hs
def DcG (J : It) (g : TG) (tt : TT) (tk tv : TE) (vs : List Nat) (σ : L2.St) (D : Addr) (H1 : Hp) (Q : VK) : Prop := ∃ W : Nat → Nat → Hp → Prop, (∃ m, W 0 m (upd H1 D (.dK []))) ∧ ∀ i m H, W i m H →
  (J.stop i H ∧ Q (.ref D) H) ∨ (J.go i H ∧ ∃ Nx : Hp → Prop, (∀ H', Nx H' → ∃ m', m' < m ∧ W (i + 1) m' H') ∧ ∀ x H', J.yld i H x H' → g x (wipe σ vs) H' fun σ2 H2 => wipe σ2 vs = wipe σ vs ∧ tt σ2 H2 fun b H3 =>
    if b = true then tk σ2 H3 fun y H4 => tv σ2 H4 fun z H5 => ∃ kvs k, y = kV k ∧ H5 D = some (.dK kvs) ∧ kvs.length < sizeLine ∧ Nx (upd H5 D (.dK (putK kvs k z))) else Nx H3)
theorem x_dc {wi : TI} {g : TG} {tt : TT} {tk tv : TE} {vs : List Nat} : tDc wi g tt tk tv vs σ H Q = wi σ H (fun J H1 => ∀ D, H1 D = none → DcG J g tt tk tv vs σ D H1 Q) := rfl
theorem dcg_tup {a : Addr} {xs : List V} {g : TG} {tt : TT} {tk tv : TE} {vs : List Nat} {H1 : Hp} {D : Addr} (Pv : Nat → Hp → Prop) (h0 : Pv 0 (upd H1 D (.dK []))) (hl : ∀ i H, i ≤ xs.length → Pv i H → SqT K H a xs)
    (hs : ∀ i x H, xs[i]? = some x → Pv i H → g x (wipe σ vs) H fun σ2 H2 => wipe σ2 vs = wipe σ vs ∧ tt σ2 H2 fun b H3 =>
      if b = true then tk σ2 H3 fun y H4 => tv σ2 H4 fun z H5 => ∃ kvs k, y = kV k ∧ H5 D = some (.dK kvs) ∧ kvs.length < sizeLine ∧ Pv (i + 1) (upd H5 D (.dK (putK kvs k z))) else Pv (i + 1) H3) (hd : ∀ H, Pv xs.length H → Q (.ref D) H) : DcG (Itt K a) g tt tk tv vs σ D H1 Q := dc_tup (Qd := fun H => Q (.ref D) H) Pv h0 hl hs hd
end
theorem lg_zip {K : PySem.W.Frag} {a b : Addr} {xs ys : List V} {g : TG} {tb : TS} {D : Ends} {σ : L2.St} {H : Hp} (hl : xs.length = ys.length) (Pv : Nat → L2.St → Hp → Prop) (h0 : Pv 0 σ H) (hq : ∀ i σ H, Pv i σ H → SqL K H a xs ∧ SqL K H b ys)
    (hs : ∀ (i : Nat) (x y : V) (T : Addr) (σ : L2.St) (H : Hp), xs[i]? = some x → ys[i]? = some y → Pv i σ H → H T = none → g (.ref T) σ (upd H T (.tup [x, y])) fun σ2 H2 => tb { D with nx := Pv (i + 1), ct := Pv (i + 1), bk := D.nx } σ2 H2) (hd : ∀ σ H, Pv xs.length σ H → D.nx σ H) : LoopG (Itz K a b) g tb D σ H := RZ.for_zipL hl Pv h0 hq hs hd
/-! ### what comes behind each visit -/
def seconds (row : List Int) : List Int := row.drop 1 ++ row.drop (row.length - 1)
theorem cut_drop1 (row : List Int) : cutV (row.map V.int) (some 1) none = (row.drop 1).map V.int := by
    cases row with
    | nil => rfl
    | cons a r =>
      have e : HT.sIx ((a :: r).map V.int).length 0 (some 1) = 1 := by
        show (if (1 : Int) < 0 then ((1 : Int) + (((a :: r).map V.int).length : Int)).toNat else min (1 : Int).toNat ((a :: r).map V.int).length) = 1
        rw [if_neg (by omega), List.length_map, List.length_cons]
        show min 1 (r.length + 1) = 1
        omega
      unfold cutV
      rw [e, HT.sIx_none, List.map_drop, List.take_of_length_le (by rw [List.length_drop]; exact Nat.le_refl _)]
theorem cut_seconds (row : List Int) : cutV (row.map V.int) (some 1) none ++ cutV (row.map V.int) (some (-1)) none = (seconds row).map V.int := by
  have h1 : cutV (row.map V.int) (some 1) none = (row.drop 1).map V.int := by
    unfold cutV
    cases row with
    | nil => rfl
    | cons a r =>
      have e : HT.sIx ((a :: r).map V.int).length 0 (some 1) = 1 := by
        show (if (1 : Int) < 0 then ((1 : Int) + (((a :: r).map V.int).length : Int)).toNat else min (1 : Int).toNat ((a :: r).map V.int).length) = 1
        rw [if_neg (by omega), List.length_map, List.length_cons]
        show min 1 (r.length + 1) = 1
        omega
      rw [e, HT.sIx_none, List.map_drop, List.take_of_length_le (by rw [List.length_drop]; exact Nat.le_refl _)]
  have h2 : cutV (row.map V.int) (some (-1)) none = (row.drop (row.length - 1)).map V.int := by
    have e : HT.sIx (row.map V.int).length 0 (some (-1)) = row.length - 1 := by
      show (if (-1 : Int) < 0 then ((-1 : Int) + ((row.map V.int).length : Int)).toNat else min (-1 : Int).toNat (row.map V.int).length) = _
      rw [if_pos (by omega), List.length_map]
      omega
    unfold cutV
    rw [e, HT.sIx_none, List.map_drop, List.take_of_length_le]
    rw [List.length_drop, List.length_map]
    exact Nat.le_refl _
  rw [h1, h2, seconds, List.map_append]
theorem seconds_len (row : List Int) : (seconds row).length = row.length := by
  unfold seconds
  rw [List.length_append, List.length_drop, List.length_drop]
  omega
theorem seconds_at {row : List Int} {i : Nat} (hi : i < row.length) : (seconds row)[i]? = some ((row.drop (i + 1)).headD (row.getD i 0)) := by
  unfold seconds
  by_cases c : i + 1 < row.length
  · rw [List.getElem?_append_left (by rw [List.length_drop]; omega), List.getElem?_drop, List.headD_eq_head?_getD, List.head?_drop, Nat.add_comm 1 i, List.getElem?_eq_getElem c]
    rfl
  · rw [List.getElem?_append_right (by rw [List.length_drop]; omega), List.length_drop, List.getElem?_drop, List.drop_eq_nil_of_le (by omega), show row.length - 1 + (i - (row.length - 1)) = i by omega, List.getD_eq_getElem?_getD, List.getElem?_eq_getElem hi]
    rfl
theorem ev_din {ty td : TE} {σ : L2.St} {H : Hp} {d : Addr} {kvs : List (Key × V)} {k : Key} (hy : Ev ty σ H (kV k)) (hd : Ev td σ H (.ref d)) (h : H d = some (.dK kvs)) : Ev (tDIn ty td) σ H (.bl (valV kvs k).isSome) := fun H1 e Q q => hy H1 e _ fun H2 e2 => hd H2 (e.trans e2) _ fun H3 e3 => ⟨d, _, rfl, DGet.k (e3 _ _ (e2 _ _ (e _ _ h))), q H3 (e2.trans e3)⟩
theorem ev_dnotin {ty td : TE} {σ : L2.St} {H : Hp} {d : Addr} {kvs : List (Key × V)} {k : Key} (hy : Ev ty σ H (kV k)) (hd : Ev td σ H (.ref d)) (h : H d = some (.dK kvs)) : Ev (tDNotIn ty td) σ H (.bl (!(valV kvs k).isSome)) := fun H1 e Q q => hy H1 e _ fun H2 e2 => hd H2 (e.trans e2) _ fun H3 e3 => ⟨d, _, rfl, DGet.k (e3 _ _ (e2 _ _ (e _ _ h))), q H3 (e2.trans e3)⟩
theorem ev_dget {ty td : TE} {σ : L2.St} {H : Hp} {d : Addr} {kvs : List (Key × V)} {k : Key} {v : V} (hd : Ev td σ H (.ref d)) (hy : Ev ty σ H (kV k)) (h : H d = some (.dK kvs)) (hv : valV kvs k = some v) : Ev (tDGet td ty) σ H v := fun H1 e Q q => hd H1 e _ fun H2 e2 => hy H2 (e.trans e2) _ fun H3 e3 => ⟨d, v, rfl, .inl ⟨_, k, .inl (e3 _ _ (e2 _ _ (e _ _ h))), rfl, hv.symm⟩, q H3 (e2.trans e3)⟩
theorem putK_le (c : List (Key × V)) (k : Key) (x : V) : (putK c k x).length ≤ c.length + 1 := by
  unfold putK
  split
  · rw [List.length_map]; omega
  · rw [List.length_append, List.length_singleton]; omega
end BC

set_option Elab.async false
set_option linter.all false
set_option maxRecDepth 100000
set_option maxHeartbeats 4000000
/-! a caught exception as a tracked object: in its suite, behind it, and handed to defs -/
namespace BC
open PySem PySem.Spec PyProof.Rows L2
/-- an exception's object: its class, its dict -/
def ExT (cls : Value) (d : Option Addr) (a : Addr) : HO := .ext fun h => ∃ (ob : Obj) (fs : Array Value), h.get? a = some ob ∧ Zc cls d ob ∧ ob.data = .fields fs
theorem exT_ok {P : Program} {w : World} {H : Hp} {h : Heap} {a : Addr} {cls : Value} {d : Option Addr} {ob : Obj} {fs : Array Value} (e : h.get? a = some ob) (z : Zc cls d ob) (f : ob.data = .fields fs) : ObjOk P w H h a (ExT cls d a) := by
  refine ⟨⟨ob, fs, e, z, f⟩, ⟨ob, e⟩, ?_⟩
  rintro h1 h2 ⟨o2, f2, e2, z2, q2⟩ k
  exact ⟨o2, f2, k _ e2, z2, q2⟩
/-- at a stands an exception of this class, without a dict -/
def IsEx (H : Hp) (a : Addr) (cls : Value) : Prop := ∃ φ : Heap → Prop, H a = some (.ext φ) ∧ ∀ h, φ h → ∃ (ob : Obj) (fs : Array Value), h.get? a = some ob ∧ Zc cls none ob ∧ ob.data = .fields fs
theorem isEx_T {H : Hp} {a : Addr} {cls : Value} (h : H a = some (ExT cls none a)) : IsEx H a cls := ⟨_, h, fun _ q => q⟩
theorem isEx_O {H : Hp} {a : Addr} {cls : Value} (h : H a = some (ExO cls a)) : IsEx H a cls := ⟨_, h, fun _ q => by
  obtain ⟨ob, fs, e, z, d, _⟩ := q
  exact ⟨ob, fs, e, z, d⟩⟩
theorem IsEx.at {H H' : Hp} {a : Addr} {cls : Value} (x : IsEx H a cls) (h : ∀ o, H a = some o → H' a = some o) : IsEx H' a cls := by
  obtain ⟨φ, e, q⟩ := x
  exact ⟨φ, h _ e, q⟩
section
variable {X : Cx} {pins : List (Addr × Obj)} {σ : L2.St} {H : Hp} {s : Shared}
/-- an object that stands untracked, younger than the frame, is tracked -/
theorem inv_track {a : Addr} {φ : Heap → Prop} (I : Inv X pins σ H s) (n0 : X.s_0.heap.get? a = none) (na : H a = none) (nL : a ≠ X.env.locals) (nC : ∀ x c, X.env.cells.lookup x = some c → c ≠ a) (nP : ∀ p ∈ X.pn ++ pins, p.1 ≠ a)
    (new : ObjOk X.prog X.w (upd H a (.ext φ)) s.heap a (.ext φ)) : Inv X pins σ (upd H a (.ext φ)) s := by
  have old : ∀ b o, X.s_0.heap.get? b = some o → b ≠ a := by
    rintro b o e rfl
    rw [n0] at e
    cases e
  have trk : ∀ {b : Addr} {o : HO}, H b = some o → b ≠ a := by
    rintro b o e rfl
    rw [na] at e
    cases e
  have frame : upd H a (.ext φ) X.env.locals = none := by rw [upd_ne (Ne.symm nL)]; exact I.free
  have un : Un X.fs X.ex X.H_0 (upd H a (.ext φ)) X.s_0.heap s.heap :=
    { keep := I.base.keep
      slot := I.base.slot
      free := fun b o e n x => by rw [upd_ne (old b o e)]; exact I.base.free b o e n x
      there := I.base.there
      tups := fun b xs e => by have q := I.base.tups b xs e; rw [upd_ne (trk q)]; exact q
      frzs := fun b o xs e => by have q := I.base.frzs b o xs e; rw [upd_ne (trk q)]; exact q
      tbls := fun b ps e => by obtain ⟨m, q⟩ := I.base.tbls b ps e; exact ⟨m, by rw [upd_ne (trk q)]; exact q⟩ }
  have held : HOk X.prog X.w (upd H a (.ext φ)) s.heap := by
    intro b u e
    by_cases q : b = a
    · subst q
      rw [upd_same] at e
      cases e
      exact new
    · rw [upd_ne q] at e
      exact (I.hok b u e).stay (fun _ _ _ z => z) (fun c z => by rw [upd_ne (trk z)]; exact z) fun c xs z => by rw [upd_ne (trk z)]; exact z
  exact { ok := I.ok, os := I.os, bare := I.bare, base := un, loc := I.loc, cell := I.cell, free := frame, hok := held, len := I.len
          freeC := fun x c e => by rw [upd_ne (nC x c e)]; exact I.freeC x c e
          pin := fun p hp => by obtain ⟨h1, h2, h3⟩ := I.pin p hp; exact ⟨h1, by rw [upd_ne (nP p hp)]; exact h2, h3⟩ }
/-- into the suite, the exception tracked -/
theorem inv_intoT (I : Inv X pins σ H s) (a : Addr) : Inv (X.suite a (X.pn ++ pins)) [] σ H s :=
  ⟨I.ok.suite a (X.pn ++ pins), I.os, I.bare, I.base, I.loc, I.cell, I.free, I.freeC, fun p hp => I.pin p (by rwa [List.append_nil] at hp), I.hok, I.len⟩
theorem inv_outT {a : Addr} {pn' : List (Addr × Obj)} (I : Inv (X.suite a (X.pn ++ pins)) pn' σ H s) (ok : X.Ok) : Inv X pins σ H s :=
  ⟨ok, I.os, I.bare, I.base, I.loc, I.cell, I.free, I.freeC, fun p hp => I.pin p (List.mem_append_left _ hp), I.hok, I.len⟩
end
/-- the wish of 'except x as n' where the exception is tracked from then on -/
def wTrk (K : PySem.W.Frag) (c : Value) (i : Nat) (ts : Addr → Value → Option Addr → TS) (Wout : WX) (D : Ends) : WX := fun cls d σ H =>
  ∃ b, PySem.W.exmOne K cls c = some b ∧ (b = true → ∀ a, H a = none → ts a cls d { nx := fun σ' H' => D.nx (σ'.set i none) H', rt := D.rt, bk := fun σ' H' => D.bk (σ'.set i none) H', ct := fun σ' H' => D.ct (σ'.set i none) H' } (σ.set i (some (.ref a))) (upd H a (ExT cls d a))) ∧
    (b = false → Wout cls d σ H)
section
variable {X : Cx} {x n : Str} {c : Value} {i : Nat} {body suite : List Stmt} {b0 : Stmt} {np pos hpos : Pos} {tb : WX → TS} {ts : Addr → Value → Option Addr → TS} {Wout : WX}
theorem ps_try_trk (hs : X.stack = X.env :: X.outer) (hf : X.env.frame = some X.env.locals) (hx : X.ex = []) (hN : X.N.Nodup) (hi : X.N[i]? = some n) (hln : X.env.kindOf n = some .local) (hc : Names X x c) (tk : Takes X Wout)
    (hb : ∀ (W : WX) (pn : List (Addr × Obj)) (xe : Value → Shared → Prop), Takes (X.tr pn xe) W → PassesOwn (model X.prog X.w) X.A X.env xe → PSs (X.tr pn xe) body (tb W))
    (hsu : ∀ (a : Addr) (cls : Value) (d : Option Addr) (pn : List (Addr × Obj)), PSs (X.suite a pn) (b0 :: suite) (ts a cls d)) :
    PS X (.Try body [.ExceptHandler (some (.Name x np)) (some n) (b0 :: suite) hpos] [] [] pos) (fun D σ H => tb (wTrk X.K c i ts Wout D) D σ H) := by
  constructor
  intro pins s σ H D I h
  have ok := I.ok
  have frames : X.A.frames = some (X.env :: X.outer) := hs ▸ ok.frames
  let W0 := wTrk X.K c i ts Wout D
  let after := fun (e : Value) (s1 : Shared) => wpAny (model X.prog X.w) X.A (noteFrame e X.env) (fun _ s2 => wpAny (model X.prog X.w) X.A (setFlight e none) (fun _ s3 =>
    wpAny (model X.prog X.w) X.A (handleBy e X.env [.ExceptHandler (some (.Name x np)) (some n) (b0 :: suite) hpos]) (SP X pins D) X.xe s3) X.xe s2) X.xe s1
  have take : Takes (X.tr (X.pn ++ pins) after) W0 := by
    rintro u s' ⟨a, B, sI, pins1, σ1, H1, cls, d, rfl, J0, nb, up, sky, na, os, ag, b, eb, yes, no⟩
    have J : Inv X pins σ1 H1 sI := J0.ofTry ok
    rw [show (X.tr (X.pn ++ pins) after).stack = X.env :: X.outer from hs] at sky
    refine Sky.land (Z := Zc cls d) Zc.steady frames hf sky fun h3 fly3 up3 => ?_
    have J3 : Inv X pins σ1 H1 { s' with heap := h3 } := J.landed nb fly3.1 (up.trans up3) os ag
    obtain ⟨o3, f3, e3, z3, d3⟩ := fly3.there
    have outside : a ∉ frs (X.env :: X.outer) := by
      intro hm
      obtain ⟨_, o', e', no'⟩ := fly3.2.2.1.mem hm
      rw [e3] at e'
      cases e'
      exact no' _ d3
    have gone : sI.heap.get? a = none := by
      cases q : sI.heap.get? a with
      | none => rfl
      | some o =>
        have z := nb a o q (by rw [show (X.tr (X.pn ++ pins) after).stack = X.env :: X.outer from hs]; exact outside)
        rw [fly3.2.1] at z
        cases z
    have n0 : X.s_0.heap.get? a = none := by
      cases q : X.s_0.heap.get? a with
      | none => rfl
      | some o =>
        obtain ⟨o', z⟩ := J.base.there a o q (by rw [hx]; exact List.not_mem_nil)
        rw [gone] at z
        cases z
    have nL : a ≠ X.env.locals := fun z => outside (List.mem_filterMap.mpr ⟨X.env, List.mem_cons_self, by rw [hf, z]⟩)
    have nF : a ∉ X.fs := by
      intro hm
      obtain ⟨e, he, q⟩ := List.mem_filterMap.mp hm
      exact outside (List.mem_filterMap.mpr ⟨e, List.mem_cons_of_mem _ he, q⟩)
    have nC : ∀ y k, X.env.cells.lookup y = some k → k ≠ a := by
      rintro y k e rfl
      obtain ⟨v, o, z, _⟩ := J.cell y k e
      rw [gone] at z
      cases z
    have nP : ∀ p ∈ X.pn ++ pins, p.1 ≠ a := by
      intro p hp q
      have z := (J.pin p hp).1
      rw [q, gone] at z
      cases z
    have S3 := J3.suite e3 d3 na nL nF
    refine wpAny_handleBy_cons (codeAny_handlers_test ?_) (fun q => nomatch q)
    have LT : PySem.W.Looks (model X.prog X.w) h3 (typeOf (.ref a)) cls := fun A Q E s2 k q => wpAny_typeOf_ref (k _ _ e3) (by rw [z3.1]; exact q)
    have LM := PySem.W.exm_one (M := model X.prog X.w) (J3.kIn) LT eb
    have asked : ∀ {Q : Value → Shared → Prop} {E : Value → Shared → Prop}, Q c { s' with heap := h3 } → wpAny (model X.prog X.w) (X.A.mark (some (.ref a))) (eval (.Name x np) X.env) Q E { s' with heap := h3 } := by
      intro Q E q
      obtain ⟨hg, hdb, hm | ⟨hm, hv, hnn⟩⟩ := hc
      · exact ld_glob (X := X.suite a ((a, o3) :: (X.pn ++ pins))) S3 hg hm q hdb
      · exact ld_blt (X := X.suite a ((a, o3) :: (X.pn ++ pins))) S3 hg hm hv q hnn hdb
    refine asked (LM.here ?_)
    cases b with
    | false =>
      show wpAny _ X.A (handleBy (.ref a) X.env []) _ _ _
      refine wpAny_handleBy_nil ?_
      obtain ⟨_, _, _, ob, vs, T, oT, tt, he, hz, hd, h1, hr⟩ := id fly3
      have fin : wpAny (model X.prog X.w) X.A (setFlight (.ref a) X.env.frame) (fun _ s4 => wpAny (model X.prog X.w) X.A (throw (.ref a) : Sem Flow) (SP X pins D) X.xe s4) X.xe { s' with heap := h3 } := by
        rw [hf]
        refine HandSPX.setFlight_upZ fly3 fun h4 held up4 => wpAny_throw (tk _ _ ?_)
        exact ⟨a, B, sI, pins, σ1, H1, cls, d, rfl, J, by rw [hs]; rw [show (X.tr (X.pn ++ pins) after).stack = X.env :: X.outer from hs] at nb; exact nb, (up.trans up3).trans up4, .inr (.inr (by rw [hs]; exact held)), na, os, ag, no rfl⟩
      unfold PySem.passOn
      refine wpAny_bind (wpAny_field he hd h1 ?_)
      rw [if_neg (by simp : ¬ ((Value.ref T == Value.none) = true))]
      first
        | exact wpAny_bind fin
        | exact wpAny_bind (wpAny_pure (wpAny_bind fin))
    | true =>
      refine codeAny_handlers_suite_as ?_
      refine HandSPX.lands_againZ fly3 fun h4 fly4 up4 => ?_
      have J4 : Inv X pins σ1 H1 { s' with heap := h4 } := J.landed nb fly4.1 ((up.trans up3).trans up4) os ag
      obtain ⟨o4, f4, e4, z4, d4⟩ := fly4.there
      have T4 : Inv X pins σ1 (upd H1 a (ExT cls d a)) { s' with heap := h4 } := inv_track J4 n0 na nL nC nP (exT_ok e4 z4 d4)
      refine store_ok (X := X.suite a (X.pn ++ pins)) (v := .ref a) (inv_intoT T4 a) hN hi (.inl hln) rfl (fun s5 S5 => ?_) (.inr hln)
      refine wpAny_mono ((hsu a cls d (X.pn ++ pins)).run [] s5 _ _ _ S5 (yes rfl a na)) (fun fl s6 res => ?_) fun _ _ z => z.elim
      have close : ∀ {σ6 : L2.St} {H6 : Hp} {Q : Shared → Prop}, Inv (X.suite a (X.pn ++ pins)) [] σ6 H6 s6 → (∀ s7, Inv X pins (σ6.set i none) H6 s7 → Q s7) →
          wpAny (model X.prog X.w) X.A (do bindName X.env n .none; unbindBehindTheSuite X.env n hpos) (fun _ s7 => Q s7) X.xe s6 := fun S6 q => gone_ok (inv_outT S6 ok) hN hi hln q
      match fl, res with
      | .next, res =>
        obtain ⟨σ6, H6, S6, q6⟩ := res
        exact close S6 fun s7 J7 => ⟨_, _, J7, q6⟩
      | .brk, res =>
        obtain ⟨σ6, H6, S6, q6⟩ := res
        exact close S6 fun s7 J7 => ⟨_, _, J7, q6⟩
      | .cont, res =>
        obtain ⟨σ6, H6, S6, q6⟩ := res
        exact close S6 fun s7 J7 => ⟨_, _, J7, q6⟩
      | .ret u, res =>
        obtain ⟨v6, σ6, H6, S6, r6, q6⟩ := res
        exact close S6 fun s7 J7 => ⟨_, _, _, J7, r6, q6⟩
  refine wpAny_Try_except (wpAny_mono ((hb W0 (X.pn ++ pins) after take PassesOwn.looking).run [] s σ H D (I.toTry _) h) (fun fl s1 res => ?_) fun e s1 he => he)
  match fl, res with
  | .next, res =>
    obtain ⟨σ2, H2, J2, q⟩ := res
    exact wpAny_execs_nil ⟨σ2, H2, J2.ofTry ok, q⟩
  | .brk, res =>
    obtain ⟨σ2, H2, J2, q⟩ := res
    exact ⟨σ2, H2, J2.ofTry ok, q⟩
  | .cont, res =>
    obtain ⟨σ2, H2, J2, q⟩ := res
    exact ⟨σ2, H2, J2.ofTry ok, q⟩
  | .ret u, res =>
    obtain ⟨v, σ2, H2, J2, r, q⟩ := res
    exact ⟨v, σ2, H2, J2.ofTry ok, r, q⟩
end
/-! ### isinstance of a tracked exception -/
/-- isinstance(e, C) -/
def rIsX (K : PySem.W.Frag) : List V → Hp → VK → Prop := fun xs H Q => ∃ (a D : Addr) (c : V) (cv : Value) (b : Bool), xs = [.ref a, c] ∧ IsEx H a (.ref D) ∧ ExcC K D ∧ ClsV c cv ∧ PySem.W.kitOne K (.ref D) cv = some b ∧ Q (.bl b) H
/-- isinstance(e, (C1, C2, ..)) -/
def rIsXT (K : PySem.W.Frag) : List V → Hp → VK → Prop := fun xs H Q => ∃ (a D tp : Addr) (cs : List V) (us : List Value) (b : Bool), xs = [.ref a, .ref tp] ∧ IsEx H a (.ref D) ∧ ExcC K D ∧ H tp = some (.tup cs) ∧ Paired ClsV cs us ∧ PySem.W.kitAny K (.ref D) us = some b ∧ Q (.bl b) H
section
variable {X : Cx} {K : PySem.W.Frag}
theorem isx_at {pins : List (Addr × Obj)} {σ : L2.St} {H : Hp} {s : Shared} {a D : Addr} (I : Inv X pins σ H s) (x : IsEx H a (.ref D)) : ∃ ob, PySem.W.InstAt s.heap a ob D none := by
  obtain ⟨φ, e, q⟩ := x
  obtain ⟨ob, fs, e1, ⟨z1, z2⟩, d1⟩ := q _ (I.hok a _ e).1
  obtain ⟨oc, od, dt, sl⟩ := ob
  dsimp only at z1 z2 d1
  subst z1 z2 d1
  exact ⟨_, e1, rfl, rfl, trivial⟩
theorem k_isX (hK : X.K = K) : CallR X (.builtin "isinstance") (rIsX K) := by
  subst hK
  intro pins s σ H xs us Q I r h
  obtain ⟨a, D, c, cv, b, rfl, x, C, k, e, q⟩ := h
  obtain ⟨u1, u2, rfl, r1, r2⟩ := vals2 r
  obtain rfl : u1 = Value.ref a := r1
  obtain rfl := k.eq r2
  obtain ⟨ob, J⟩ := isx_at I x
  exact PySem.W.kia_one (PySem.W.handS_kitx_exc C.hg C.hk C.hs C.hd C.ha C.hn C.ht C.hm) I.kIn J e (fun z => nomatch z) fun tk => ⟨.bl b, H, I.tok tk, rfl, q⟩
theorem k_isXT (hK : X.K = K) : CallR X (.builtin "isinstance") (rIsXT K) := by
  subst hK
  intro pins s σ H xs us Q I r h
  obtain ⟨a, D, tp, cs, ws, b, rfl, x, C, hT, k, e, q⟩ := h
  obtain ⟨u1, u2, rfl, r1, r2⟩ := vals2 r
  obtain rfl : u1 = Value.ref a := r1
  obtain rfl : u2 = Value.ref tp := r2
  obtain ⟨ob, J⟩ := isx_at I x
  obtain ⟨_, its, rv, o, h1, h2, m, h3⟩ := (I.hok tp _ hT : ObjOk X.prog X.w H s.heap tp (.tup cs))
  obtain rfl := ClsV.all k rv
  obtain ⟨oc, od, dt, sl⟩ := o
  dsimp only at h2 h3
  subst h2 h3
  exact PySem.W.kia_tup (PySem.W.handS_kitx_exc C.hg C.hk C.hs C.hd C.ha C.hn C.ht C.hm) I.kIn J h1 e (fun z => nomatch z) fun tk => ⟨.bl b, H, I.tok tk, rfl, q⟩
end
/-! ### defs that may be called while an exception is handled -/
structure FnU (P : Program) (w : World) (K : PySem.W.Frag) (mg : Str → Option Value) (base : Heap) (k : Nat) (f : Addr) (fd : FuncData) (ps : List Str) (sp : Sp) : Prop where
  size : ∀ vs H Q E, sp vs H Q E → vs.length = ps.length
  go : ∀ (A : Around) (outer : List Env) (s : Shared) (H : Hp) (args : Args) (us : List Value) (vs : List V) (Q : VK) (E : XK), L2H.RoomH k A → Env0 P w K mg base A outer s H →
    BindsTo s fd args (ps.zip us) → Vals vs us → sp vs H Q E → codeAny (model P w) A (.call (.ref f) args) (CR CX0 outer P w H s Q E) s
/-- the context of such a def's body -/
def cxU (P : Program) (w : World) (K : PySem.W.Frag) (mg : Str → Option Value) (base : Heap) (N : List Str) (qual : Str) (scope : Scope) (f : Addr) (cd : Value) (A : Around) (outer : List Env) (s : Shared) (H : Hp) (E : XK) : Cx :=
  { cxOf CX0 P w K mg base N qual scope f cd A outer s H E with calm := false }
section
variable {P : Program} {w : World} {K : PySem.W.Frag} {mg : Str → Option Value} {base : Heap} {k : Nat} {f : Addr} {fd : FuncData} {ps : List Str} {sp : Sp}
theorem fun_okU {x qual : Str} {st : Stmt} {N : List Str} (F : Fun K x qual st f fd) (S : FnScope N ps (defScope st)) (size : ∀ vs H Q E, sp vs H Q E → vs.length = ps.length)
    (body : ∀ (cdv : Value) (A : Around) (outer : List Env) (s : Shared) (H : Hp) (vs : List V) (Q : VK) (E : XK), L2H.RoomH k (A.deeper (envOfC qual (defScope st) s.heap.objs.size f cdv)) → sp vs H Q E →
      ∃ t, PSs (cxU P w K mg base N qual (defScope st) f cdv A outer s H E) (defBody st) t ∧ t { nx := fun _ H' => Q .non H', rt := Q } (start N vs) H) : FnU P w K mg base (k + 1) f fd ps sp := by
  obtain ⟨oc, od, kV, doc, pm, an, cdv, ct, osl, rfl, lk, hcd⟩ := F.ex
  refine ⟨size, fun A outer s H args us vs Q E room env bind vals prom => ?_⟩
  have inK : K.In s.heap := env.mod.kin.keeps fun b o q => (env.bs b o q).1
  have loose : s.heap.NoLimit := env.mod.nolimit.keeps fun b o q => (env.bs b o q).1
  have kinds : ∀ z ∈ ps.zip us, (defScope st).names.lookup z.1 = some .local ∨ ((defScope st).names.lookup z.1 = some .cell ∧ ((cellsFrom (s.heap.objs.size + 1) (defScope st).names []).lookup z.1).isSome = true) := by
    rintro ⟨n, v⟩ hz
    have hn := (List.of_mem_zip hz).1
    rcases S.par n hn with h | h
    · exact Or.inl h
    · exact Or.inr ⟨h, PySem.W.cellsFrom_some _ _ _ (Or.inl h)⟩
  refine codeAny_call_function room.depth (inK _ _ lk) rfl S.co S.gen rfl (PySem.W.codeRec_of inK hcd) (bind _ _ _ _ ?_)
  refine wpAny_newFunctionEnv_cells S.kind kinds fun env' e1 s1 into => ?_
  subst e1
  refine ⟨loose.keeps into.toInCall.keep, codeAny_func ?_⟩
  obtain ⟨t, deriv, read⟩ := body cdv A outer s H vs Q E (room.deeper _) prom
  have env1 : Env0 P w K mg base { A with handled := none } outer s H := ⟨env.frames, env.mod, env.bs, env.bsz, env.funs, env.frf, env.hok, env.bare⟩
  have I0 := inv_start (CX := CX0) (E := E) (A := { A with handled := none }) S rfl env1 (size _ _ _ _ prom) vals into
  have I : Inv (cxU P w K mg base N qual (defScope st) f cdv A outer s H E) [] (start N vs) H s1 :=
    ⟨⟨I0.ok.mod, I0.ok.kind, I0.ok.glob, I0.ok.blt, I0.ok.above, I0.ok.inj, I0.ok.has, I0.ok.cab, (fun z => absurd (show false = true from z) Bool.false_ne_true), I0.ok.frames, I0.ok.stk, I0.ok.exf, I0.ok.bs, I0.ok.bsz, I0.ok.noex, I0.ok.exfs, I0.ok.funs, I0.ok.frf⟩,
      I0.os, I0.bare, I0.base, I0.loc, I0.cell, I0.free, I0.freeC, I0.pin, I0.hok, I0.len⟩
  refine wpAny_mono (deriv.run [] s1 (start N vs) H _ I read) (fun flow s' ends => ?_) fun _ _ q => q
  have done : ∀ {σ2 : L2.St} {H2 : Hp} {v : V} {u : Value}, Inv (cxU P w K mg base N qual (defScope st) f cdv A outer s H E) [] σ2 H2 s' → RelV v u → Q v H2 → CE outer P w H s Q u s' := by
    intro σ2 H2 v u J rel q
    exact ⟨v, H2, J.os, J.bare, J.base, J.hok, rel, q⟩
  match flow, ends with
  | .ret u, ends =>
    obtain ⟨v, σ2, H2, J, rel, q⟩ := ends
    exact done J rel q
  | .next, ends =>
    obtain ⟨σ2, H2, J, q⟩ := ends
    exact done (v := V.non) (u := Value.none) J rfl q
  | .brk, ends =>
    obtain ⟨_, _, _, q⟩ := ends
    exact q.elim
  | .cont, ends =>
    obtain ⟨_, _, _, q⟩ := ends
    exact q.elim
end
section
variable {X : Cx} {k : Nat} {f : Addr} {fd : FuncData} {ps : List Str} {sp : Sp} {E : XK} {x : Str} {p pos : Pos} {e : Expr} {es : List Expr} {t : TA}
theorem pe_callU (F : FnU X.prog X.w X.K X.mg X.base k f fd ps sp) (hr : L2H.RoomH k X.A) (hg : Gl X x) (hm : X.mg x = some (.ref f)) (hk : PySem.W.keepIn X.K (.ref f) = true) (hb : Binds X.K fd ps []) (hx : Passes CX0 X E)
    (ha : PA X (e :: es) t) (hdb : (x == ("__debug__" : Str)) = false := by decide) (he : starEach (e :: es) X.env = (false, eval e X.env) :: starEach es X.env := by rfl) (hpl : (backTo pos (starEach es X.env)).any (·.1) = false := by rfl) :
    PE X (.Call (.Name x p) (e :: es) [] pos) (tCall sp [] E t) := by
  constructor
  intro pins s σ H Q I h
  have args := ha.run pos pins s σ H _ I h
  refine wpAny_Call_Name_kw (ld_glob I hg hm (PySem.W.callWith_K (h₀ := X.base) I.ok.mod.kin hk (thn args ?_) he hpl) hdb)
  rintro us s1 ⟨vs, H1, I1, r, q⟩
  rw [List.append_nil] at q
  refine ⟨I1.kIn, ?_⟩
  have many : (us ++ []).length = ps.length := by rw [List.append_nil]; exact r.length.symm.trans (F.size _ _ _ _ q)
  have bs := hb s1 us I1.kIn many
  rw [List.append_nil] at bs
  have run := F.go X.A X.stack s1 H1 ⟨us, []⟩ us vs Q E hr I1.env0 bs r q
  refine wpAny_call (codeAny_mono run fun res s' z => ?_)
  match res, z with
  | .error err, z => exact hx pins σ H1 s1 err s' I1 z
  | .ok (.ret u), z => exact I1.after z
end
end BC
namespace BC
open PySem PySem.Spec PyProof.Rows L2
theorem roomM {k : Nat} {A : Around} {v : Option Value} (r : L2H.RoomH k A) : L2H.RoomH k (A.mark v) := ⟨r.dp, r.un⟩
/-- own classes ahead of ValueError's -/
def MroIs (K : PySem.W.Frag) (C : Addr) (l : List Addr) : Prop := ∃ cd, PySem.W.clsIn K C = some cd ∧ cd.mro = l.map Value.ref ++ HandSPX.veTail
theorem own_has {l : List Addr} {D : Addr} : (l.map Value.ref ++ HandSPX.veTail).contains (.ref D) = decide (D ∈ l) := by
  induction l with
  | nil => rfl
  | cons a l ih =>
    rw [List.map_cons, List.cons_append, List.contains_cons, ih]
    by_cases e : D = a
    · subst e; simp
    · have : (Value.ref D == Value.ref a) = false := by simpa using e
      rw [this, Bool.false_or]
      simp [e]
theorem mro_sub {K : PySem.W.Frag} {C : Addr} {l : List Addr} (m : MroIs K C l) (v : Value) : PySem.W.subIn K (.ref C) v = some ((l.map Value.ref ++ HandSPX.veTail).contains v) := by
  obtain ⟨cd, h1, h2⟩ := m
  show PySem.W.mroIn K C v = _
  unfold PySem.W.mroIn
  rw [h1]
  show (if cd.mro.isEmpty = true then none else some (cd.mro.contains v)) = _
  rw [h2, if_neg (by cases l <;> simp [HandSPX.veTail])]
/-- isinstance of own exceptions, among each other -/
theorem kit_own {K : PySem.W.Frag} {C D : Addr} {l l2 : List Addr} (m : MroIs K C l) (m2 : MroIs K D l2) (t : PySem.W.typeIn K (.ref D) = some (.type "type")) (hC : C ∈ l) : PySem.W.kitOne K (.ref C) (.ref D) = some (decide (D ∈ l)) := by
  unfold PySem.W.kitOne
  by_cases e : C = D
  · subst e
    rw [if_pos (by simp), decide_eq_true hC]
  · have : (Value.ref C == Value.ref D) = false := by simpa using e
    rw [this, if_neg Bool.false_ne_true]
    obtain ⟨cd2, k1, _⟩ := id m2
    show (if ((PySem.W.clsIn K D).isSome && PySem.W.typeIn K (.ref D) == some (.type "type")) = true then PySem.W.subIn K (.ref C) (.ref D) else none) = _
    rw [k1, t, if_pos (by rfl), mro_sub m, own_has]
theorem kit_ve {K : PySem.W.Frag} {C : Addr} {l : List Addr} (m : MroIs K C l) : PySem.W.kitOne K (.ref C) (.type "ValueError") = some true := by
  unfold PySem.W.kitOne
  rw [if_neg (by simp)]
  show (if PySem.W.kitMeta "ValueError" = true then PySem.W.subIn K (.ref C) (.type "ValueError") else none) = _
  rw [if_pos (by decide +kernel), mro_sub m]
  congr 1
  clear m
  induction l with
  | nil => rfl
  | cons a l ih => rw [List.map_cons, List.cons_append, List.contains_cons, ih, Bool.or_true]
/-- an own class in an except clause -/
theorem exm_own {K : PySem.W.Frag} {C D : Addr} {l : List Addr} (m : MroIs K C l) (e : ExcC K D) (t : PySem.W.typeIn K (.ref D) = some (.type "type")) : PySem.W.exmOne K (.ref C) (.ref D) = some (decide (D ∈ l)) :=
  PySem.W.exm_ref e.hs e.hd t (by rw [mro_sub m, own_has])
theorem exm_yes {K : PySem.W.Frag} {C D : Addr} {l : List Addr} (m : MroIs K C l) (e : ExcC K D) (t : PySem.W.typeIn K (.ref D) = some (.type "type")) (h : D ∈ l) : PySem.W.exmOne K (.ref C) (.ref D) = some true := by rw [exm_own m e t, decide_eq_true h]
theorem kitAny_cons' {K : PySem.W.Frag} {t c : Value} {cs : List Value} {b r : Bool} (h : PySem.W.kitOne K t c = some b) (hr : PySem.W.kitAny K t cs = some r) : PySem.W.kitAny K t (c :: cs) = some (b || r) := by
  unfold PySem.W.kitAny
  rw [h]
  cases b with
  | true => rfl
  | false => rw [Bool.false_or]; exact hr
section
variable {σ : L2.St} {H : Hp} {Q : VK} {t : TA} {sp : Sp} {E : L2.St → XK}
theorem x_callS : tCallS sp E t σ H Q = t σ H fun vs H1 => sp vs H1 Q (E σ) := rfl
end
end BC

set_option Elab.async false
set_option linter.all false
set_option maxRecDepth 100000
set_option maxHeartbeats 4000000
/-! a call of a def that an expression chooses: [f, g][i](..) -/
namespace BC
open PySem PySem.Spec PyProof.Rows L2
section
variable {X : Cx} {CX : CXT} {k1 k2 : Nat} {f1 f2 : Addr} {fd1 fd2 : FuncData} {ps1 ps2 : List Str} {sp1 sp2 : Sp} {E : L2.St → XK} {fe e : Expr} {es : List Expr} {tf : TE} {t : TA} {pos : Pos}
/-- one of two defs is called; what it raises is wished for at the caller's slots -/
def tCallF2 (f1 f2 : Addr) (sp1 sp2 : Sp) (E : L2.St → XK) (tf : TE) (t : TA) : TE := fun σ H Q => tf σ H fun x H1 => (x = .ref f1 ∧ t σ H1 fun vs H2 => sp1 vs H2 Q (E σ)) ∨ (x = .ref f2 ∧ t σ H1 fun vs H2 => sp2 vs H2 Q (E σ))
theorem x_callF2 {σ : L2.St} {H : Hp} {Q : VK} : tCallF2 f1 f2 sp1 sp2 E tf t σ H Q = tf σ H fun x H1 => (x = .ref f1 ∧ t σ H1 fun vs H2 => sp1 vs H2 Q (E σ)) ∨ (x = .ref f2 ∧ t σ H1 fun vs H2 => sp2 vs H2 Q (E σ)) := rfl
theorem pe_callF2 (hf : PE X fe tf) (F1 : FnOk X.prog X.w X.K X.mg X.base CX k1 f1 fd1 ps1 sp1) (r1 : Room k1 X.A) (kp1 : PySem.W.keepIn X.K (.ref f1) = true) (b1 : Binds X.K fd1 ps1 [])
    (F2 : FnOk X.prog X.w X.K X.mg X.base CX k2 f2 fd2 ps2 sp2) (r2 : Room k2 X.A) (kp2 : PySem.W.keepIn X.K (.ref f2) = true) (b2 : Binds X.K fd2 ps2 []) (hx : ∀ σ, PassesAt CX X σ (E σ)) (ha : PA X (e :: es) t)
    (ht : eval (.Call fe (e :: es) [] pos) X.env = (do callWith pos (← eval fe X.env) [] (backTo pos (starEach (e :: es) X.env)) (backToKw pos (keywordEach [] X.env))) := by rfl)
    (he : starEach (e :: es) X.env = (false, eval e X.env) :: starEach es X.env := by rfl) (hpl : (backTo pos (starEach es X.env)).any (·.1) = false := by rfl) :
    PE X (.Call fe (e :: es) [] pos) (tCallF2 f1 f2 sp1 sp2 E tf t) := by
  constructor
  intro pins s σ H Q I h
  refine Call_ (thn (hf.run pins s σ H _ I h) fun u s1 ⟨x, H1, I1, rx, q⟩ => ?_) ht
  rcases q with ⟨rfl, q⟩ | ⟨rfl, q⟩
  · obtain rfl : u = Value.ref f1 := rx
    exact PySem.W.callWith_K (h₀ := X.base) I1.ok.mod.kin kp1 (thn (ha.run pos pins s1 σ H1 _ I1 q) fun us s2 ⟨vs, H2, I2, r, q2⟩ => ⟨I2.kIn, run_fnS F1 r1 b1 (hx σ) I2 r q2⟩) he hpl
  · obtain rfl : u = Value.ref f2 := rx
    exact PySem.W.callWith_K (h₀ := X.base) I1.ok.mod.kin kp2 (thn (ha.run pos pins s1 σ H1 _ I1 q) fun us s2 ⟨vs, H2, I2, r, q2⟩ => ⟨I2.kIn, run_fnS F2 r2 b2 (hx σ) I2 r q2⟩) he hpl
end
end BC

set_option Elab.async false
set_option linter.all false
set_option maxRecDepth 100000
set_option maxHeartbeats 4000000
/-! a call of one of four defs that an expression chooses; dict comprehensions over a dict; a locked expression -/
namespace BC
open PySem PySem.Spec PyProof.Rows L2
section
variable {X : Cx} {CX : CXT} {k1 k2 k3 k4 : Nat} {f1 f2 f3 f4 : Addr} {fd1 fd2 fd3 fd4 : FuncData} {ps1 ps2 ps3 ps4 : List Str} {sp1 sp2 sp3 sp4 : Sp} {E : L2.St → XK} {fe e : Expr} {es : List Expr} {tf : TE} {t : TA} {pos : Pos}
/-- one of four defs is called; what it raises is wished for at the caller's slots -/
def tCallF4 (f1 f2 f3 f4 : Addr) (sp1 sp2 sp3 sp4 : Sp) (E : L2.St → XK) (tf : TE) (t : TA) : TE := fun σ H Q => tf σ H fun x H1 => ∃ (f : Addr) (sp : Sp), x = .ref f ∧ ((f = f1 ∧ sp = sp1) ∨ (f = f2 ∧ sp = sp2) ∨ (f = f3 ∧ sp = sp3) ∨ (f = f4 ∧ sp = sp4)) ∧ t σ H1 fun vs H2 => sp vs H2 Q (E σ)
theorem x_callF4 {σ : L2.St} {H : Hp} {Q : VK} : tCallF4 f1 f2 f3 f4 sp1 sp2 sp3 sp4 E tf t σ H Q = tf σ H fun x H1 => ∃ (f : Addr) (sp : Sp), x = .ref f ∧ ((f = f1 ∧ sp = sp1) ∨ (f = f2 ∧ sp = sp2) ∨ (f = f3 ∧ sp = sp3) ∨ (f = f4 ∧ sp = sp4)) ∧ t σ H1 fun vs H2 => sp vs H2 Q (E σ) := rfl
theorem pe_callF4 (hf : PE X fe tf) (F1 : FnOk X.prog X.w X.K X.mg X.base CX k1 f1 fd1 ps1 sp1) (r1 : Room k1 X.A) (kp1 : PySem.W.keepIn X.K (.ref f1) = true) (b1 : Binds X.K fd1 ps1 [])
    (F2 : FnOk X.prog X.w X.K X.mg X.base CX k2 f2 fd2 ps2 sp2) (r2 : Room k2 X.A) (kp2 : PySem.W.keepIn X.K (.ref f2) = true) (b2 : Binds X.K fd2 ps2 [])
    (F3 : FnOk X.prog X.w X.K X.mg X.base CX k3 f3 fd3 ps3 sp3) (r3 : Room k3 X.A) (kp3 : PySem.W.keepIn X.K (.ref f3) = true) (b3 : Binds X.K fd3 ps3 [])
    (F4 : FnOk X.prog X.w X.K X.mg X.base CX k4 f4 fd4 ps4 sp4) (r4 : Room k4 X.A) (kp4 : PySem.W.keepIn X.K (.ref f4) = true) (b4 : Binds X.K fd4 ps4 []) (hx : ∀ σ, PassesAt CX X σ (E σ)) (ha : PA X (e :: es) t)
    (ht : eval (.Call fe (e :: es) [] pos) X.env = (do callWith pos (← eval fe X.env) [] (backTo pos (starEach (e :: es) X.env)) (backToKw pos (keywordEach [] X.env))) := by rfl)
    (he : starEach (e :: es) X.env = (false, eval e X.env) :: starEach es X.env := by rfl) (hpl : (backTo pos (starEach es X.env)).any (·.1) = false := by rfl) :
    PE X (.Call fe (e :: es) [] pos) (tCallF4 f1 f2 f3 f4 sp1 sp2 sp3 sp4 E tf t) := by
  constructor
  intro pins s σ H Q I h
  refine Call_ (thn (hf.run pins s σ H _ I h) fun u s1 ⟨x, H1, I1, rx, q⟩ => ?_) ht
  obtain ⟨f, sp, rfl, c, q⟩ := q
  obtain rfl : u = Value.ref f := rx
  rcases c with ⟨rfl, rfl⟩ | ⟨rfl, rfl⟩ | ⟨rfl, rfl⟩ | ⟨rfl, rfl⟩
  · exact PySem.W.callWith_K (h₀ := X.base) I1.ok.mod.kin kp1 (thn (ha.run pos pins s1 σ H1 _ I1 q) fun us s2 ⟨vs, H2, I2, r, q2⟩ => ⟨I2.kIn, run_fnS F1 r1 b1 (hx σ) I2 r q2⟩) he hpl
  · exact PySem.W.callWith_K (h₀ := X.base) I1.ok.mod.kin kp2 (thn (ha.run pos pins s1 σ H1 _ I1 q) fun us s2 ⟨vs, H2, I2, r, q2⟩ => ⟨I2.kIn, run_fnS F2 r2 b2 (hx σ) I2 r q2⟩) he hpl
  · exact PySem.W.callWith_K (h₀ := X.base) I1.ok.mod.kin kp3 (thn (ha.run pos pins s1 σ H1 _ I1 q) fun us s2 ⟨vs, H2, I2, r, q2⟩ => ⟨I2.kIn, run_fnS F3 r3 b3 (hx σ) I2 r q2⟩) he hpl
  · exact PySem.W.callWith_K (h₀ := X.base) I1.ok.mod.kin kp4 (thn (ha.run pos pins s1 σ H1 _ I1 q) fun us s2 ⟨vs, H2, I2, r, q2⟩ => ⟨I2.kIn, run_fnS F4 r4 b4 (hx σ) I2 r q2⟩) he hpl
end
theorem x_lockE {t : TE} {σ : L2.St} {H : Hp} {Q : VK} : tLockE t σ H Q = ∃ d u, H d = some u ∧ Mut (some u) ∧ ∀ od, t σ (upd H d (.frz od u)) fun v H' => H' d = some (.frz od u) ∧ Q v (upd H' d u) := rfl
theorem x_daug {td ty tv : TE} {rd : V → V → Hp → VK → Prop} {D : Ends} {σ : L2.St} {H : Hp} : sDAug td ty tv rd D σ H = td σ H fun x H1 => ty σ H1 fun y H2 => ∃ a v, x = .ref a ∧ DGet H2 a y (some v) ∧ tv σ H2 fun y2 H3 => rd v y2 H3 fun z H4 => ∃ H5, DPut H4 a y z H5 ∧ D.nx σ H5 := rfl
section
variable {X : Cx}
open L2.DX
theorem sw_trueD {kx vx : Expr} {gs : List Comprehension} {scope : Scope} {pos py : Pos} {y : Str} {l : Nat} {env : Env} (hk : env.scope.kind = .function) (hy : env.scope.names.lookup y = some .local) (hl : (py.line == pos.line) = true)
    (ha : (scope.names.any fun (n, k) => n == y && (k == .local || k == .cell)) = false) : swapsWith (.DictComp kx vx gs scope pos) (some (.Name y py)) l env = pure true := by
  have ky : env.kindOf y = some .local := hy
  have hb : env.blockKind = .function := by unfold Env.blockKind; rw [hk]; rfl
  unfold swapsWith
  simp only [hb, ky, ha, Expr.pos, hl]
  rfl
/-- name = {..} on one line, the name a local -/
theorem ps_setDc {i : Nat} {y : Str} {py : Pos} {kx vx tg iter : Expr} {ifs : List Expr} {scope : Scope} {own : List (Str × Nat)} {pos spos : Pos} {wi : TI} {g : TG} {tt : TT} {tk tv : TE} (hc : X.calm = true) (hN : X.N.Nodup) (hy : X.N[i]? = some y) (hyl : X.env.scope.names.lookup y = some .local)
    (hsw : swapsWith (.DictComp kx vx [⟨tg, iter, ifs, 0⟩] scope pos) (some (.Name y py)) spos.line X.env = pure true) (hi : PI X tg iter wi) (ok : BlkOk X.N X.env.scope scope own)
    (hg : ∀ (s : Shared) (H : Hp) (C : Addr) (cl : List (Str × Addr)) (fp : List Addr), PG (X.blk s H scope (compEnvC scope cl C X.env) fp) tg g) (ht : ∀ (s : Shared) (H : Hp) (C : Addr) (cl : List (Str × Addr)) (fp : List Addr), PTs (X.blk s H scope (compEnvC scope cl C X.env) fp) ifs tt)
    (hk : ∀ (s : Shared) (H : Hp) (C : Addr) (cl : List (Str × Addr)) (fp : List Addr), PE (X.blk s H scope (compEnvC scope cl C X.env) fp) kx tk)
    (he : ∀ (s : Shared) (H : Hp) (C : Addr) (cl : List (Str × Addr)) (fp : List Addr), PE (X.blk s H scope (compEnvC scope cl C X.env) fp) vx tv) (hs : ∀ x, foldedSetIterable iter X.env x = pure x := by intro _; rfl) :
    PS X (.Assign [.Name y py] (.DictComp kx vx [⟨tg, iter, ifs, 0⟩] scope pos) spos) (tAsg (tDc wi g tt tk tv (own.map (·.2))) (gName i)) := by
  refine ⟨fun pins s σ H D I h => ?_⟩
  rw [exec_Assign_Name_used _ _ _ _ hsw]
  refine wpAny_bind (wpAny_standAt (wpAny_bind ?_))
  show wpAny _ X.A (do let _ ← comprehension (.DictComp kx vx [⟨tg, iter, ifs, 0⟩] scope pos) scope X.env (firstIterPos [⟨tg, iter, ifs, 0⟩] pos) newDict false (eval iter X.env) (some (assign (.Name y py) X.env))) _ _ s
  have h : tDc wi g tt tk tv (own.map (·.2)) σ H (fun x H1 => gName i x σ H1 D.nx) := h
  refine wpAny_bind (thn (dc_core (Qf := fun _ s' => SP X pins D .next s') hc hN I hi ok hg ht hk he hs h fun L C s' m H' I' q hn f => ?_) fun _ s' hq => wpAny_pure (wpAny_pure hq))
  show wpAny _ _ (assign (.Name y py) X.env (.ref L)) _ _ _
  refine wpAny_assign_Name (store_ok2 (v := V.ref L) I' hN hy (.inl hyl) rfl (fun s2 I2 ⟨a, sb, ha⟩ => ?_) (.inr hyl))
  obtain ⟨f0, f1, f2, f3, f4, f5⟩ := f
  have haC : C ≠ a := by
    rcases ha with z | z
    · rw [z]; exact f1
    · exact fun e => f4 y a z e.symm
  refine ⟨m, hn.sameBut sb haC, fun h3 sb3 => ?_⟩
  exact ⟨_, H', I2.turned (t' := s2.toks) (fun b o hb e => (sb3.2 b hb).trans e) f0 f1 f3 f4 f5, q⟩
end
theorem x_lockS {t : TS} {D : Ends} {σ : L2.St} {H : Hp} : tLock t D σ H = ∃ d u, H d = some u ∧ Mut (some u) ∧ ∀ od, t ⟨fun σ' H' => H' d = some (.frz od u) ∧ D.nx σ' (upd H' d u), fun v H' => H' d = some (.frz od u) ∧ D.rt v (upd H' d u), fun σ' H' => H' d = some (.frz od u) ∧ D.bk σ' (upd H' d u), fun σ' H' => H' d = some (.frz od u) ∧ D.ct σ' (upd H' d u)⟩ σ (upd H d (.frz od u)) := rfl
theorem dcg_keys {d : Addr} {o : Obj} {kvs0 : List (Key × V)} {g : TG} {tt : TT} {tk tv : TE} {vs : List Nat} {σ : L2.St} {H1 : Hp} {Q : VK} {D : Addr} (Pv : Nat → Hp → Prop) (h0 : Pv 0 (upd H1 D (.dK []))) (hl : ∀ i H, i ≤ kvs0.length → Pv i H → H d = some (.frz o (.dK kvs0)))
    (hs : ∀ i k v H, kvs0[i]? = some (k, v) → Pv i H → g (kV k) (wipe σ vs) H fun σ2 H2 => wipe σ2 vs = wipe σ vs ∧ tt σ2 H2 fun b H3 =>
      if b = true then tk σ2 H3 fun y H4 => tv σ2 H4 fun z H5 => ∃ kvs k, y = kV k ∧ H5 D = some (.dK kvs) ∧ kvs.length < sizeLine ∧ Pv (i + 1) (upd H5 D (.dK (putK kvs k z))) else Pv (i + 1) H3) (hd : ∀ H, Pv kvs0.length H → Q (.ref D) H) : DcG (Itk d o kvs0) g tt tk tv vs σ D H1 Q := by
  refine ⟨fun i m H => m = kvs0.length - i ∧ i ≤ kvs0.length ∧ Pv i H, ⟨kvs0.length, by simp, Nat.zero_le _, h0⟩, ?_⟩
  rintro i m H ⟨rfl, hi, p⟩
  have q := hl i H hi p
  by_cases hlt : i < kvs0.length
  · refine .inr ⟨⟨q, hlt⟩, Pv (i + 1), fun H' p' => ⟨kvs0.length - (i + 1), by omega, rfl, hlt, p'⟩, fun x H' y => ?_⟩
    obtain ⟨rfl, k, v, e, rfl⟩ := y
    exact hs i k v _ e p
  · have e : i = kvs0.length := by omega
    subst e
    exact .inl ⟨⟨q, Nat.le_refl _⟩, hd H p⟩
end BC

set_option Elab.async false
set_option linter.all false
set_option maxRecDepth 100000
set_option maxHeartbeats 4000000
/-! dicts whose keys are tuples: comprehensions, dict(d), d.update(e) -/
namespace BC
open PySem PySem.Spec PyProof.Rows L2 Evl
/-- d[(..)] = v by a comprehension -/
theorem dT_put {X : Cx} {ps : List (Addr × Obj)} {σ : L2.St} {H : Hp} {z : Shared} {B : Around} {E : Value → Shared → Prop} {D q : Addr} {kvs : List (List Key × V)} {k : List Key} {v : V} {r : Value} {Q : Unit → Shared → Prop} (hu : B.units < cLine) (J : Inv X ps σ H z) (eD : H D = some (.dT kvs)) (eq : H q = some (.tup (k.map kV)))
    (lz : kvs.length < sizeLine) (rr : RelV v r) (h : ∀ z', Inv X ps σ (upd H D (.dT (putK kvs k v))) z' → Q () z') : wpAny (model X.prog X.w) B (dictSet D (.ref q) r) Q E z := by
  obtain ⟨n1, n2, xs, rel, dd⟩ := dt_of J.hok eD
  have n3 : xs.length ≤ sizeLine := by rw [← Paired.length rel]; exact n1
  have n4 : (putK kvs k v).length ≤ sizeLine := by have := length_putK kvs k v; omega
  refine wpAny_dictSet_heap (hsz := n3) (knd := tupleKind (mixKind X.prog X.w)) hu (key_of J.hok eq) dd fun h' d' same => h _ ?_
  obtain ⟨o, es, ep, ho, a2, a3, a4, _, a5⟩ := d'
  refine d_write J (by rw [eD]; exact True.intro) same ⟨o, ho⟩ ⟨n4, n2, _, (rel.put k eq rr).keeps fun c ys ec => ?_, o, es, ep, ho, a2, a3, a4, a5⟩
  rw [upd_ne (ne_of ec eD (fun z => nomatch z))]; exact ec
def DcTG (J : It) (g : TG) (tt : TT) (tk tv : TE) (vs : List Nat) (σ : L2.St) (D : Addr) (H1 : Hp) (Q : VK) : Prop := ∃ W : Nat → Nat → Hp → Prop, (∃ m, W 0 m (upd H1 D (.dT []))) ∧ ∀ i m H, W i m H →
  (J.stop i H ∧ Q (.ref D) H) ∨ (J.go i H ∧ ∃ Nx : Hp → Prop, (∀ H', Nx H' → ∃ m', m' < m ∧ W (i + 1) m' H') ∧ ∀ x H', J.yld i H x H' → g x (wipe σ vs) H' fun σ2 H2 => wipe σ2 vs = wipe σ vs ∧ tt σ2 H2 fun b H3 =>
    if b = true then tk σ2 H3 fun y H4 => tv σ2 H4 fun u H5 => ∃ kvs k q, y = .ref q ∧ H5 q = some (.tup (k.map kV)) ∧ H5 D = some (.dT kvs) ∧ kvs.length < sizeLine ∧ Nx (upd H5 D (.dT (putK kvs k u))) else Nx H3)
def tDcT (wi : TI) (g : TG) (tt : TT) (tk tv : TE) (vs : List Nat) : TE := fun σ H Q => wi σ H fun J H1 => ∀ D, H1 D = none → DcTG J g tt tk tv vs σ D H1 Q
theorem x_dcT {σ : L2.St} {H : Hp} {Q : VK} {wi : TI} {g : TG} {tt : TT} {tk tv : TE} {vs : List Nat} : tDcT wi g tt tk tv vs σ H Q = wi σ H (fun J H1 => ∀ D, H1 D = none → DcTG J g tt tk tv vs σ D H1 Q) := rfl
section
variable {X : Cx}
theorem dcT_core {ps : List (Addr × Obj)} {z : Shared} {σ : L2.St} {H : Hp} {Q : VK} {kx vx tg iter : Expr} {ifs : List Expr} {scope : Scope} {own : List (Str × Nat)} {pos pos' : Pos} {wi : TI} {g : TG} {tt : TT} {tk tv : TE} {use : Option (Value → Sem Unit)} {Qf : Value → Shared → Prop}
    (hc : X.calm = true) (hu : X.A.units < cLine) (hN : X.N.Nodup) (J : Inv X ps σ H z) (hi : PI X tg iter wi) (bok : BlkOk X.N X.env.scope scope own)
    (hg : ∀ (z : Shared) (H : Hp) (C : Addr) (cl : List (Str × Addr)) (fp : List Addr), PG (X.blk z H scope (compEnvC scope cl C X.env) fp) tg g) (ht : ∀ (z : Shared) (H : Hp) (C : Addr) (cl : List (Str × Addr)) (fp : List Addr), PTs (X.blk z H scope (compEnvC scope cl C X.env) fp) ifs tt)
    (hk : ∀ (z : Shared) (H : Hp) (C : Addr) (cl : List (Str × Addr)) (fp : List Addr), PE (X.blk z H scope (compEnvC scope cl C X.env) fp) kx tk)
    (hv : ∀ (z : Shared) (H : Hp) (C : Addr) (cl : List (Str × Addr)) (fp : List Addr), PE (X.blk z H scope (compEnvC scope cl C X.env) fp) vx tv) (hs : ∀ x, foldedSetIterable iter X.env x = pure x)
    (h : tDcT wi g tt tk tv (own.map (·.2)) σ H Q)
    (back : ∀ D C z' m H', Inv X ps σ H' z' → Q (.ref D) H' → z'.heap.Ns C m → FpOk X ps H' C → compPost (model X.prog X.w) X.A X.xe use Qf (.ref D) C (.ok .next) z') :
    wpAny (model X.prog X.w) X.A (comprehension (.DictComp kx vx [⟨tg, iter, ifs, 0⟩] scope pos) scope X.env pos' newDict false (eval iter X.env) use) Qf X.xe z := by
  have fr : ∀ y ∈ scope.names, y.2 = .free → ∃ c, X.env.cells.lookup y.1 = some c := fun y hy e => (bok.free y hy e).elim (fun k => J.ok.has _ (.inl k)) fun k => J.ok.has _ (.inr k)
  refine wpAny_comprehension_free (use := use) rfl hs (closure_ok fr) bok.kind (fun y hy e => by rw [bok.uniq y hy, e]) (thn (hi.run ps z σ H _ J h) fun xv z1 hx => thn hx fun itv z2 h2 => ?_)
  obtain ⟨it, fp, tn, Jt, H2, e, J2, T, st2, f2, q⟩ := h2
  cases e
  refine wpAny_newObj_type (newEnv_comp ?_)
  have nD : H2 z2.heap.objs.size = none := J2.hok.fresh (Nat.le_refl _)
  obtain ⟨W, ⟨m0, w0⟩, turn⟩ := q z2.heap.objs.size nD
  generalize eD : z2.heap.objs.size = D at nD w0 turn ⊢
  generalize ez3 : ({ z2 with heap := z2.heap.push { cls := .type "dict", data := .dict #[] } } : Shared) = z3
  have hz3 : z3.heap = z2.heap.push { cls := .type "dict", data := .dict #[] } := by rw [← ez3]
  have J3 : Inv X ps σ (upd H2 D (.dT [])) z3 := by
    rw [← ez3]
    refine J2.laid (t' := z2.toks) (fun b o q => Heap.get?_push_of_some _ q) (Nat.le_of_eq eD) ?_
    rw [← eD]
    exact dt_empty z2.heap J2.big
  have lt2 : ∀ b ∈ fp, b < z2.heap.objs.size := fun b hb => let ⟨_, q, _⟩ := T.obj _ _ st2 b hb; Heap.lt_size q
  have f3 : ∀ b ∈ fp, FpOk X ps (upd H2 D (.dT [])) b ∧ b < z3.heap.objs.size := fun b hb => by
    have lb := lt2 b hb
    refine ⟨⟨?_, (f2 b hb).2⟩, by rw [hz3, Heap.size_push]; exact Nat.lt_succ_of_lt lb⟩
    rw [upd_ne (by rw [← eD]; exact Nat.ne_of_lt lb)]
    exact (f2 b hb).1
  have st3 : tn 0 z3.heap := T.keep _ _ _ st2 fun b _ o q => by rw [hz3]; exact Heap.get?_push_of_some _ q
  have J4 := block_start J3 bok hN f3
  generalize eH3 : upd H2 D (.dT []) = H3 at J3 J4 w0 f3
  have qg := hg z3 H3 z3.heap.objs.size (cellsFrom (z3.heap.objs.size + 1) scope.names (cloFrom X.env.cells scope.names [])) fp
  have qt := ht z3 H3 z3.heap.objs.size (cellsFrom (z3.heap.objs.size + 1) scope.names (cloFrom X.env.cells scope.names [])) fp
  have qk := hk z3 H3 z3.heap.objs.size (cellsFrom (z3.heap.objs.size + 1) scope.names (cloFrom X.env.cells scope.names [])) fp
  have qv := hv z3 H3 z3.heap.objs.size (cellsFrom (z3.heap.objs.size + 1) scope.names (cloFrom X.env.cells scope.names [])) fp
  show codeAny _ _ (.compStart (.DictComp kx vx [⟨tg, iter, ifs, 0⟩] scope pos) 0 (.ref it) (.ref D) (compEnvC scope (cellsFrom (z3.heap.objs.size + 1) scope.names (cloFrom X.env.cells scope.names [])) z3.heap.objs.size X.env)) (compPost (model X.prog X.w) X.A X.xe use Qf (.ref D) z3.heap.objs.size) { z3 with heap := pushCells (z3.heap.push { cls := .type "dict", data := .dict #[] }) scope.names }
  have n3 : ∀ b ∈ fp, H3 b = none := fun b hb => (f3 b hb).1.1
  generalize ece : compEnvC scope (cellsFrom (z3.heap.objs.size + 1) scope.names (cloFrom X.env.cells scope.names [])) z3.heap.objs.size X.env = ce at J4 qg qt qk qv ⊢
  have cl : ce.locals = z3.heap.objs.size := by rw [← ece]; rfl
  generalize ez4 : ({ z3 with heap := pushCells (z3.heap.push { cls := .type "dict", data := .dict #[] }) scope.names } : Shared) = z4 at J4 ⊢
  have st4 : tn 0 z4.heap := T.keep _ _ _ st3 fun b _ o q => by rw [← ez4]; exact pushCells_keeps _ _ _ _ (Heap.get?_push_of_some _ q)
  have fpo : ∀ {σ' : L2.St} {H' : Hp} {z' : Shared}, Inv (X.blk z3 H3 scope ce fp) [] σ' H' z' → (∀ b ∈ fp, H' b = none) → ∀ b ∈ fp, FpOk (X.blk z3 H3 scope ce fp) [] H' b := fun {σ' H' z'} I' hn b hb =>
    ⟨hn b hb, (I'.ok.exf b hb).1, I'.ok.exfs b hb, .inl hb, fun x c q => (I'.ok.exf b hb).2 x c q, fun p hp => absurd (show p ∈ ([] : List (Addr × Obj)) ++ [] from hp) (by simp)⟩
  have run : codeAny (model X.prog X.w) X.A (.compLoop (.DictComp kx vx [⟨tg, iter, ifs, 0⟩] scope pos) 0 (.ref it) (.ref D) ce) (compPost (model X.prog X.w) X.A X.xe use Qf (.ref D) z3.heap.objs.size) z4 := by
    refine compLoop_anyD (fun n z' => ∃ i H', Inv (X.blk z3 H3 scope ce fp) [] (wipe σ (own.map (·.2))) H' z' ∧ tn i z'.heap ∧ (∀ b ∈ fp, H' b = none) ∧ W i n H') ?_ m0 ⟨0, H3, J4, st4, n3, w0⟩
    rintro n z5 ⟨i, H5, J5, st5, n5, w5⟩
    rcases turn i n H5 w5 with ⟨stop, qq⟩ | ⟨go, Nx, hNx, step⟩
    · refine thnF (T.done (X.blk z3 H3 scope ce fp) rfl rfl rfl hc i [] z5 _ H5 (fun _ _ => False) J5 (fpo J5 n5) st5 stop) fun r z6 ⟨er, J6⟩ => ?_
      cases er
      have J7 : Inv X ps σ H5 z6 := J3.call' (ch := fp) J6.os J6.base J6.hok J6.bare fun b hb => let f := (f3 b hb).1.2; ⟨f.2.2.1, f.1, f.2.2.2.1, f.2.2.2.2⟩
      have nC : H5 z3.heap.objs.size = none := by
        have := J6.free
        rw [← cl]; exact this
      obtain ⟨mm, hn, _⟩ := J6.loc
      have hn : z6.heap.Ns ce.locals mm := hn
      rw [cl] at hn
      exact back D z3.heap.objs.size z6 mm H5 J7 qq hn (J3.fpOk (Nat.le_refl _) nC)
    · refine thnF (T.item (X.blk z3 H3 scope ce fp) rfl rfl rfl hc i [] z5 _ H5 (fun _ _ => False) J5 (fpo J5 n5) st5 go) fun r z6 ⟨u, er, h6⟩ => ?_
      cases er
      refine thnF h6 fun _ z7 ⟨x, H7, J7, r7, y7, st7, n7⟩ => ?_
      refine thnF (qg.run _ z7 _ H7 x u _ (J7.pinned (fpo J7 n7) (T.obj _ _ st7)) r7 (step x H7 y7)) fun _ z8 ⟨σ8, H8, J8, w8, q8⟩ => ?_
      refine thnF (qt.run _ z8 σ8 H8 _ J8 q8) fun b z9 ⟨H9, J9, q9⟩ => ?_
      have fin : ∀ {z' : Shared} {H' : Hp}, Inv (X.blk z3 H3 scope ce fp) ([] ++ pinsAt fp z7.heap) σ8 H' z' → Nx H' → ∃ m, m < n ∧ ∃ i H', Inv (X.blk z3 H3 scope ce fp) [] (wipe σ (own.map (·.2))) H' z' ∧ tn i z'.heap ∧ (∀ b ∈ fp, H' b = none) ∧ W i m H' := fun {z' H'} I' nx => by
        obtain ⟨m', hm, w'⟩ := hNx H' nx
        have pin : ∀ b ∈ fp, ∀ o, z7.heap.get? b = some o → z'.heap.get? b = some o ∧ H' b = none := fun b hb o q =>
          let k := I'.pin (b, o) (List.mem_append_right _ (List.mem_append_right _ (mem_pinsAt hb q)))
          ⟨k.1, k.2.1⟩
        have ll : (wipe σ (own.map (·.2))).length = σ8.length := by rw [← w8, wipe_length]
        refine ⟨m', hm, i + 1, H', (I'.unpinned (pins := [])).weak ll (fun j v q => ?_), T.keep _ _ _ st7 fun b hb o q => (pin b hb o q).1, fun b hb => ?_, w'⟩
        · rw [← w8] at q
          exact (wipe_some q).1
        · obtain ⟨o, q, _⟩ := T.obj _ _ st7 b hb
          exact (pin b hb o q).2
      cases b with
      | false => exact fin J9 q9
      | true =>
        refine thnF (qk.run _ z9 σ8 H9 _ J9 q9) fun w1 z10 ⟨yk, H10, J10, r10, q10⟩ => ?_
        refine thnF (qv.run _ z10 σ8 H10 _ J10 q10) fun w2 z11 ⟨yv, H11, J11, r11, kvs, k, qa, ek, hq, hD11, hl11, nx⟩ => ?_
        cases ek
        cases (show w1 = Value.ref qa from r10)
        exact dT_put (X := X.blk z3 H3 scope ce fp) hu J11 hD11 hq hl11 r11 fun z12 J12 => fin J12 nx
  exact codeAny_compStart_dict run (T.self X.A 0 _ _ _ st4 run)
/-- as a value -/
theorem pe_dcT {kx vx tg iter : Expr} {ifs : List Expr} {scope : Scope} {own : List (Str × Nat)} {pos : Pos} {wi : TI} {g : TG} {tt : TT} {tk tv : TE} (hc : X.calm = true) (hu : X.A.units < cLine) (hN : X.N.Nodup) (hi : PI X tg iter wi) (bok : BlkOk X.N X.env.scope scope own)
    (hg : ∀ (z : Shared) (H : Hp) (C : Addr) (cl : List (Str × Addr)) (fp : List Addr), PG (X.blk z H scope (compEnvC scope cl C X.env) fp) tg g) (ht : ∀ (z : Shared) (H : Hp) (C : Addr) (cl : List (Str × Addr)) (fp : List Addr), PTs (X.blk z H scope (compEnvC scope cl C X.env) fp) ifs tt)
    (hk : ∀ (z : Shared) (H : Hp) (C : Addr) (cl : List (Str × Addr)) (fp : List Addr), PE (X.blk z H scope (compEnvC scope cl C X.env) fp) kx tk)
    (hv : ∀ (z : Shared) (H : Hp) (C : Addr) (cl : List (Str × Addr)) (fp : List Addr), PE (X.blk z H scope (compEnvC scope cl C X.env) fp) vx tv) (hs : ∀ x, foldedSetIterable iter X.env x = pure x := by intro _; rfl) :
    PE X (.DictComp kx vx [⟨tg, iter, ifs, 0⟩] scope pos) (tDcT wi g tt tk tv (own.map (·.2))) := by
  refine ⟨fun ps z σ H Q J h => ?_⟩
  rw [arm_eval_DictComp]
  refine dcT_core hc hu hN J hi bok hg ht hk hv hs h fun D C z' m H' J' q hn ⟨f0, f1, f2, f3, f4, f5⟩ => ⟨m, hn, fun h2 sb => ?_⟩
  exact ⟨.ref D, H', J'.turned (t' := z'.toks) (fun b o hb e => (sb.2 b hb).trans e) f0 f1 f3 f4 f5, rfl, q⟩
/-- name = {..} on one line, the name a local -/
theorem ps_setDcT {i : Nat} {y : Str} {py : Pos} {kx vx tg iter : Expr} {ifs : List Expr} {scope : Scope} {own : List (Str × Nat)} {pos spos : Pos} {wi : TI} {g : TG} {tt : TT} {tk tv : TE} (hc : X.calm = true) (hu : X.A.units < cLine) (hN : X.N.Nodup) (hy : X.N[i]? = some y) (hyl : X.env.scope.names.lookup y = some .local)
    (hsw : swapsWith (.DictComp kx vx [⟨tg, iter, ifs, 0⟩] scope pos) (some (.Name y py)) spos.line X.env = pure true) (hi : PI X tg iter wi) (bok : BlkOk X.N X.env.scope scope own)
    (hg : ∀ (z : Shared) (H : Hp) (C : Addr) (cl : List (Str × Addr)) (fp : List Addr), PG (X.blk z H scope (compEnvC scope cl C X.env) fp) tg g) (ht : ∀ (z : Shared) (H : Hp) (C : Addr) (cl : List (Str × Addr)) (fp : List Addr), PTs (X.blk z H scope (compEnvC scope cl C X.env) fp) ifs tt)
    (hk : ∀ (z : Shared) (H : Hp) (C : Addr) (cl : List (Str × Addr)) (fp : List Addr), PE (X.blk z H scope (compEnvC scope cl C X.env) fp) kx tk)
    (hv : ∀ (z : Shared) (H : Hp) (C : Addr) (cl : List (Str × Addr)) (fp : List Addr), PE (X.blk z H scope (compEnvC scope cl C X.env) fp) vx tv) (hs : ∀ x, foldedSetIterable iter X.env x = pure x := by intro _; rfl) :
    PS X (.Assign [.Name y py] (.DictComp kx vx [⟨tg, iter, ifs, 0⟩] scope pos) spos) (tAsg (tDcT wi g tt tk tv (own.map (·.2))) (gName i)) := by
  refine ⟨fun ps z σ H D J h => ?_⟩
  rw [exec_Assign_Name_used _ _ _ _ hsw]
  refine wpAny_bind (wpAny_standAt (wpAny_bind ?_))
  show wpAny _ X.A (do let _ ← comprehension (.DictComp kx vx [⟨tg, iter, ifs, 0⟩] scope pos) scope X.env (firstIterPos [⟨tg, iter, ifs, 0⟩] pos) newDict false (eval iter X.env) (some (assign (.Name y py) X.env))) _ _ z
  have h : tDcT wi g tt tk tv (own.map (·.2)) σ H (fun x H1 => gName i x σ H1 D.nx) := h
  refine wpAny_bind (thn (dcT_core (Qf := fun _ z' => SP X ps D .next z') hc hu hN J hi bok hg ht hk hv hs h fun L C z' m H' J' q hn f => ?_) fun _ z' hq => wpAny_pure (wpAny_pure hq))
  show wpAny _ _ (assign (.Name y py) X.env (.ref L)) _ _ _
  refine wpAny_assign_Name (store_ok2 (v := V.ref L) J' hN hy (.inl hyl) rfl (fun z2 J2 ⟨a, sb, ha⟩ => ?_) (.inr hyl))
  obtain ⟨f0, f1, f2, f3, f4, f5⟩ := f
  have nCa : C ≠ a := ha.elim (fun e => by rw [e]; exact f1) fun e e' => f4 y a e e'.symm
  refine ⟨m, hn.sameBut sb nCa, fun h3 sb3 => ?_⟩
  exact ⟨_, H', J2.turned (t' := z2.toks) (fun b o hb e => (sb3.2 b hb).trans e) f0 f1 f3 f4 f5, q⟩
end
/-! ### over a list, over a range -/
theorem dct_list {K : PySem.W.Frag} {a : Addr} {xs : List V} {g : TG} {tt : TT} {tk tv : TE} {vs : List Nat} {σ : L2.St} {H1 : Hp} {Q : VK} {D : Addr} (Pv : Nat → Hp → Prop) (h0 : Pv 0 (upd H1 D (.dT []))) (hl : ∀ i H, i ≤ xs.length → Pv i H → SqL K H a xs)
    (hs : ∀ i x H, xs[i]? = some x → Pv i H → g x (wipe σ vs) H fun σ2 H2 => wipe σ2 vs = wipe σ vs ∧ tt σ2 H2 fun b H3 =>
      if b = true then tk σ2 H3 fun y H4 => tv σ2 H4 fun u H5 => ∃ kvs k q, y = .ref q ∧ H5 q = some (.tup (k.map kV)) ∧ H5 D = some (.dT kvs) ∧ kvs.length < sizeLine ∧ Pv (i + 1) (upd H5 D (.dT (putK kvs k u))) else Pv (i + 1) H3) (hd : ∀ H, Pv xs.length H → Q (.ref D) H) : DcTG (Itl K a) g tt tk tv vs σ D H1 Q := by
  refine ⟨fun i m H => m = xs.length - i ∧ i ≤ xs.length ∧ Pv i H, ⟨xs.length, by simp, Nat.zero_le _, h0⟩, ?_⟩
  rintro i m H ⟨rfl, hi, p⟩
  have q := hl i H hi p
  by_cases hlt : i < xs.length
  · refine .inr ⟨⟨xs, xs[i], q, by simp [hlt]⟩, Pv (i + 1), fun H' p' => ⟨xs.length - (i + 1), by omega, rfl, hlt, p'⟩, fun x H' y => ?_⟩
    obtain ⟨rfl, y⟩ := y
    exact hs i x _ (y xs q) p
  · have e : i = xs.length := by omega
    subst e
    exact .inl ⟨⟨xs, q, Nat.le_refl _⟩, hd H p⟩
theorem dcg_list {K : PySem.W.Frag} {a : Addr} {xs : List V} {g : TG} {tt : TT} {tk tv : TE} {vs : List Nat} {σ : L2.St} {H1 : Hp} {Q : VK} {D : Addr} (Pv : Nat → Hp → Prop) (h0 : Pv 0 (upd H1 D (.dK []))) (hl : ∀ i H, i ≤ xs.length → Pv i H → SqL K H a xs)
    (hs : ∀ i x H, xs[i]? = some x → Pv i H → g x (wipe σ vs) H fun σ2 H2 => wipe σ2 vs = wipe σ vs ∧ tt σ2 H2 fun b H3 =>
      if b = true then tk σ2 H3 fun y H4 => tv σ2 H4 fun u H5 => ∃ kvs k, y = kV k ∧ H5 D = some (.dK kvs) ∧ kvs.length < sizeLine ∧ Pv (i + 1) (upd H5 D (.dK (putK kvs k u))) else Pv (i + 1) H3) (hd : ∀ H, Pv xs.length H → Q (.ref D) H) : DcG (Itl K a) g tt tk tv vs σ D H1 Q := by
  refine ⟨fun i m H => m = xs.length - i ∧ i ≤ xs.length ∧ Pv i H, ⟨xs.length, by simp, Nat.zero_le _, h0⟩, ?_⟩
  rintro i m H ⟨rfl, hi, p⟩
  have q := hl i H hi p
  by_cases hlt : i < xs.length
  · refine .inr ⟨⟨xs, xs[i], q, by simp [hlt]⟩, Pv (i + 1), fun H' p' => ⟨xs.length - (i + 1), by omega, rfl, hlt, p'⟩, fun x H' y => ?_⟩
    obtain ⟨rfl, y⟩ := y
    exact hs i x _ (y xs q) p
  · have e : i = xs.length := by omega
    subst e
    exact .inl ⟨⟨xs, q, Nat.le_refl _⟩, hd H p⟩
end BC

set_option Elab.async false
set_option linter.all false
set_option maxRecDepth 100000
set_option maxHeartbeats 4000000
/-! dicts whose keys are tuples: d.update(e), dict(d) -/
namespace BC
open PySem PySem.Spec PyProof.Rows L2 Evl PySem.Calls
theorem kt_fst {H : Hp} : ∀ {kvs : List (List Key × V)} {xs : List (List Key × Addr × Value)}, KT H kvs xs → xs.map (·.1) = kvs.map (·.1)
  | _, _, .nil => rfl
  | _, _, .cons h t => by rw [List.map_cons, List.map_cons, kt_fst t, h.1]
theorem kt_app {H : Hp} : ∀ {kvs ls : List (List Key × V)} {xs ys : List (List Key × Addr × Value)}, KT H kvs xs → KT H ls ys → KT H (kvs ++ ls) (xs ++ ys)
  | _, _, _, _, .nil, r => r
  | _, _, _, _, .cons h t, r => .cons h (kt_app t r)
def rUpdT : V → V → Hp → VK → Prop := fun x y H Q => ∃ d o kvs more, x = .ref d ∧ y = .ref o ∧ H d = some (.dT kvs) ∧ H o = some (.dT more) ∧ d ≠ o ∧ kvs ≠ [] ∧ (∀ p ∈ more, p.1 ∉ kvs.map (·.1)) ∧ kvs.length + more.length ≤ sizeLine ∧ Q .non (upd H d (.dT (kvs ++ more)))
def tUpdT (td te : TE) : TE := fun σ H Q => td σ H fun x H1 => ∃ a, x = .ref a ∧ IsD H1 a ∧ te σ H1 fun y H2 => rUpdT (.ref a) y H2 Q
theorem x_updT {td te : TE} {σ : L2.St} {H : Hp} {Q : VK} : tUpdT td te σ H Q = td σ H (fun x H1 => ∃ a, x = .ref a ∧ IsD H1 a ∧ te σ H1 fun y H2 => rUpdT (.ref a) y H2 Q) := rfl
section
variable {X : Cx} {o e : Expr} {apos cpos : Pos} {td te : TE}
theorem pe_updT (hu : X.A.units + 1 < cLine) (ho : PE X o td) (he : PE X e te) (m : M1 X o "update" apos e cpos) : PE X (.Call (.Attribute o "update" apos) [e] [] cpos) (tUpdT td te) := by
  refine ⟨fun ps z σ H Q J h => ?_⟩
  refine wpAny_Call_method m.base m.few m.line PySem.F.plainAttrs_dict PySem.F.slot_dict_update PySem.F.type_dict_update (thn (ho.run ps z σ H _ J h) fun u z1 ⟨x, H1, J1, rx, a, ex, d, q1⟩ => ?_)
  cases ex
  cases (show u = Value.ref a from rx)
  obtain ⟨t1, t2, _⟩ := isD_at J1 d
  refine ⟨t1, t2, ?_⟩
  rw [m.trees]
  refine Calls.callWith_builtin rfl (Calls.evalArgs_plain (Calls.spliced_cons (thn (he.run ps z1 σ H1 _ J1 q1) fun iv z2 ⟨y, H2, J2, ry, q2⟩ => Calls.spliced_nil ?_)))
  obtain ⟨d1, o1, kvs, more, e1, e2, hd, ho1, ne, nn, dis, hz, q⟩ := q2
  cases e1
  cases e2
  cases (show iv = Value.ref o1 from ry)
  obtain ⟨n1, n2, xs, rel, dd⟩ := dt_of J2.hok hd
  obtain ⟨k1, k2, ys, rel2, dd2⟩ := dt_of J2.hok ho1
  have lx := Paired.length rel
  have ly := Paired.length rel2
  have nx : xs ≠ [] := fun z => nn (List.length_eq_zero_iff.mp (by rw [lx, z]; rfl))
  have nd : ((xs ++ ys).map (·.1)).Nodup := by
    rw [List.map_append, List.nodup_append]
    refine ⟨Heap.DictOfH.nodup dd, Heap.DictOfH.nodup dd2, fun p hp q hq e => ?_⟩
    rw [kt_fst rel] at hp
    rw [kt_fst rel2] at hq
    obtain ⟨w, hw, rfl⟩ := List.mem_map.mp hq
    exact dis w hw (e ▸ hp)
  refine call_update_dictH (knd := tupleKind (mixKind X.prog X.w)) (tupleKind_room_in1 hu) ne k2 dd dd2 (.inl nx) (by rw [← lx, ← ly]; exact hz) fun h' d' _ same => ?_
  rw [storedAllH_append_of_fresh _ _ nd] at d'
  obtain ⟨ob, es, ep, hob, a2, a3, a4, _, a5⟩ := d'
  refine ⟨.non, upd H2 a (.dT (kvs ++ more)), d_write J2 (t' := z2.toks) (by rw [hd]; exact True.intro) same ⟨ob, hob⟩ ⟨by rw [List.length_append]; exact hz, n2, xs ++ ys, (kt_app rel rel2).keeps fun c ws ec => ?_, ob, es, ep, hob, a2, a3, a4, a5⟩, rfl, q⟩
  rw [upd_ne (ne_of ec hd (fun z => nomatch z))]; exact ec
end
/-! ### dict(d) -/
/-- the hash of a tuple of numbers -/
def hkI (ns : List Int) : Int := reduceHash (Builtin.Tuple.tupleHashOf (ns.map hashInt))
theorem hk_mix (P : Program) (w : World) (ns : List Int) : (tupleKind (mixKind P w)).hash (ns.map Sum.inl) = hkI ns := by
  show reduceHash (Builtin.Tuple.tupleHashOf ((ns.map Sum.inl).map (keyH w))) = _
  rw [List.map_map]
  rfl
def rDictT : List V → Hp → VK → Prop := fun vs H Q => ∃ a kvs, ∃ ks : List (List Int), vs = [.ref a] ∧ H a = some (.dT kvs) ∧ kvs.map (·.1) = ks.map (fun ns => ns.map Sum.inl) ∧ (ks.map hkI).Nodup ∧ ∀ p, H p = none → Q (.ref p) (upd H p (.dT kvs))
theorem upd_two {H : Hp} {D : Addr} {x y : HO} : upd (upd H D x) D y = upd H D y := by
  funext b
  by_cases c : b = D
  · rw [c, upd_same, upd_same]
  · rw [upd_ne c, upd_ne c, upd_ne c]
theorem cr_dictT {X : Cx} (hu : X.A.units + 64 < cLine) : CallR X (.type "dict") rDictT := by
  intro ps z σ H vs us Q J r h
  obtain ⟨a, kvs, ks, rfl, ha, hk, nd, q⟩ := h
  obtain rfl := Vals.ref1 r
  refine callType_codes (Q₁ := fun obj z1 => obj = .ref z.heap.objs.size ∧ z1 = { z with heap := z.heap.push { cls := .type "dict", data := .dict #[] } }) PySem.F.kt_called_dict (PySem.F.kt_typeCall_dict_1 _) PySem.F.entry_dict_init (kt_code_dict_new _ ⟨rfl, rfl⟩) ?_
  rintro obj z1 ⟨rfl, rfl⟩
  have nD : H z.heap.objs.size = none := J.hok.fresh (Nat.le_refl _)
  have J1 : Inv X ps σ (upd H z.heap.objs.size (.dT [])) { z with heap := z.heap.push { cls := .type "dict", data := .dict #[] } } := J.laid (t' := z.toks) (fun b o q => Heap.get?_push_of_some _ q) (Nat.le_refl _) (dt_empty z.heap J.big)
  have ha1 : (upd H z.heap.objs.size (.dT [])) a = some (.dT kvs) := by rw [upd_ne (ne_of_none ha nD)]; exact ha
  have nda : z.heap.objs.size ≠ a := fun e => by rw [e, ha] at nD; cases nD
  obtain ⟨_, n2, xs, rel, dd⟩ := dt_of J1.hok (upd_same (H := H) (a := z.heap.objs.size) (o := .dT []))
  obtain ⟨k1, k2, ys, rel2, dd2⟩ := dt_of J1.hok ha1
  cases rel
  have ly := Paired.length rel2
  have hap : (ys.map fun x => (tupleKind (mixKind X.prog X.w)).hash x.1).Nodup := by
    have e : (ys.map fun x => (tupleKind (mixKind X.prog X.w)).hash x.1) = ks.map hkI := by
      have : (ys.map (·.1)).map (tupleKind (mixKind X.prog X.w)).hash = (ks.map fun ns => ns.map Sum.inl).map (tupleKind (mixKind X.prog X.w)).hash := by rw [kt_fst rel2, hk]
      rw [List.map_map, List.map_map] at this
      refine this.trans (List.map_congr_left fun ns _ => hk_mix _ _ ns)
    rw [e]; exact nd
  have hty : ∀ x ∈ ys, ({ z with heap := z.heap.push { cls := .type "dict", data := .dict #[] } } : Shared).TypeIs (.ref x.2.1) "tuple" := fun x hx => by
    obtain ⟨i, hi⟩ := List.getElem?_of_mem hx
    obtain ⟨p, hp⟩ : ∃ p, kvs[i]? = some p := ⟨_, List.getElem?_eq_getElem (by rw [ly]; exact (List.getElem?_eq_some_iff.mp hi).1)⟩
    obtain ⟨b, hb, e1, e2, e3⟩ := paired_get rel2 (show kvs[i]? = some (p.1, p.2) from hp)
    rw [hi] at hb
    cases hb
    obtain ⟨o, its, n, g1, g2, g3⟩ := key_of J1.hok e2
    exact ⟨o, g1, g2⟩
  refine ⟨dd.typeIs, PySem.F.args_dict_init_2 _ _, ?_⟩
  unfold Builtin.«dict.__init__»
  refine wpAny_bind ?_
  unfold Builtin.Dict.selfAndRest
  refine wpAny_bind (wpAny_notOrdered_dict dd.typeIs ?_)
  show wpAny _ _ (pure (z.heap.objs.size, [Value.ref a])) _ _ _
  refine wpAny_pure ?_
  show wpAny _ _ (Builtin.Dict.updateFrom "dict.__init__" z.heap.objs.size (.ref a) [] .none) _ _ _
  refine updateFrom_dictH (knd := tupleKind (mixKind X.prog X.w)) (A := X.A.in1) .none (show X.A.units + 1 + 1 < cLine by omega) nda k2 dd dd2 (.inr ⟨hty, hap⟩) (by rw [List.length_nil, Nat.zero_add, ← ly]; exact k1) fun h' d' _ same => ?_
  rw [storedAllH_nil_of_nodup _ (Heap.DictOfH.nodup dd2)] at d'
  obtain ⟨ob, es, ep, hob, a2, a3, a4, _, a5⟩ := d'
  have hD := upd_same (H := H) (a := z.heap.objs.size) (o := .dT [])
  have J2 := d_write J1 (t' := z.toks) (ob := .dT kvs) (by rw [hD]; exact True.intro) same ⟨ob, hob⟩ ⟨k1, n2, ys, rel2.keeps fun c ws ec => by rw [upd_ne (ne_of ec hD (fun z => nomatch z))]; exact ec, ob, es, ep, hob, a2, a3, a4, a5⟩
  rw [upd_two] at J2
  exact ⟨rfl, .ref z.heap.objs.size, _, J2, rfl, q _ nD⟩
theorem k_dictT {X : Cx} (hu : X.A.units + 64 < cLine) : CallR X (.type "dict") rDictT := cr_dictT hu
end BC

set_option Elab.async false
set_option linter.all false
set_option maxRecDepth 100000
set_option maxHeartbeats 4000000
/-! lists of lists of numbers that are made row by row -/
namespace BC
open PySem PySem.Spec PyProof.Rows L2 Evl
def RwL (H : Hp) (s : Addr) (F : List (List Int)) : Prop := ∃ ps : List Addr, H s = some (.lst (ps.map V.ref)) ∧ ps.length = F.length ∧ ∀ i p, ps[i]? = some p → H p = some (.lst ((F.getD i []).map V.int))
/-- .. all new since H0 -/
def RwN (H0 H : Hp) (s : Addr) (F : List (List Int)) : Prop := H0 s = none ∧ ∃ ps : List Addr, H s = some (.lst (ps.map V.ref)) ∧ ps.length = F.length ∧ s ∉ ps ∧ ∀ i p, ps[i]? = some p → H0 p = none ∧ H p = some (.lst ((F.getD i []).map V.int))
section
variable {H0 H H' H1 : Hp} {s p : Addr} {F X : List (List Int)}
theorem RwN.at (h : RwN H0 H s F) : RwL H s F := by
  obtain ⟨_, ps, a, b, _, c⟩ := h
  exact ⟨ps, a, b, fun i p q => (c i p q).2⟩
theorem RwL.ex (h : RwL H s F) (e : Ex H H') : RwL H' s F := by
  obtain ⟨ps, a, b, c⟩ := h
  exact ⟨ps, e _ _ a, b, fun i p q => e _ _ (c i p q)⟩
theorem RwN.ex (h : RwN H0 H s F) (e : Ex H H') : RwN H0 H' s F := by
  obtain ⟨n, ps, a, b, d, c⟩ := h
  exact ⟨n, ps, e _ _ a, b, d, fun i p q => ⟨(c i p q).1, e _ _ (c i p q).2⟩⟩
theorem RwN.back (h : RwN H0 H s F) (e : Ex H1 H0) : RwN H1 H s F := by
  obtain ⟨n, ps, a, b, d, c⟩ := h
  exact ⟨fresh_back e n, ps, a, b, d, fun i p q => ⟨fresh_back e (c i p q).1, (c i p q).2⟩⟩
theorem RwN.nil (h : H0 s = none) (e : H s = some (.lst [])) : RwN H0 H s [] := ⟨h, [], e, rfl, List.not_mem_nil, fun i p e => by simp at e⟩
theorem RwL.get (h : RwL H s F) {i : Nat} (hi : i < F.length) : ∃ p xs, H s = some (.lst xs) ∧ xs.length = F.length ∧ xs[i]? = some (.ref p) ∧ H p = some (.lst ((F.getD i []).map V.int)) := by
  obtain ⟨ps, h1, h2, h3⟩ := h
  have hx : ps[i]? = some ps[i] := List.getElem?_eq_getElem (by omega)
  exact ⟨ps[i], _, h1, by rw [List.length_map]; exact h2, by rw [List.getElem?_map, hx]; rfl, h3 i _ hx⟩
theorem RwL.lst (h : RwL H s F) : ∃ xs, H s = some (.lst xs) ∧ xs.length = F.length ∧ ∀ (i : Nat) (v : V), xs[i]? = some v → i < F.length ∧ ∃ p, v = .ref p ∧ H p = some (.lst ((F.getD i []).map V.int)) := by
  obtain ⟨ps, h1, h2, h3⟩ := h
  refine ⟨_, h1, by rw [List.length_map]; exact h2, fun i v e => ?_⟩
  rw [List.getElem?_map] at e
  cases q : ps[i]? with
  | none => rw [q] at e; cases e
  | some p =>
    rw [q] at e
    cases e
    exact ⟨by have := (List.getElem?_eq_some_iff.mp q).1; omega, p, rfl, h3 i p q⟩
theorem RwN.push {r : List Int} (h : RwN H0 H1 s F) (nH : H0 p = none) (np : H1 p = none) (e : Ex H1 H') (hp : H' p = some (.lst (r.map V.int))) :
    ∃ xs, H' s = some (.lst xs) ∧ xs.length = F.length ∧ RwN H0 (upd H' s (.lst (xs ++ [.ref p]))) s (F ++ [r]) := by
  obtain ⟨h0, ps, h1, h2, h5, h3⟩ := h
  have hs : p ≠ s := Ne.symm (ne_of_none h1 np)
  refine ⟨_, e _ _ h1, by rw [List.length_map]; exact h2, h0, ps ++ [p], by rw [upd_same, List.map_append]; rfl, by rw [List.length_append, List.length_append, h2]; rfl, ?_, fun i q eq => ?_⟩
  · intro m
    rcases List.mem_append.mp m with m | m
    · exact h5 m
    · exact hs (List.mem_singleton.mp m).symm
  · by_cases hi : i < ps.length
    · rw [List.getElem?_append_left hi] at eq
      have := h3 i q eq
      have ns : q ≠ s := fun z => h5 (z ▸ List.mem_of_getElem? eq)
      refine ⟨this.1, ?_⟩
      rw [upd_ne ns, e _ _ this.2]
      rw [List.getD_eq_getElem?_getD, List.getD_eq_getElem?_getD, List.getElem?_append_left (by omega)]
    · rw [List.getElem?_append_right (by omega)] at eq
      have hi2 : i - ps.length = 0 := by
        have := (List.getElem?_eq_some_iff.mp eq).1
        rw [List.length_singleton] at this
        omega
      rw [hi2] at eq
      obtain rfl : p = q := by simpa using eq
      refine ⟨nH, ?_⟩
      rw [upd_ne hs, hp]
      have : i = F.length := by omega
      rw [this, List.getD_eq_getElem?_getD, List.getElem?_append_right (Nat.le_refl _), Nat.sub_self]
      rfl
/-- .. by the rows of another list, made while s stood -/
theorem RwN.app {Hb : Hp} {d : Addr} (h : RwN H0 H s F) (g : RwN Hb H d X) (hb : Hb s ≠ none) (e : Ex H0 Hb) :
    ∃ xs zs, H s = some (.lst xs) ∧ H d = some (.lst zs) ∧ xs.length = F.length ∧ zs.length = X.length ∧ d ≠ s ∧ RwN H0 (upd H s (.lst (xs ++ zs))) s (F ++ X) := by
  obtain ⟨h0, ps, h1, h2, h5, h3⟩ := h
  obtain ⟨g0, qs, g1, g2, g5, g3⟩ := g
  have hs : ∀ {q : Addr}, Hb q = none → q ≠ s := fun n z => hb (z ▸ n)
  refine ⟨_, _, h1, g1, by rw [List.length_map]; exact h2, by rw [List.length_map]; exact g2, hs g0, h0, ps ++ qs, by rw [upd_same, List.map_append], by rw [List.length_append, List.length_append, h2, g2], ?_, fun i q eq => ?_⟩
  · intro m
    rcases List.mem_append.mp m with m | m
    · exact h5 m
    · obtain ⟨j, hj⟩ := List.getElem?_of_mem m
      exact hs (g3 j s hj).1 rfl
  · by_cases hi : i < ps.length
    · rw [List.getElem?_append_left hi] at eq
      have := h3 i q eq
      have ns : q ≠ s := fun z => h5 (z ▸ List.mem_of_getElem? eq)
      refine ⟨this.1, ?_⟩
      rw [upd_ne ns, this.2]
      rw [List.getD_eq_getElem?_getD, List.getD_eq_getElem?_getD, List.getElem?_append_left (by omega)]
    · rw [List.getElem?_append_right (by omega)] at eq
      obtain ⟨k1, k2⟩ := g3 _ q eq
      refine ⟨fresh_back e k1, ?_⟩
      rw [upd_ne (hs k1), k2]
      rw [List.getD_eq_getElem?_getD, List.getD_eq_getElem?_getD, List.getElem?_append_right (by omega), h2]
theorem RwL.dp {K : PySem.W.Frag} (h : RwL H s F) : Dp K H (.ref s) (dLL F) := by
  obtain ⟨ps, h1, h2, h3⟩ := h
  refine .lst (.inl (.inl h1)) (dp_ll h2 fun i p l a b => ?_)
  have := h3 i p a
  rw [List.getD_eq_getElem?_getD, b] at this
  exact .inl (.inl this)
theorem eqRows {K : PySem.W.Frag} {Q : VK} {a b : Addr} {F G : List (List Int)} (h : RwL H a F) (g : RwL H b G) (q : Q (.bl (decide (F = G))) H) : rEqD K (.ref a) (.ref b) H Q :=
  ⟨_, _, h.dp, g.dp, shp_LL _, shp_LL _, by rw [eqv_LL]; exact q⟩
theorem neRows {K : PySem.W.Frag} {Q : VK} {a b : Addr} {F G : List (List Int)} (h : RwL H a F) (g : RwL H b G) (q : Q (.bl (!decide (F = G))) H) : rNeD K (.ref a) (.ref b) H Q :=
  ⟨_, _, h.dp, g.dp, shp_LL _, shp_LL _, by rw [eqv_LL]; exact q⟩
/-- some lists of numbers in one list -/
theorem rows_cat {c : Addr} {ps qs : List Addr} (h1 : ps.length = F.length) (h2 : ∀ i p, ps[i]? = some p → H p = some (.lst ((F.getD i []).map V.int))) (g1 : qs.length = X.length) (g2 : ∀ i p, qs[i]? = some p → H p = some (.lst ((X.getD i []).map V.int))) (hc : H c = some (.lst ((ps ++ qs).map V.ref))) : RwL H c (F ++ X) := by
  refine ⟨ps ++ qs, hc, by rw [List.length_append, List.length_append, h1, g1], fun i q eq => ?_⟩
  by_cases hi : i < ps.length
  · rw [List.getElem?_append_left hi] at eq
    rw [h2 i q eq, List.getD_eq_getElem?_getD, List.getD_eq_getElem?_getD, List.getElem?_append_left (by omega)]
  · rw [List.getElem?_append_right (by omega)] at eq
    rw [g2 _ q eq, List.getD_eq_getElem?_getD, List.getD_eq_getElem?_getD, List.getElem?_append_right (by omega), h1]
end
end BC

set_option Elab.async false
set_option linter.all false
set_option maxRecDepth 100000
set_option maxHeartbeats 4000000
/-! effects of visits: for each page its exit -/
namespace EF
open PySem PySem.Spec PyProof.Rows L2 BC TR
/-- the exit of a page: what comes behind its last visit -/
def nx : List Int → Int → Option Int
  | [], _ => none
  | a :: r, p => match nx r p with
    | some y => some y
    | none => if a = p then some (r.headD a) else none
theorem nx_some {a p y : Int} {r : List Int} (h : nx r p = some y) : nx (a :: r) p = some y := by
  show (match nx r p with | some y => some y | none => _) = _
  rw [h]
theorem nx_none {a p : Int} {r : List Int} (h : nx r p = none) : nx (a :: r) p = if a = p then some (r.headD a) else none := by
  show (match nx r p with | some y => some y | none => _) = _
  rw [h]
theorem nx_mem : ∀ {row : List Int} {p : Int}, p ∈ row → ∃ y, nx row p = some y
  | a :: r, p, h => by
    cases e : nx r p with
    | some y => exact ⟨y, nx_some e⟩
    | none =>
      rcases List.mem_cons.mp h with rfl | h
      · exact ⟨_, by rw [nx_none e, if_pos rfl]⟩
      · obtain ⟨y, hy⟩ := nx_mem h
        rw [e] at hy
        cases hy
theorem headD_mem {a : Int} : ∀ {r : List Int}, r.headD a ∈ a :: r
  | [] => List.mem_cons_self
  | b :: r => List.mem_cons_of_mem _ List.mem_cons_self
theorem mem_nx : ∀ {row : List Int} {p y : Int}, nx row p = some y → p ∈ row ∧ y ∈ row
  | a :: r, p, y, h => by
    cases e : nx r p with
    | some z =>
      rw [nx_some e] at h
      cases h
      obtain ⟨h1, h2⟩ := mem_nx e
      exact ⟨List.mem_cons_of_mem _ h1, List.mem_cons_of_mem _ h2⟩
    | none =>
      rw [nx_none e] at h
      split at h
      · next q =>
        cases h
        subst q
        exact ⟨List.mem_cons_self, headD_mem⟩
      · cases h
/-- the pages by their last visits -/
def dd : List Int → List Int
  | [] => []
  | a :: r => if a ∈ r then dd r else a :: dd r
theorem dd_mem : ∀ {row : List Int} {p : Int}, p ∈ dd row ↔ p ∈ row
  | [], p => Iff.rfl
  | a :: r, p => by
    unfold dd
    split
    · next h =>
      rw [dd_mem (row := r), List.mem_cons]
      exact ⟨fun m => .inr m, fun m => m.elim (fun e => by rw [e]; exact h) id⟩
    · rw [List.mem_cons, List.mem_cons, dd_mem (row := r)]
theorem dd_nodup : ∀ row : List Int, (dd row).Nodup
  | [] => List.nodup_nil
  | a :: r => by
    unfold dd
    split
    · exact dd_nodup r
    · next h => exact List.nodup_cons.mpr ⟨fun m => h (dd_mem.mp m), dd_nodup r⟩
def ix (row : List Int) (p : Int) : Nat := (dd row).idxOf p
theorem ix_lt {row : List Int} {p : Int} (h : p ∈ row) : ix row p < (dd row).length := List.idxOf_lt_length_of_mem (dd_mem.mpr h)
/-- the last page -/
def lst (row : List Int) : Int := row.getLast?.getD 0
theorem lst_cons {a b : Int} {r : List Int} : lst (a :: b :: r) = lst (b :: r) := by unfold lst; rw [List.getLast?_cons_cons]
theorem nx_ix : ∀ {row : List Int} {p y : Int}, nx row p = some y → (y = p ∧ p = lst row) ∨ (p ≠ y ∧ p ≠ lst row ∧ ix row p < ix row y)
  | a :: r, p, y, h => by
    cases e : nx r p with
    | some z =>
      rw [nx_some e] at h
      cases h
      obtain ⟨hp, hy⟩ := mem_nx e
      obtain ⟨b, r', rfl⟩ : ∃ b r', r = b :: r' := by
        cases r with
        | nil => cases hp
        | cons b r' => exact ⟨b, r', rfl⟩
      rw [lst_cons]
      rcases nx_ix e with ⟨h1, h2⟩ | ⟨h1, h2, h3⟩
      · exact .inl ⟨h1, h2⟩
      · refine .inr ⟨h1, h2, ?_⟩
        unfold ix dd
        split
        · exact h3
        · next na =>
          have pa : ¬ a = p := fun e => na (by rw [e]; exact hp)
          have ya : ¬ a = y := fun e => na (by rw [e]; exact hy)
          rw [List.idxOf_cons, List.idxOf_cons, beq_eq_false_iff_ne.mpr pa, beq_eq_false_iff_ne.mpr ya]
          show (dd (b :: r')).idxOf p + 1 < (dd (b :: r')).idxOf y + 1
          unfold ix at h3
          omega
    | none =>
      rw [nx_none e] at h
      split at h
      · next q =>
        subst q
        cases h
        have na : a ∉ r := fun m => by
          obtain ⟨z, hz⟩ := nx_mem m
          rw [e] at hz
          cases hz
        cases r with
        | nil => exact .inl ⟨rfl, rfl⟩
        | cons b r' =>
          have ab : a ≠ b := fun z => na (by rw [z]; exact List.mem_cons_self)
          refine .inr ⟨ab, ?_, ?_⟩
          · rw [lst_cons]
            intro z
            refine na ?_
            rw [z]
            unfold lst
            rw [List.getLast?_eq_some_getLast (by simp)]
            exact List.getLast_mem _
          · unfold ix dd
            rw [if_neg na, List.idxOf_cons_self, List.idxOf_cons, beq_eq_false_iff_ne.mpr (show ¬ a = (b :: r').headD a from ab)]
            exact Nat.succ_pos _
      · cases h
theorem lst_mem : ∀ {row : List Int}, row ≠ [] → lst row ∈ row := fun {row} h => by
  unfold lst
  rw [List.getLast?_eq_some_getLast h]
  exact List.getLast_mem h
theorem nx_lst {row : List Int} (h : row ≠ []) : nx row (lst row) = some (lst row) := by
  obtain ⟨y, hy⟩ := nx_mem (lst_mem h)
  rcases nx_ix hy with ⟨h1, _⟩ | ⟨_, h2, _⟩
  · rw [hy, h1]
  · exact absurd rfl h2
/-- do so many steps lead to the root? -/
def lead (f : Int → Int) (root : Int) : Nat → Int → Bool
  | 0, _ => false
  | n + 1, p => if p = root then true else lead f root n (f p)
def nxt (row : List Int) (p : Int) : Int := (nx row p).getD 0
theorem nxt_at {row : List Int} {p y : Int} (h : nx row p = some y) : nxt row p = y := by unfold nxt; rw [h]; rfl
theorem lead_ok {row : List Int} : ∀ (n : Nat) {p : Int}, p ∈ row → (dd row).length ≤ n + ix row p → lead (nxt row) (lst row) n p = true
  | 0, p, hp, h => by have := ix_lt hp; omega
  | n + 1, p, hp, h => by
    show (if p = lst row then true else _) = true
    split
    · rfl
    · next ne =>
      obtain ⟨y, hy⟩ := nx_mem hp
      rw [nxt_at hy]
      rcases nx_ix hy with ⟨_, h2⟩ | ⟨_, _, h3⟩
      · exact absurd h2 ne
      · exact lead_ok n (mem_nx hy).2 (by omega)
/-! ### as a list of pairs in order -/
def exs (row : List Int) : List (Int × Int) := ((List.range 40).map fun i : Nat => (i : Int)).filterMap fun p => (nx row p).map fun y => (p, y)
theorem mem_exs {row : List Int} (hp : Pg 40 row) {x y : Int} : (x, y) ∈ exs row ↔ nx row x = some y := by
  unfold exs
  rw [List.mem_filterMap]
  constructor
  · rintro ⟨p, _, h⟩
    cases e : nx row p with
    | none => rw [e] at h; cases h
    | some z => rw [e] at h; cases h; exact e
  · intro h
    have hx := hp x (mem_nx h).1
    refine ⟨x, List.mem_map.mpr ⟨x.toNat, List.mem_range.mpr (by omega), by omega⟩, ?_⟩
    rw [h]
    rfl
def ltF (a b : Int × Int) : Prop := a.1 < b.1
theorem exs_srt (row : List Int) : (exs row).Pairwise ltF := by
  unfold exs
  rw [List.pairwise_filterMap]
  have : ((List.range 40).map fun i : Nat => (i : Int)).Pairwise (· < ·) := by
    rw [List.pairwise_map]
    exact List.pairwise_lt_range.imp fun h => by omega
  refine this.imp fun {a b} h x hx y hy => ?_
  have ex : x.1 = a := by
    cases e : nx row a with
    | none => rw [e] at hx; cases hx
    | some z => rw [e] at hx; cases hx; rfl
  have ey : y.1 = b := by
    cases e : nx row b with
    | none => rw [e] at hy; cases hy
    | some z => rw [e] at hy; cases hy; rfl
  show x.1 < y.1
  rw [ex, ey]
  exact h
theorem srt_nodup {l : List (Int × Int)} (h : l.Pairwise ltF) : (l.map (·.1)).Nodup := by
  rw [List.nodup_iff_pairwise_ne, List.pairwise_map]
  exact h.imp fun {a b} h e => by
    have : a.1 < b.1 := h
    omega
/-- two lists in order with the same members -/
theorem srt_uniq : ∀ {l m : List (Int × Int)}, l.Pairwise ltF → m.Pairwise ltF → (∀ q, q ∈ l ↔ q ∈ m) → l = m
  | [], [], _, _, _ => rfl
  | [], b :: m, _, _, h => (List.not_mem_nil ((h b).mpr List.mem_cons_self)).elim
  | a :: l, [], _, _, h => (List.not_mem_nil ((h a).mp List.mem_cons_self)).elim
  | a :: l, b :: m, hl, hm, h => by
    rw [List.pairwise_cons] at hl hm
    have e : a = b := by
      have h1 := (h a).mp List.mem_cons_self
      have h2 := (h b).mpr List.mem_cons_self
      rcases List.mem_cons.mp h1 with h1 | h1
      · exact h1
      · rcases List.mem_cons.mp h2 with h2 | h2
        · exact h2.symm
        · have a1 : b.1 < a.1 := hm.1 a h1
          have a2 : a.1 < b.1 := hl.1 b h2
          omega
    subst e
    have ne : ∀ {k : List (Int × Int)}, (∀ q ∈ k, ltF a q) → a ∉ k := fun hk m => by
      have : a.1 < a.1 := hk a m
      omega
    rw [srt_uniq hl.2 hm.2 fun q => ?_]
    have hq := h q
    rw [List.mem_cons, List.mem_cons] at hq
    by_cases c : q = a
    · subst c
      exact ⟨fun m => absurd m (ne hl.1), fun m => absurd m (ne hm.1)⟩
    · exact ⟨fun m => (hq.mp (.inr m)).resolve_left c, fun m => (hq.mpr (.inr m)).resolve_left c⟩
/-- numbers in order with the same members -/
theorem ints_uniq : ∀ {l m : List Int}, l.Pairwise (· < ·) → m.Pairwise (· < ·) → (∀ q, q ∈ l ↔ q ∈ m) → l = m
  | [], [], _, _, _ => rfl
  | [], b :: m, _, _, h => (List.not_mem_nil ((h b).mpr List.mem_cons_self)).elim
  | a :: l, [], _, _, h => (List.not_mem_nil ((h a).mp List.mem_cons_self)).elim
  | a :: l, b :: m, hl, hm, h => by
    rw [List.pairwise_cons] at hl hm
    have e : a = b := by
      have h1 := (h a).mp List.mem_cons_self
      have h2 := (h b).mpr List.mem_cons_self
      rcases List.mem_cons.mp h1 with h1 | h1
      · exact h1
      · rcases List.mem_cons.mp h2 with h2 | h2
        · exact h2.symm
        · have a1 := hm.1 a h1
          have a2 := hl.1 b h2
          omega
    subst e
    have ne : ∀ {k : List Int}, (∀ q ∈ k, a < q) → a ∉ k := fun hk m => by
      have := hk a m
      omega
    rw [ints_uniq hl.2 hm.2 fun q => ?_]
    have hq := h q
    rw [List.mem_cons, List.mem_cons] at hq
    by_cases c : q = a
    · subst c
      exact ⟨fun m => absurd m (ne hl.1), fun m => absurd m (ne hm.1)⟩
    · exact ⟨fun m => (hq.mp (.inr m)).resolve_left c, fun m => (hq.mpr (.inr m)).resolve_left c⟩
/-! ### a dict of numbers by numbers -/
def getI (qs : List (Int × Int)) (x : Int) : Option Int := (qs.find? fun q => decide (q.1 = x)).map (·.2)
def putI (qs : List (Int × Int)) (x y : Int) : List (Int × Int) := if (qs.any fun q => decide (q.1 = x)) = true then qs.map (fun q => if q.1 = x then (q.1, y) else q) else qs ++ [(x, y)]
theorem getI_val (x : Int) : ∀ qs : List (Int × Int), valV (qs.map itK) (Sum.inl x) = (getI qs x).map V.int
  | [] => rfl
  | q :: qs => by
    have ih := getI_val x qs
    rw [List.map_cons]
    by_cases e : q.1 = x
    · rw [valV_pos (by show (Sum.inl q.1 : Key) = Sum.inl x; rw [e])]
      simp [getI, e, itK]
    · rw [valV_neg (by show ¬ (Sum.inl q.1 : Key) = Sum.inl x; exact fun z => e (Sum.inl.inj z)), ih]
      simp [getI, e]
theorem any_itK (x : Int) (qs : List (Int × Int)) : ((qs.map itK).any fun kv => decide (kv.1 = Sum.inl x)) = qs.any fun q => decide (q.1 = x) := by
  rw [List.any_map]
  congr 1
  funext q
  exact decide_eq_decide.mpr ⟨fun e => Sum.inl.inj e, fun e => congrArg Sum.inl e⟩
theorem putI_put (qs : List (Int × Int)) (x y : Int) : putK (qs.map itK) (Sum.inl x) (.int y) = (putI qs x y).map itK := by
  unfold putK putI
  rw [any_itK]
  by_cases c : (qs.any fun q => decide (q.1 = x)) = true
  · rw [if_pos c, if_pos c, List.map_map, List.map_map]
    refine List.map_congr_left fun q _ => ?_
    show (if (Sum.inl q.1 : Key) = Sum.inl x then ((Sum.inl q.1 : Key), V.int y) else (Sum.inl q.1, V.int q.2)) = itK (if q.1 = x then (q.1, y) else q)
    by_cases e : q.1 = x
    · rw [if_pos (by rw [e]), if_pos e]; rfl
    · rw [if_neg (fun z => e (Sum.inl.inj z)), if_neg e]; rfl
  · rw [if_neg c, if_neg c, List.map_append]
    rfl
theorem getI_any (x : Int) : ∀ qs : List (Int × Int), (qs.any fun q => decide (q.1 = x)) = (getI qs x).isSome
  | [] => rfl
  | q :: qs => by
    rw [List.any_cons, getI_any x qs]
    by_cases e : q.1 = x
    · simp [getI, e]
    · simp [getI, e]
theorem getI_map (x y z : Int) : ∀ qs : List (Int × Int), getI (qs.map fun q => if q.1 = x then (q.1, y) else q) z = if z = x then (getI qs z).map fun _ => y else getI qs z
  | [] => by simp [getI]
  | q :: qs => by
    have ih := getI_map x y z qs
    by_cases e : q.1 = z
    · by_cases c : z = x
      · subst c; simp [getI, e]
      · rw [if_neg c]
        have : ¬ q.1 = x := fun w => c (by rw [← e, w])
        simp [getI, e, this, c]
    · have hk : (if q.1 = x then (q.1, y) else q).1 = q.1 := by split <;> rfl
      have g1 : getI ((q :: qs).map fun q => if q.1 = x then (q.1, y) else q) z = getI (qs.map fun q => if q.1 = x then (q.1, y) else q) z := by
        unfold getI
        rw [List.map_cons, List.find?_cons, hk, decide_eq_false e]
      have g2 : getI (q :: qs) z = getI qs z := by
        unfold getI
        rw [List.find?_cons, decide_eq_false e]
      rw [g1, g2, ih]
theorem getI_append (x y z : Int) (qs : List (Int × Int)) (h : getI qs x = none) : getI (qs ++ [(x, y)]) z = if z = x then some y else getI qs z := by
  unfold getI at h ⊢
  rw [List.find?_append]
  cases c : qs.find? fun q => decide (q.1 = z) with
  | some q =>
    by_cases e : z = x
    · subst e; rw [c] at h; cases h
    · rw [if_neg e]; rfl
  | none =>
    by_cases e : z = x
    · subst e; simp
    · have : ¬ x = z := fun w => e w.symm
      simp [this, e]
theorem getI_put (qs : List (Int × Int)) (x y z : Int) : getI (putI qs x y) z = if z = x then some y else getI qs z := by
  unfold putI
  by_cases c : (qs.any fun q => decide (q.1 = x)) = true
  · rw [if_pos c, getI_map]
    rw [getI_any] at c
    by_cases e : z = x
    · subst e
      rw [if_pos rfl, if_pos rfl]
      cases h : getI qs z with
      | none => rw [h] at c; cases c
      | some v => rfl
    · rw [if_neg e, if_neg e]
  · rw [if_neg c]
    rw [getI_any] at c
    exact getI_append x y z qs (by cases h : getI qs x with | none => rfl | some v => rw [h] at c; exact absurd rfl c)
theorem putI_nodup {qs : List (Int × Int)} {x y : Int} (h : (qs.map (·.1)).Nodup) : ((putI qs x y).map (·.1)).Nodup := by
  unfold putI
  split
  · rw [List.map_map]
    have e : ((fun p : Int × Int => p.1) ∘ fun q : Int × Int => if q.1 = x then (q.1, y) else q) = fun p => p.1 := funext fun p => by
      show (if p.1 = x then (p.1, y) else p).1 = p.1
      split <;> rfl
    rw [e]
    exact h
  · next c =>
    rw [List.map_append, List.nodup_append]
    refine ⟨h, by simp, fun a ha b hb e => ?_⟩
    obtain ⟨p, hp, rfl⟩ := List.mem_map.mp ha
    have hb' : b = x := by simpa using hb
    refine c (List.any_eq_true.mpr ⟨p, hp, decide_eq_true ?_⟩)
    rw [e, hb']
theorem putI_len (qs : List (Int × Int)) (x y : Int) : (putI qs x y).length ≤ qs.length + 1 := by
  unfold putI
  split
  · rw [List.length_map]; omega
  · rw [List.length_append, List.length_singleton]; omega
theorem getI_mem {qs : List (Int × Int)} (nd : (qs.map (·.1)).Nodup) {x y : Int} : (x, y) ∈ qs ↔ getI qs x = some y := by
  induction qs with
  | nil => exact ⟨fun h => (List.not_mem_nil h).elim, fun h => by cases h⟩
  | cons q qs ih =>
    rw [List.map_cons, List.nodup_cons] at nd
    by_cases e : q.1 = x
    · have g : getI (q :: qs) x = some q.2 := by simp [getI, e]
      rw [g]
      constructor
      · intro h
        rcases List.mem_cons.mp h with h | h
        · rw [← h]
        · exact absurd (List.mem_map.mpr ⟨(x, y), h, e.symm⟩) nd.1
      · intro h
        have : q = (x, y) := by
          have := Option.some.inj h
          rw [← e, ← this]
        rw [this]
        exact List.mem_cons_self
    · have g : getI (q :: qs) x = getI qs x := by simp [getI, e]
      rw [g, ← ih nd.2, List.mem_cons]
      exact ⟨fun h => h.resolve_left fun z => e (by rw [← z]), .inr⟩
theorem srt_of {rs qs : List (Int × Int)} (p : rs.Perm qs) (s : rs.Pairwise leP) (nd : (qs.map (·.1)).Nodup) : rs.Pairwise ltF := by
  have nr : (rs.map (·.1)).Nodup := (p.map (·.1)).nodup_iff.mpr nd
  rw [List.nodup_iff_pairwise_ne, List.pairwise_map] at nr
  refine (s.and nr).imp fun {a b} h => ?_
  have h1 : a.1 < b.1 ∨ (a.1 = b.1 ∧ a.2 ≤ b.2) := h.1
  have h2 : a.1 ≠ b.1 := h.2
  show a.1 < b.1
  omega
/-- what a dict of all exits gives when it is sorted -/
theorem srt_exs {row : List Int} (hp : Pg 40 row) {rs qs : List (Int × Int)} (p : rs.Perm qs) (s : rs.Pairwise leP) (nd : (qs.map (·.1)).Nodup) (g : ∀ x, getI qs x = nx row x) : rs = exs row :=
  srt_uniq (srt_of p s nd) (exs_srt row) fun q => by
    obtain ⟨x, y⟩ := q
    rw [mem_exs hp, ← g x, ← getI_mem nd, p.mem_iff]
/-! ### the dict as it is filled from the front -/
def foldP (qs : List (Int × Int)) : List Int → List (Int × Int)
  | [] => qs
  | a :: r => foldP (putI qs a (r.headD a)) r
theorem foldP_get (x : Int) : ∀ (row : List Int) (qs : List (Int × Int)), getI (foldP qs row) x = match nx row x with | some y => some y | none => getI qs x
  | [], qs => rfl
  | a :: r, qs => by
    show getI (foldP (putI qs a (r.headD a)) r) x = _
    rw [foldP_get x r]
    cases e : nx r x with
    | some y => rw [nx_some e]
    | none =>
      rw [nx_none e]
      show getI (putI qs a (r.headD a)) x = _
      rw [getI_put]
      by_cases c : x = a
      · rw [if_pos c, if_pos c.symm]
      · rw [if_neg c, if_neg (fun z => c z.symm)]
theorem foldP_nodup : ∀ (row : List Int) (qs : List (Int × Int)), (qs.map (·.1)).Nodup → ((foldP qs row).map (·.1)).Nodup
  | [], _, h => h
  | a :: r, qs, h => foldP_nodup r _ (putI_nodup h)
theorem foldP_all (row : List Int) (x : Int) : getI (foldP [] row) x = nx row x := by
  rw [foldP_get]
  cases nx row x <;> rfl
/-! ### first page, root, leaves -/
def rootsOf (qs : List (Int × Int)) : List Int := (qs.filter fun q => decide (q.1 = q.2)).map (·.1)
def usedOf (qs : List (Int × Int)) : List Int := (qs.filter fun q => !decide (q.1 = q.2)).map (·.2)
def leavesOf (qs : List (Int × Int)) : List Int := (qs.filter fun q => !decide (q.1 ∈ usedOf qs)).map (·.1)
theorem filter_one {α : Type} {P : α → Bool} {a : α} : ∀ {l : List α}, l.Nodup → a ∈ l → (∀ b ∈ l, P b = true ↔ b = a) → l.filter P = [a]
  | [], _, h, _ => (List.not_mem_nil h).elim
  | b :: l, nd, h, hP => by
    rw [List.nodup_cons] at nd
    rcases List.mem_cons.mp h with e | h
    · subst e
      rw [List.filter_cons_of_pos ((hP a List.mem_cons_self).mpr rfl)]
      congr 1
      rw [List.filter_eq_nil_iff]
      intro c hc pc
      have := (hP c (List.mem_cons_of_mem _ hc)).mp pc
      exact nd.1 (this ▸ hc)
    · have nb : ¬ P b = true := fun pb => by
        have := (hP b List.mem_cons_self).mp pb
        exact nd.1 (this ▸ h)
      rw [List.filter_cons_of_neg nb]
      exact filter_one nd.2 h fun c hc => hP c (List.mem_cons_of_mem _ hc)
theorem srt_nd {l : List (Int × Int)} (h : l.Pairwise ltF) : l.Nodup := by
  rw [List.nodup_iff_pairwise_ne]
  exact h.imp fun {a b} h e => by
    have : a.1 < b.1 := h
    rw [e] at this
    omega
theorem roots_exs {row : List Int} (hp : Pg 40 row) (h : row ≠ []) : rootsOf (exs row) = [lst row] := by
  unfold rootsOf
  rw [filter_one (a := (lst row, lst row)) (srt_nd (exs_srt row)) ((mem_exs hp).mpr (nx_lst h)) fun b hb => ?_]
  · rfl
  · obtain ⟨x, y⟩ := b
    have hx := (mem_exs hp).mp hb
    rw [decide_eq_true_iff]
    constructor
    · intro e
      have e' : x = y := e
      rcases nx_ix hx with ⟨_, h2⟩ | ⟨h1, _⟩
      · rw [← e', h2]
      · exact absurd e' h1
    · intro e
      cases e
      rfl
theorem exs_len {row : List Int} (hp : Pg 40 row) : (exs row).length = (dd row).length := by
  have h1 : ((exs row).map (·.1)).Nodup := srt_nodup (exs_srt row)
  have h2 : ((exs row).map (·.1)).Perm (dd row) := by
    rw [List.perm_ext_iff_of_nodup h1 (dd_nodup row)]
    intro x
    rw [dd_mem]
    constructor
    · intro h
      obtain ⟨⟨a, b⟩, hq, rfl⟩ := List.mem_map.mp h
      exact (mem_nx ((mem_exs hp).mp hq)).1
    · intro h
      obtain ⟨y, hy⟩ := nx_mem h
      exact List.mem_map.mpr ⟨(x, y), (mem_exs hp).mpr hy, rfl⟩
  have := h2.length_eq
  rw [List.length_map] at this
  exact this
theorem exs_len40 (row : List Int) : (exs row).length ≤ 40 := by
  unfold exs
  refine Nat.le_trans (List.length_filterMap_le _ _) ?_
  rw [List.length_map, List.length_range]
  exact Nat.le_refl _
end EF

set_option Elab.async false
set_option linter.all false
set_option maxRecDepth 100000
set_option maxHeartbeats 4000000
/-! shortest lists of visits with a given effect -/
namespace EF
open PySem PySem.Spec PyProof.Rows L2 BC TR
theorem nx_none_iff {row : List Int} {p : Int} : nx row p = none ↔ p ∉ row := by
  constructor
  · intro h m
    obtain ⟨y, hy⟩ := nx_mem m
    rw [h] at hy
    cases hy
  · intro h
    cases c : nx row p with
    | none => rfl
    | some y => exact absurd (mem_nx c).1 h
theorem nx_app_last {x z : Int} (ne : x ≠ z) : ∀ {f : List Int}, f.getLast? = some x → nx (f ++ [z]) x = some z
  | [], h => by cases h
  | [a], h => by
    have ha : a = x := by simpa using h
    subst ha
    show nx (a :: [z]) a = some z
    rw [nx_none (by show nx (z :: []) a = none; rw [nx_none rfl, if_neg (fun e => ne e.symm)]), if_pos rfl]
    rfl
  | a :: b :: r, h => by
    rw [List.getLast?_cons_cons] at h
    exact nx_some (nx_app_last ne h)
theorem nx_app_old {x z : Int} (ne : x ≠ z) : ∀ {f : List Int}, f.getLast? ≠ some x → nx (f ++ [z]) x = nx f x
  | [], _ => by
    show nx (z :: []) x = none
    rw [nx_none rfl, if_neg (fun e => ne e.symm)]
  | [a], h => by
    have ha : ¬ a = x := fun e => h (by rw [e]; rfl)
    show nx (a :: [z]) x = nx (a :: []) x
    rw [nx_none (p := x) (r := [z]) (by show nx (z :: []) x = none; rw [nx_none rfl, if_neg (fun e => ne e.symm)]), nx_none (r := []) rfl, if_neg ha, if_neg ha]
  | a :: b :: r, h => by
    rw [List.getLast?_cons_cons] at h
    have ih := nx_app_old ne (f := b :: r) h
    show nx (a :: (b :: r ++ [z])) x = nx (a :: b :: r) x
    cases c : nx (b :: r) x with
    | some y => rw [nx_some c, nx_some (ih.trans c)]
    | none =>
      rw [nx_none c, nx_none (ih.trans c)]
      rfl
theorem mem_used {row : List Int} (hp : Pg 40 row) {x : Int} : x ∈ usedOf (exs row) ↔ ∃ c, c ≠ x ∧ nx row c = some x := by
  unfold usedOf
  rw [List.mem_map]
  constructor
  · rintro ⟨⟨c, y⟩, h, e⟩
    rw [List.mem_filter] at h
    obtain ⟨h1, h2⟩ := h
    have e' : y = x := e
    subst e'
    refine ⟨c, fun q => ?_, (mem_exs hp).mp h1⟩
    rw [q] at h2
    simp at h2
  · rintro ⟨c, h1, h2⟩
    refine ⟨(c, x), List.mem_filter.mpr ⟨(mem_exs hp).mpr h2, ?_⟩, rfl⟩
    simp [h1]
theorem mem_leaves {row : List Int} (hp : Pg 40 row) {x : Int} : x ∈ leavesOf (exs row) ↔ x ∈ row ∧ ∀ c, c ≠ x → nx row c ≠ some x := by
  unfold leavesOf
  rw [List.mem_map]
  constructor
  · rintro ⟨⟨c, y⟩, h, e⟩
    rw [List.mem_filter] at h
    obtain ⟨h1, h2⟩ := h
    have e' : c = x := e
    subst e'
    refine ⟨(mem_nx ((mem_exs hp).mp h1)).1, fun d hd hn => ?_⟩
    have := (mem_used hp).mpr ⟨d, hd, hn⟩
    simp [this] at h2
  · rintro ⟨h1, h2⟩
    obtain ⟨y, hy⟩ := nx_mem h1
    refine ⟨(x, y), List.mem_filter.mpr ⟨(mem_exs hp).mpr hy, ?_⟩, rfl⟩
    have : x ∉ usedOf (exs row) := fun m => by
      obtain ⟨c, h3, h4⟩ := (mem_used hp).mp m
      exact h2 c h3 h4
    simp [this]
theorem leaves_nodup (row : List Int) : (leavesOf (exs row)).Nodup := by
  unfold leavesOf
  have := srt_nodup (exs_srt row)
  exact this.sublist ((List.filter_sublist (l := exs row)).map (·.1))
/-- for a page, how many other pages with this exit are not done -/
def cnt (row D : List Int) (y : Int) : Nat := ((exs row).filter fun q => decide (q.2 = y ∧ q.1 ≠ y ∧ q.1 ∉ D)).length
theorem cnt_pos {row D : List Int} (hp : Pg 40 row) {y : Int} : cnt row D y ≠ 0 ↔ ∃ c, c ≠ y ∧ nx row c = some y ∧ c ∉ D := by
  unfold cnt
  rw [← Nat.pos_iff_ne_zero, List.length_pos_iff_exists_mem]
  constructor
  · rintro ⟨⟨c, z⟩, h⟩
    rw [List.mem_filter, decide_eq_true_eq] at h
    obtain ⟨h1, h2, h3, h4⟩ := h
    have h2' : z = y := h2
    subst h2'
    exact ⟨c, h3, (mem_exs hp).mp h1, h4⟩
  · rintro ⟨c, h1, h2, h3⟩
    exact ⟨(c, y), List.mem_filter.mpr ⟨(mem_exs hp).mpr h2, decide_eq_true ⟨rfl, h1, h3⟩⟩⟩
theorem cnt_other {row D : List Int} (hp : Pg 40 row) {x y z : Int} (hx : nx row x = some y) (hz : z ≠ y) : cnt row (x :: D) z = cnt row D z := by
  unfold cnt
  congr 1
  refine List.filter_congr fun q hq => decide_eq_decide.mpr ?_
  obtain ⟨c, w⟩ := q
  have hc := (mem_exs hp).mp hq
  constructor
  · rintro ⟨h1, h2, h3⟩
    exact ⟨h1, h2, fun m => h3 (List.mem_cons_of_mem _ m)⟩
  · rintro ⟨h1, h2, h3⟩
    refine ⟨h1, h2, fun m => (List.mem_cons.mp m).elim (fun e => ?_) h3⟩
    have e' : c = x := e
    have h1' : w = z := h1
    rw [e', hx] at hc
    cases hc
    exact hz h1'.symm
theorem filt_one {α : Type} {p q : α → Bool} {a : α} : ∀ {l : List α}, l.Nodup → a ∈ l → p a = true → q a = false → (∀ b ∈ l, b ≠ a → p b = q b) → (l.filter p).length = (l.filter q).length + 1
  | [], _, h, _, _, _ => by cases h
  | b :: l, nd, h, h1, h2, h3 => by
    rw [List.nodup_cons] at nd
    by_cases e : b = a
    · subst e
      rw [List.filter_cons_of_pos h1, List.filter_cons_of_neg (by rw [h2]; exact Bool.false_ne_true), List.length_cons]
      congr 2
      exact List.filter_congr fun c hc => h3 c (List.mem_cons_of_mem _ hc) (fun e => nd.1 (by rw [← e]; exact hc))
    · have hm : a ∈ l := (List.mem_cons.mp h).resolve_left (fun e' => e e'.symm)
      have ih := filt_one nd.2 hm h1 h2 (fun c hc ne => h3 c (List.mem_cons_of_mem _ hc) ne)
      have hb := h3 b List.mem_cons_self e
      cases c : q b with
      | true =>
        rw [c] at hb
        rw [List.filter_cons_of_pos hb, List.filter_cons_of_pos c, List.length_cons, List.length_cons, ih]
      | false =>
        rw [c] at hb
        rw [List.filter_cons_of_neg (by rw [hb]; exact Bool.false_ne_true), List.filter_cons_of_neg (by rw [c]; exact Bool.false_ne_true), ih]
theorem cnt_exit {row D : List Int} (hp : Pg 40 row) {x y : Int} (hx : nx row x = some y) (ne : y ≠ x) (hD : x ∉ D) : cnt row D y = cnt row (x :: D) y + 1 := by
  unfold cnt
  refine filt_one (a := (x, y)) (srt_nd (exs_srt row)) ((mem_exs hp).mpr hx) (decide_eq_true ⟨rfl, ne.symm, hD⟩) (decide_eq_false fun h => h.2.2 List.mem_cons_self) fun q hq hne => decide_eq_decide.mpr ?_
  obtain ⟨c, w⟩ := q
  have hc := (mem_exs hp).mp hq
  have cx : c ≠ x := fun e => by
    subst e
    rw [hx] at hc
    cases hc
    exact hne rfl
  show (w = y ∧ c ≠ y ∧ c ∉ D) ↔ (w = y ∧ c ≠ y ∧ c ∉ x :: D)
  rw [List.mem_cons, not_or]
  exact ⟨fun ⟨a, b, c'⟩ => ⟨a, b, cx, c'⟩, fun ⟨a, b, _, c'⟩ => ⟨a, b, c'⟩⟩
/-- a list in the making: the pages D are left for the last time, the leaves T are taken -/
structure LW (row D found T : List Int) (b : Nat) : Prop where
  dm : ∀ x ∈ D, x ∈ row ∧ x ≠ lst row
  dnd : D.Nodup
  cl : ∀ x ∈ D, ∀ c, nx row c = some x → c ∈ D
  nxD : ∀ x ∈ D, nx found x = nx row x
  fm : ∀ x ∈ found, x ∈ row
  ln : found.length = T.length + D.length + b
  st : ∀ x ∈ row, x ∉ D → x ≠ lst row → found.getLast? ≠ some x → (∃ c, c ≠ x ∧ nx row c = some x ∧ c ∉ D) ∨ (x ∈ leavesOf (exs row) ∧ x ∉ T)
  la : ∀ x, found.getLast? = some x → x ∉ D
  fl : found.filter (fun x => decide (x ∈ leavesOf (exs row))) = T
  hd : ∀ x, found.head? = some x → x = row.headD 0
theorem LW.step {row D found T : List Int} {b : Nat} (hp : Pg 40 row) (h : LW row D found T b) {x y : Int} (hx : found.getLast? = some x) (h0 : cnt row D x = 0) (hy : nx row x = some y) (ne : y ≠ x) : LW row (x :: D) (found ++ [y]) T b := by
  have xD := h.la x hx
  have yD : y ∉ D := fun m => xD (h.cl y m x hy)
  have hxr := (mem_nx hy).1
  have hyr := (mem_nx hy).2
  have xl : x ≠ lst row := by
    rcases nx_ix hy with ⟨e, _⟩ | ⟨_, q, _⟩
    · exact absurd e ne
    · exact q
  have lastY : (found ++ [y]).getLast? = some y := List.getLast?_concat
  constructor
  · intro z hz
    rcases List.mem_cons.mp hz with rfl | hz
    · exact ⟨hxr, xl⟩
    · exact h.dm z hz
  · exact List.nodup_cons.mpr ⟨xD, h.dnd⟩
  · intro z hz c hc
    rcases List.mem_cons.mp hz with rfl | hz
    · by_cases e : c = z
      · rw [e]; exact List.mem_cons_self
      · refine List.mem_cons_of_mem _ ?_
        by_cases m : c ∈ D
        · exact m
        · exact absurd h0 ((cnt_pos hp).mpr ⟨c, e, hc, m⟩)
    · exact List.mem_cons_of_mem _ (h.cl z hz c hc)
  · intro z hz
    rcases List.mem_cons.mp hz with rfl | hz
    · rw [nx_app_last ne.symm hx, hy]
    · rw [nx_app_old (fun e => yD (by rw [← e]; exact hz)) (fun e => h.la z e hz)]
      exact h.nxD z hz
  · intro z hz
    rcases List.mem_append.mp hz with hz | hz
    · exact h.fm z hz
    · rw [List.mem_singleton.mp hz]; exact hyr
  · rw [List.length_append, h.ln, List.length_singleton, List.length_cons]; omega
  · intro z hz hzD hzl hzy
    have zx : z ≠ x := fun e => hzD (by rw [e]; exact List.mem_cons_self)
    have zD : z ∉ D := fun m => hzD (List.mem_cons_of_mem _ m)
    have zy : z ≠ y := fun e => hzy (by rw [lastY, e])
    rcases h.st z hz zD hzl (fun e => zx (Option.some.inj (hx.symm.trans e)).symm) with ⟨c, h1, h2, h3⟩ | q
    · refine .inl ⟨c, h1, h2, fun m => (List.mem_cons.mp m).elim (fun e => ?_) h3⟩
      subst e
      rw [hy] at h2
      exact zy (Option.some.inj h2).symm
    · exact .inr q
  · intro z hz hm
    rw [lastY] at hz
    cases hz
    exact (List.mem_cons.mp hm).elim ne yD
  · rw [List.filter_append, h.fl]
    have : y ∉ leavesOf (exs row) := fun m => ((mem_leaves hp).mp m).2 x ne.symm hy
    have e : [y].filter (fun x => decide (x ∈ leavesOf (exs row))) = [] := by simp [this]
    rw [e, List.append_nil]
  · intro z hz
    cases found with
    | nil => cases hx
    | cons a r => exact h.hd z hz
theorem LW.leaf {row D found T : List Int} {b : Nat} (hp : Pg 40 row) (h : LW row D found T b) (hs : ∀ x, found.getLast? = some x → cnt row D x ≠ 0 ∨ x = lst row) {z : Int} (hz : z ∈ leavesOf (exs row)) (hT : z ∉ T) (h0 : found = [] → z = row.headD 0) : LW row D (found ++ [z]) (T ++ [z]) b := by
  have hzr := ((mem_leaves hp).mp hz).1
  have lastZ : (found ++ [z]).getLast? = some z := List.getLast?_concat
  have zf : z ∉ found := fun m => hT (by rw [← h.fl]; exact List.mem_filter.mpr ⟨m, decide_eq_true hz⟩)
  have zD : z ∉ D := fun m => by
    have e := h.nxD z m
    obtain ⟨y, hy⟩ := nx_mem hzr
    rw [hy] at e
    exact zf (mem_nx e).1
  constructor
  · exact h.dm
  · exact h.dnd
  · exact h.cl
  · intro x hx
    rw [nx_app_old (fun e => zD (by rw [← e]; exact hx)) (fun e => h.la x e hx)]
    exact h.nxD x hx
  · intro x hx
    rcases List.mem_append.mp hx with hx | hx
    · exact h.fm x hx
    · rw [List.mem_singleton.mp hx]; exact hzr
  · rw [List.length_append, List.length_append, h.ln, List.length_singleton]; omega
  · intro x hx xD xl xz
    have ne : x ≠ z := fun e => xz (by rw [lastZ, e])
    by_cases c : found.getLast? = some x
    · rcases hs x c with q | q
      · exact .inl ((cnt_pos hp).mp q)
      · exact absurd q xl
    · rcases h.st x hx xD xl c with q | ⟨q1, q2⟩
      · exact .inl q
      · refine .inr ⟨q1, fun m => (List.mem_append.mp m).elim q2 fun m => ne (List.mem_singleton.mp m)⟩
  · intro x hx
    rw [lastZ] at hx
    cases hx
    exact zD
  · have e : [z].filter (fun x => decide (x ∈ leavesOf (exs row))) = [z] := by simp [hz]
    rw [List.filter_append, h.fl, e]
  · intro x hx
    cases found with
    | nil => cases hx; exact h0 rfl
    | cons a r => exact h.hd x hx
/-- nothing is left at the end -/
theorem LW.all {row D found T : List Int} {b : Nat} (hp : Pg 40 row) (h : LW row D found T b) (hs : ∀ x, found.getLast? = some x → cnt row D x ≠ 0 ∨ x = lst row) (hT : ∀ x ∈ leavesOf (exs row), x ∈ T) : ∀ x ∈ row, x ≠ lst row → x ∈ D := by
  suffices hh : ∀ n x, ix row x < n → x ∈ row → x ≠ lst row → x ∈ D from fun x hx hl => hh _ x (Nat.lt_succ_self _) hx hl
  intro n
  induction n with
  | zero => intro x hx; omega
  | succ n ih =>
    intro x hx hr hl
    by_cases m : x ∈ D
    · exact m
    have key : (∃ c, c ≠ x ∧ nx row c = some x ∧ c ∉ D) ∨ (x ∈ leavesOf (exs row) ∧ x ∉ T) := by
      by_cases c : found.getLast? = some x
      · rcases hs x c with q | q
        · exact .inl ((cnt_pos hp).mp q)
        · exact absurd q hl
      · exact h.st x hr m hl c
    rcases key with ⟨c, h1, h2, h3⟩ | ⟨h1, h2⟩
    · rcases nx_ix h2 with ⟨e, _⟩ | ⟨_, q, lt⟩
      · exact absurd e.symm h1
      · exact absurd (ih c (by omega) (mem_nx h2).1 q) h3
    · exact absurd (hT x h1) h2
theorem exs_congr {row l : List Int} (h : ∀ x, nx l x = nx row x) : exs l = exs row := by
  unfold exs
  congr 1
  funext p
  rw [h]
theorem getLast?_mem' {l : List Int} {x : Int} (h : l.getLast? = some x) : x ∈ l := List.mem_of_getLast? h
theorem LW.fin {row D found T : List Int} {b : Nat} (hp : Pg 40 row) (hne : row ≠ []) (h : LW row D found T b) (hs : ∀ x, found.getLast? = some x → cnt row D x ≠ 0 ∨ x = lst row) (hT : ∀ x ∈ leavesOf (exs row), x ∈ T) (h0 : found ≠ []) :
    exs found = exs row ∧ found.headD 0 = row.headD 0 ∧ found.length + 1 = T.length + (exs row).length + b ∧ (∀ x ∈ found, x ∈ row) := by
  have hall := h.all hp hs hT
  obtain ⟨z, hz⟩ : ∃ z, found.getLast? = some z := ⟨_, List.getLast?_eq_some_getLast h0⟩
  have hzr := h.fm z (getLast?_mem' hz)
  have zl : z = lst row := by
    by_cases e : z = lst row
    · exact e
    · exact absurd (hall z hzr e) (h.la z hz)
  subst zl
  have lf : lst found = lst row := by unfold lst at hz ⊢; rw [hz]; rfl
  refine ⟨exs_congr fun x => ?_, ?_, ?_, h.fm⟩
  · by_cases m : x ∈ row
    · by_cases e : x = lst row
      · subst e
        rw [nx_lst hne, ← lf, nx_lst h0]
      · exact h.nxD x (hall x m e)
    · rw [nx_none_iff.mpr m, nx_none_iff.mpr fun q => m (h.fm x q)]
  · cases found with
    | nil => exact absurd rfl h0
    | cons a r => exact h.hd a rfl
  · have e : (lst row :: D).length = (exs row).length := by
      have p : (lst row :: D).Perm ((exs row).map (·.1)) := by
        refine (List.perm_ext_iff_of_nodup (List.nodup_cons.mpr ⟨fun m => (h.dm _ m).2 rfl, h.dnd⟩) (srt_nodup (exs_srt row))).mpr fun x => ?_
        rw [List.mem_cons]
        have hk : x ∈ (exs row).map (·.1) ↔ x ∈ row := by
          rw [List.mem_map]
          constructor
          · rintro ⟨⟨c, y⟩, h1, e⟩
            cases e
            exact (mem_nx ((mem_exs hp).mp h1)).1
          · intro m
            obtain ⟨y, hy⟩ := nx_mem m
            exact ⟨(x, y), (mem_exs hp).mpr hy, rfl⟩
        rw [hk]
        constructor
        · rintro (rfl | m)
          · exact lst_mem hne
          · exact (h.dm x m).1
        · intro m
          by_cases e : x = lst row
          · exact .inl e
          · exact .inr (hall x m e)
      rw [p.length_eq, List.length_map]
    rw [List.length_cons] at e
    rw [h.ln]
    omega
/-- the leaves but for the first page -/
def frL (row : List Int) : List Int := (leavesOf (exs row)).filter fun x => decide (x ≠ row.headD 0)
def lfB (row : List Int) : Bool := decide (row.headD 0 ∈ leavesOf (exs row))
/-- the number of visits of the shortest lists -/
def few (row : List Int) : Nat := if row = [] then 0 else (exs row).length + (leavesOf (exs row)).length - (if lfB row = true then 1 else 0)
theorem LW.init {row : List Int} (hp : Pg 40 row) (hne : row ≠ []) : LW row [] (if lfB row = true then [] else [row.headD 0]) [] (if lfB row = true then 0 else 1) := by
  have hh : row.headD 0 ∈ row := by
    cases row with
    | nil => exact absurd rfl hne
    | cons a r => exact List.mem_cons_self
  constructor
  · intro x hx; cases hx
  · exact List.nodup_nil
  · intro x hx; cases hx
  · intro x hx; cases hx
  · intro x hx
    split at hx
    · cases hx
    · rw [List.mem_singleton.mp hx]; exact hh
  · split <;> rfl
  · intro x hx _ hl hla
    by_cases m : x ∈ leavesOf (exs row)
    · exact .inr ⟨m, by simp⟩
    · refine .inl ?_
      by_cases q : ∃ c, c ≠ x ∧ nx row c = some x
      · obtain ⟨c, h1, h2⟩ := q
        exact ⟨c, h1, h2, by simp⟩
      · exact absurd ((mem_leaves hp).mpr ⟨hx, fun c h1 h2 => q ⟨c, h1, h2⟩⟩) m
  · intro x _ hx; cases hx
  · split
    · rfl
    · next c =>
      unfold lfB at c
      rw [List.filter_cons_of_neg (by exact c), List.filter_nil]
  · intro x hx
    split at hx
    · cases hx
    · cases hx; rfl
/-- the leaves in the order in which they are taken -/
def todo (row order : List Int) : List Int := if lfB row = true then row.headD 0 :: order else order
theorem todo_perm {row order : List Int} (hne : row ≠ []) (h : order.Perm (frL row)) : (todo row order).Perm (leavesOf (exs row)) := by
  unfold todo
  cases c : lfB row with
  | true =>
    rw [if_pos rfl]
    have m : row.headD 0 ∈ leavesOf (exs row) := by unfold lfB at c; exact of_decide_eq_true c
    have nd := leaves_nodup row
    refine (List.Perm.cons _ h).trans ((List.perm_ext_iff_of_nodup (List.nodup_cons.mpr ⟨fun q => ?_, nd.sublist List.filter_sublist⟩) nd).mpr fun x => ?_)
    · unfold frL at q
      rw [List.mem_filter, decide_eq_true_eq] at q
      exact q.2 rfl
    · rw [List.mem_cons, List.mem_filter, decide_eq_true_eq]
      constructor
      · rintro (rfl | q)
        · exact m
        · exact q.1
      · intro q
        by_cases e : x = row.headD 0
        · exact .inl e
        · exact .inr ⟨q, e⟩
  | false =>
    rw [if_neg (by decide)]
    unfold frL at h
    rw [List.filter_eq_self.mpr fun x hx => ?_] at h
    · exact h
    · refine decide_eq_true fun e => ?_
      unfold lfB at c
      exact of_decide_eq_false c (by rw [← e]; exact hx)
/-- a shortest list with the effect of these visits -/
structure Short (row l : List Int) : Prop where
  pg : Pg 40 l
  ex : exs l = exs row
  hd : l.headD 0 = row.headD 0
  nil : l = [] ↔ row = []
  len : l.length = few row
  nd : (l.filter fun x => decide (x ∈ leavesOf (exs row))).Nodup
theorem Short.nil_nil : Short [] [] := ⟨pg_nil _, rfl, rfl, Iff.rfl, rfl, by exact List.nodup_nil⟩
theorem LW.short {row D found order : List Int} (hp : Pg 40 row) (hne : row ≠ []) (ho : order.Perm (frL row)) (h : LW row D found (todo row order) (if lfB row = true then 0 else 1)) (hs : ∀ x, found.getLast? = some x → cnt row D x ≠ 0 ∨ x = lst row) : Short row found := by
  have tp := todo_perm hne ho
  have h0 : found ≠ [] := fun e => by
    have l := h.ln
    rw [e] at l
    cases c : lfB row with
    | true =>
      unfold todo at l
      rw [c, if_pos rfl] at l
      simp at l
      omega
    | false =>
      rw [c] at l
      simp at l
  obtain ⟨h1, h2, h3, h4⟩ := h.fin hp hne hs (fun x hx => tp.mem_iff.mpr hx) h0
  refine ⟨fun x hx => hp x (h4 x hx), h1, h2, ⟨fun e => absurd e h0, fun e => absurd e hne⟩, ?_, ?_⟩
  · unfold few
    rw [if_neg hne]
    rw [tp.length_eq] at h3
    have : (exs row).length ≠ 0 := fun e => by
      have := (mem_exs hp).mpr (nx_lst hne)
      rw [List.length_eq_zero_iff.mp e] at this
      cases this
    cases c : lfB row with
    | true => rw [c, if_pos rfl] at h3; rw [if_pos rfl]; omega
    | false => rw [c, if_neg (by decide)] at h3; rw [if_neg (by decide)]; omega
  · rw [h.fl]
    exact tp.nodup_iff.mpr (leaves_nodup row)
theorem few_congr {row l : List Int} (e : exs l = exs row) (hd : l.headD 0 = row.headD 0) (n : l = [] ↔ row = []) : few l = few row := by
  unfold few lfB
  rw [e, hd]
  by_cases c : row = []
  · rw [if_pos c, if_pos (n.mpr c)]
  · rw [if_neg c, if_neg (fun q => c (n.mp q))]
theorem Short.few {row l : List Int} (h : Short row l) : EF.few l = l.length := by rw [h.len, few_congr h.ex h.hd h.nil]
theorem leaves_le (row : List Int) : (leavesOf (exs row)).length ≤ (exs row).length := by
  unfold leavesOf
  rw [List.length_map]
  exact List.length_filter_le _ _
theorem few_le (row : List Int) : few row ≤ 2 * (exs row).length := by
  unfold few
  have := leaves_le row
  split
  · omega
  · split <;> omega
theorem few_80 (row : List Int) : few row ≤ 80 := by
  have := few_le row
  have := exs_len40 row
  omega
theorem dd_le : ∀ row : List Int, (dd row).length ≤ row.length
  | [] => Nat.le_refl _
  | a :: r => by
    unfold dd
    have := dd_le r
    split
    · rw [List.length_cons]; omega
    · rw [List.length_cons, List.length_cons]; omega
theorem sub_len {l m : List Int} (nd : l.Nodup) (h : ∀ x ∈ l, x ∈ m) : l.length ≤ m.length := by
  induction l generalizing m with
  | nil => exact Nat.zero_le _
  | cons a l ih =>
    rw [List.nodup_cons] at nd
    have ha := h a List.mem_cons_self
    have := ih nd.2 (m := m.erase a) fun x hx => (List.mem_erase_of_ne (fun e => nd.1 (by rw [← e]; exact hx))).mpr (h x (List.mem_cons_of_mem _ hx))
    rw [List.length_erase_of_mem ha] at this
    have : 0 < m.length := List.length_pos_of_mem ha
    rw [List.length_cons]
    omega
/-- a list twice and one page thrice is no shortest one -/
theorem few_twice {l : List Int} {a : Int} (hp : Pg 40 (l ++ l ++ [a, a, a])) (hl : Pg 40 l) : few (l ++ l ++ [a, a, a]) < (l ++ l ++ [a, a, a]).length := by
  have h1 := few_le (l ++ l ++ [a, a, a])
  rw [exs_len hp] at h1
  have h2 : (dd (l ++ l ++ [a, a, a])).length ≤ (a :: dd l).length := by
    refine sub_len (dd_nodup _) fun x hx => ?_
    rw [dd_mem] at hx
    rw [List.mem_cons, dd_mem]
    simp only [List.mem_append, List.mem_cons, List.mem_nil_iff, or_false] at hx
    rcases hx with (h | h) | h | h | h
    · exact .inr h
    · exact .inr h
    · exact .inl h
    · exact .inl h
    · exact .inl h
  have h3 := dd_le l
  rw [List.length_cons] at h2
  simp only [List.length_append, List.length_cons, List.length_nil]
  omega
end EF

set_option Elab.async false
set_option linter.all false
set_option maxRecDepth 100000
set_option maxHeartbeats 4000000
/-! visits are no fewer than the fewest with their effect -/
namespace EF
open PySem PySem.Spec PyProof.Rows L2 BC TR
theorem mem_frl {row : List Int} {x : Int} : x ∈ frL row ↔ x ∈ leavesOf (exs row) ∧ x ≠ row.headD 0 := by
  unfold frL
  rw [List.mem_filter, decide_eq_true_eq]
theorem frl_nodup (row : List Int) : (frL row).Nodup := (leaves_nodup row).sublist List.filter_sublist
theorem nx_again {a : Int} {r : List Int} (h : a ∈ r) (c : Int) : nx (a :: r) c = nx r c := by
  cases e : nx r c with
  | some y => exact nx_some e
  | none =>
    rw [nx_none e, if_neg]
    intro q
    subst q
    exact nx_none_iff.mp e h
theorem frl_cons {a b : Int} {r : List Int} (hp : Pg 40 (a :: b :: r)) : (frL (a :: b :: r)).length ≤ (frL (b :: r)).length + (if a ∈ b :: r then 1 else 0) := by
  have hp' : Pg 40 (b :: r) := fun x hx => hp x (List.mem_cons_of_mem _ hx)
  by_cases m : a ∈ b :: r
  · rw [if_pos m]
    have e : exs (a :: b :: r) = exs (b :: r) := exs_congr fun x => nx_again m x
    have := sub_len (m := b :: frL (b :: r)) (frl_nodup (a :: b :: r)) fun x hx => by
      obtain ⟨h1, h2⟩ := mem_frl.mp hx
      rw [e] at h1
      by_cases q : x = b
      · rw [q]; exact List.mem_cons_self
      · exact List.mem_cons_of_mem _ (mem_frl.mpr ⟨h1, q⟩)
    rw [List.length_cons] at this
    exact this
  · rw [if_neg m]
    refine sub_len (frl_nodup (a :: b :: r)) fun x hx => ?_
    obtain ⟨h1, h2⟩ := mem_frl.mp hx
    have xa : x ≠ a := h2
    obtain ⟨h3, h4⟩ := (mem_leaves hp).mp h1
    have xr : x ∈ b :: r := (List.mem_cons.mp h3).resolve_left xa
    refine mem_frl.mpr ⟨(mem_leaves hp').mpr ⟨xr, fun c hc hn => h4 c hc (nx_some hn)⟩, fun q => ?_⟩
    have q' : x = b := q
    subst q'
    refine h4 a xa.symm ?_
    rw [nx_none (nx_none_iff.mpr m), if_pos rfl]
    rfl
theorem dd_cons (a : Int) (r : List Int) : (dd (a :: r)).length + (if a ∈ r then 1 else 0) = (dd r).length + 1 := by
  show (if a ∈ r then dd r else a :: dd r).length + _ = _
  by_cases m : a ∈ r
  · rw [if_pos m, if_pos m]
  · rw [if_neg m, if_neg m, List.length_cons]
theorem frl_dd : ∀ {row : List Int}, Pg 40 row → (dd row).length + (frL row).length ≤ row.length
  | [], _ => by
    have : (frL []).length = 0 := by
      rw [List.length_eq_zero_iff, List.eq_nil_iff_forall_not_mem]
      intro x hx
      have := ((mem_leaves (row := []) (pg_nil _)).mp (mem_frl.mp hx).1).1
      cases this
    show 0 + _ ≤ 0
    omega
  | [a], hp => by
    have : (frL [a]).length = 0 := by
      rw [List.length_eq_zero_iff, List.eq_nil_iff_forall_not_mem]
      intro x hx
      obtain ⟨h1, h2⟩ := mem_frl.mp hx
      have := ((mem_leaves hp).mp h1).1
      exact h2 (List.mem_singleton.mp this)
    show 1 + _ ≤ 1
    omega
  | a :: b :: r, hp => by
    have ih := frl_dd (row := b :: r) fun x hx => hp x (List.mem_cons_of_mem _ hx)
    have h1 := frl_cons hp
    have h2 := dd_cons a (b :: r)
    rw [List.length_cons]
    omega
theorem few_len {row : List Int} (hp : Pg 40 row) : few row ≤ row.length := by
  unfold few
  by_cases h : row = []
  · rw [if_pos h]; omega
  · rw [if_neg h]
    have h1 := (todo_perm h (List.Perm.refl (frL row))).length_eq
    have h2 := frl_dd hp
    have h3 := exs_len hp
    unfold todo at h1
    cases c : lfB row with
    | true =>
      rw [c, if_pos rfl, List.length_cons] at h1
      rw [if_pos rfl]
      omega
    | false =>
      rw [c, if_neg (by decide)] at h1
      rw [if_neg (by decide)]
      omega
end EF

set_option Elab.async false
set_option linter.all false
set_option maxRecDepth 100000
set_option maxHeartbeats 4000000
/-! an own object is called -/
namespace BC
open PySem PySem.Spec PySem.Calls PyProof.Rows L2 Evl
section
variable {M : Model} {A : Around} {E : Value → Shared → Prop} {s : Shared} {env : Env} {pos : Pos} {x : Addr} {first : List Value} {Q : Value → Shared → Prop}
theorem callWith_own {args : List (Bool × Sem Value)} {keywords : List (Option Str × Sem Value)} (hplain : (args.any (·.1) || keywords.any (·.1.isNone)) = false)
    (h : wpAny M A (evalArgs (.ref x) true args keywords) (fun a s₁ => (∃ C ox od, PySem.W.InstAt s₁.heap x ox C od ∧ ox.data = .plain) ∧ wpAny M A (call (.ref x) (first ++ a.pos) a.kw) Q E s₁) E s) : wpAny M A (callWith pos (.ref x) first args keywords) Q E s := by
  unfold callWith
  refine wpAny_bind (wpAny_holding (wpAny_mono h (fun a s₁ h₁ => wpAny_bind (wpAny_standAt ?_)) fun _ _ y => y))
  obtain ⟨⟨C, ox, od, J, hd⟩, h2⟩ := h₁
  have L := PySem.W.kco_keeper (M := M) J hd
  simp only [hplain]
  refine wpAny_bind (L.here ?_)
  have tail : ∀ {t : Sem Value}, wpAny M A t Q E s₁ → wpAny M A (t >>= fun r => holding [r] point >>= fun _ => pure r) Q E s₁ :=
    fun ht => wpAny_bind (wpAny_mono ht (fun r s₂ hr => wpAny_bind (wpAny_holding (wpAny_point (wpAny_pure hr)))) fun _ _ y => y)
  exact tail (wpAny_operateT h2)
end
section
variable {X : Cx} {CX : CXT} {k : Nat} {f C a : Addr} {fd : FuncData} {ps ks : List Str} {sp : Sp} {E : XK} {x : Str} {p pos : Pos} {e : Expr} {es : List Expr} {kws : List Keyword} {tf : TE} {t tk : TA} {dvs : List V} {ds : List Value}
  {g : List Value → List Value → List Value} {gV : List V → List V → List V}
theorem inst_of {pins : List (Addr × Obj)} {σ : L2.St} {H : Hp} {s : Shared} (I : Inv X pins σ H s) {dx : Addr} {fs : List (Str × V)} (ea : H a = some (.ins C dx fs)) : ∃ ox od, PySem.W.InstAt s.heap a ox C od ∧ ox.data = .plain := by
  obtain ⟨mA, O, _, _, _, _⟩ := ins_get I.hok ea
  obtain ⟨od, J, _⟩ := O.look
  exact ⟨_, od, J, rfl⟩
structure CallOf (K : PySem.W.Frag) (C f : Addr) : Prop where
  hs : PySem.W.findIn K (.ref C) "__call__" = some (some (.ref f))
  hf : PySem.W.isFn K (.ref f) = true
  fn : PySem.W.fnIn K f = true
theorem run_own {pins : List (Addr × Obj)} {σ : L2.St} {H : Hp} {s : Shared} {Q : VK} {us : List Value} {vs : List V} (co : CallOf X.K C f) (F : FnOk X.prog X.w X.K X.mg X.base CX k f fd ps sp) (hr : Room k X.A) (hb : Binds X.K fd ps ds) (hd : Vals dvs ds) (hx : Passes CX X E)
    (I : Inv X pins σ H s) {dx : Addr} {fs : List (Str × V)} (ea : H a = some (.ins C dx fs)) (r : Vals vs us) (h : sp (.ref a :: (vs ++ dvs)) H Q E) : wpAny (model X.prog X.w) X.A (call (.ref a) us) (EP X pins σ Q) X.xe s := by
  obtain ⟨ox, od, J, hdt⟩ := inst_of I ea
  have r2 : Vals ((.ref a :: vs) ++ dvs) ((.ref a :: us) ++ ds) := Vals.append (.cons rfl r) hd
  have hl : ((.ref a :: us) ++ ds).length = ps.length := by rw [← r2.length]; exact F.len _ _ _ _ h
  refine wpAny_call (PySem.W.kco_code I.kIn J hdt co.hs co.hf co.fn ?_)
  refine codeAny_mono (F.run X.A X.stack s H ⟨.ref a :: us, []⟩ ((.ref a :: us) ++ ds) ((.ref a :: vs) ++ dvs) Q E hr I.env0 (hb s (.ref a :: us) I.kIn hl) r2 h) fun r s' hq => ?_
  cases r with
  | error e => exact hx pins σ H s e s' I hq
  | ok fl =>
    cases fl with
    | ret u => exact I.after hq
    | next => exact False.elim hq
    | brk => exact False.elim hq
    | cont => exact False.elim hq
theorem run_ownk {pins : List (Addr × Obj)} {σ : L2.St} {H : Hp} {s : Shared} {Q : VK} {us ws : List Value} {vs zs : List V} (co : CallOf X.K C f) (F : FnOk X.prog X.w X.K X.mg X.base CX k f fd ps sp) (hr : Room k X.A) (hb : KBinds X.K fd ps ks g gV) (hx : Passes CX X E)
    (I : Inv X pins σ H s) {dx : Addr} {fs : List (Str × V)} (ea : H a = some (.ins C dx fs)) (r : Vals vs us) (rz : Vals zs ws) (h : sp (gV (.ref a :: vs) zs) H Q E) : wpAny (model X.prog X.w) X.A (call (.ref a) us (ks.zip ws)) (EP X pins σ Q) X.xe s := by
  obtain ⟨ox, od, J, hdt⟩ := inst_of I ea
  have r2 := hb.rel (vs := .ref a :: vs) (us := .ref a :: us) (.cons rfl r) rz
  have hl : (g (.ref a :: us) ws).length = ps.length := by rw [← r2.length]; exact F.len _ _ _ _ h
  refine wpAny_call (PySem.W.kco_code I.kIn J hdt co.hs co.hf co.fn ?_)
  refine codeAny_mono (F.run X.A X.stack s H ⟨.ref a :: us, ks.zip ws⟩ (g (.ref a :: us) ws) (gV (.ref a :: vs) zs) Q E hr I.env0 (hb.to s (.ref a :: us) ws I.kIn hl) r2 h) fun r s' hq => ?_
  cases r with
  | error e => exact hx pins σ H s e s' I hq
  | ok fl =>
    cases fl with
    | ret u => exact I.after hq
    | next => exact False.elim hq
    | brk => exact False.elim hq
    | cont => exact False.elim hq
/-- o(e, ..) by the class's own __call__ -/
def tCallO (C : Addr) (sp : Sp) (dvs : List V) (E : XK) (tf : TE) (t : TA) : TE := fun σ H Q => tf σ H fun x H1 => ∃ a, x = .ref a ∧ t σ H1 fun vs H2 => (∃ dx fs, H2 a = some (.ins C dx fs)) ∧ sp (.ref a :: (vs ++ dvs)) H2 Q E
def tCallOK (C : Addr) (sp : Sp) (gV : List V → List V → List V) (E : XK) (tf : TE) (tk : TA) : TE := fun σ H Q => tf σ H fun x H1 => ∃ a, x = .ref a ∧ tk σ H1 fun zs H2 => (∃ dx fs, H2 a = some (.ins C dx fs)) ∧ sp (gV [.ref a] zs) H2 Q E
theorem pe_callO (hf : PE X (.Name x p) tf) (co : CallOf X.K C f) (F : FnOk X.prog X.w X.K X.mg X.base CX k f fd ps sp) (hr : Room k X.A) (hb : Binds X.K fd ps ds) (hd : Vals dvs ds) (hx : Passes CX X E) (ha : PA X (e :: es) t)
    (he : starEach (e :: es) X.env = (false, eval e X.env) :: starEach es X.env := by rfl) (hpl : (backTo pos (starEach es X.env)).any (·.1) = false := by rfl) : PE X (.Call (.Name x p) (e :: es) [] pos) (tCallO C sp dvs E tf t) := by
  refine ⟨fun pins s σ H Q I h => ?_⟩
  refine wpAny_Call_Name_kw (thn (hf.run pins s σ H _ I h) fun u s1 ⟨c, H1, I1, rc, a, ec, q1⟩ => ?_)
  subst ec
  obtain rfl : u = Value.ref a := rc
  have hh := thn (ha.run pos pins s1 σ H1 _ I1 q1) (Q' := fun vs s₁ => (∃ C ox od, PySem.W.InstAt s₁.heap a ox C od ∧ ox.data = .plain) ∧ wpAny (model X.prog X.w) X.A (call (.ref a) ([] ++ vs)) (EP X pins σ Q) X.xe s₁) fun us s2 ⟨vs, H2, I2, r, ⟨dx, fs, ea⟩, q2⟩ => by
    obtain ⟨ox, od, J, hdt⟩ := inst_of I2 ea
    exact ⟨⟨C, ox, od, J, hdt⟩, run_own co F hr hb hd hx I2 ea r q2⟩
  rw [he] at hh ⊢
  exact callWith_own (by show ((false || (backTo pos (starEach es X.env)).any (·.1)) || false) = false; rw [hpl]; rfl) (evalArgs_plain hh)
theorem pe_callOK0 (hf : PE X (.Name x p) tf) (co : CallOf X.K C f) (F : FnOk X.prog X.w X.K X.mg X.base CX k f fd ps sp) (hr : Room k X.A) (hb : KBinds X.K fd ps ks g gV) (hx : Passes CX X E) (hkw : PK X kws tk)
    (hall : (backToKw pos (keywordEach kws X.env)).all (·.1.isSome) = true := by rfl) (hks : (backToKw pos (keywordEach kws X.env)).filterMap (·.1) = ks := by rfl)
    (hpl : ((backTo pos (starEach [] X.env)).any (·.1) || (backToKw pos (keywordEach kws X.env)).any (·.1.isNone)) = false := by rfl) : PE X (.Call (.Name x p) [] kws pos) (tCallOK C sp gV E tf tk) := by
  refine ⟨fun pins s σ H Q I h => ?_⟩
  refine wpAny_Call_Name_kw (thn (hf.run pins s σ H _ I h) fun u s1 ⟨c, H1, I1, rc, a, ec, q1⟩ => ?_)
  subst ec
  obtain rfl : u = Value.ref a := rc
  have hh := thn (hkw.run pos pins s1 σ H1 _ I1 q1) (Q' := fun ws s₁ => (∃ C ox od, PySem.W.InstAt s₁.heap a ox C od ∧ ox.data = .plain) ∧ wpAny (model X.prog X.w) X.A (call (.ref a) ([] ++ []) (((backToKw pos (keywordEach kws X.env)).filterMap (·.1)).zip ws)) (EP X pins σ Q) X.xe s₁) fun ws s2 ⟨zs, H2, I2, rz, ⟨dx, fs, ea⟩, q2⟩ => by
    obtain ⟨ox, od, J, hdt⟩ := inst_of I2 ea
    refine ⟨⟨C, ox, od, J, hdt⟩, ?_⟩
    rw [hks]
    exact run_ownk (us := []) (vs := []) co F hr hb hx I2 ea .nil rz q2
  exact callWith_own hpl (evalArgs_kw2_nil hall hh)
theorem x_callO {σ : L2.St} {H : Hp} {Q : VK} : tCallO C sp dvs E tf t σ H Q = tf σ H (fun x H1 => ∃ a, x = .ref a ∧ t σ H1 fun vs H2 => (∃ dx fs, H2 a = some (.ins C dx fs)) ∧ sp (.ref a :: (vs ++ dvs)) H2 Q E) := rfl
theorem x_callOK {σ : L2.St} {H : Hp} {Q : VK} : tCallOK C sp gV E tf tk σ H Q = tf σ H (fun x H1 => ∃ a, x = .ref a ∧ tk σ H1 fun zs H2 => (∃ dx fs, H2 a = some (.ins C dx fs)) ∧ sp (gV [.ref a] zs) H2 Q E) := rfl
end
end BC

set_option Elab.async false
set_option linter.all false
set_option maxRecDepth 100000
set_option maxHeartbeats 4000000
/-! visits behind a trail: page by page, and by the exits -/
namespace EF
open PySem PySem.Spec PyProof.Rows L2 BC TR
/-- from a page along its exits -/
def ch : List Int → Int → List Int
  | [], _ => []
  | a :: r, p => if p ∈ r then ch r p else if p = a then a :: (match r with | [] => [] | b :: _ => ch r b) else []
/-- one more page -/
def st : List Int → Int → List Int
  | [], a => [a]
  | p :: P, a => if p = a then [a] else p :: st P a
def play (P : List Int) : List Int → List Int
  | [] => P
  | a :: r => play (st P a) r
/-- by the effect -/
def ef (row : List Int) : List Int → List Int
  | [] => match row with
    | [] => []
    | b :: _ => ch row b
  | p :: P => if p ∈ row then ch row p else p :: ef row P
theorem ch_self (a : Int) (r : List Int) (h : a ∉ r) : ch (a :: r) a = a :: ef r [] := by
  show (if a ∈ r then _ else if a = a then _ else _) = _
  rw [if_neg h, if_pos rfl]
  cases r <;> rfl
theorem ch_in {a p : Int} {r : List Int} (h : p ∈ r) : ch (a :: r) p = ch r p := by
  show (if p ∈ r then _ else _) = _
  rw [if_pos h]
theorem ef_one (a : Int) (r : List Int) : ef r [a] = ch (a :: r) a := by
  show (if a ∈ r then _ else _) = _
  by_cases h : a ∈ r
  · rw [if_pos h, ch_in h]
  · rw [if_neg h, ch_self a r h]
theorem ef_st (a : Int) (r : List Int) : ∀ P : List Int, ef r (st P a) = ef (a :: r) P
  | [] => by
    show ef r [a] = ch (a :: r) a
    exact ef_one a r
  | p :: P => by
    by_cases e : p = a
    · subst e
      show ef r (if p = p then _ else _) = if p ∈ p :: r then _ else _
      rw [if_pos rfl, if_pos List.mem_cons_self]
      exact ef_one p r
    · show ef r (if p = a then _ else p :: st P a) = if p ∈ a :: r then _ else p :: ef (a :: r) P
      rw [if_neg e]
      show (if p ∈ r then _ else p :: ef r (st P a)) = _
      by_cases h : p ∈ r
      · rw [if_pos h, if_pos (List.mem_cons_of_mem _ h), ch_in h]
      · rw [if_neg h, if_neg (fun m => (List.mem_cons.mp m).elim e h), ef_st a r P]
theorem play_ef : ∀ (row P : List Int), play P row = ef row P
  | [], P => by
    show P = ef [] P
    induction P with
    | nil => rfl
    | cons p P ih =>
      show p :: P = if p ∈ [] then _ else p :: ef [] P
      rw [if_neg List.not_mem_nil, ← ih]
  | a :: r, P => by
    show play (st P a) r = _
    rw [play_ef r, ef_st]
/-- the next page of the way -/
theorem ch_next : ∀ {row : List Int} {p y : Int}, nx row p = some y → (y = p → ch row p = [p]) ∧ (y ≠ p → ch row p = p :: ch row y)
  | a :: r, p, y, h => by
    cases e : nx r p with
    | some z =>
      rw [nx_some e] at h
      cases h
      obtain ⟨hp, hy⟩ := mem_nx e
      rw [ch_in hp, ch_in hy]
      exact ch_next e
    | none =>
      have hp : p ∉ r := fun m => by
        obtain ⟨z, hz⟩ := nx_mem m
        rw [e] at hz
        cases hz
      rw [nx_none e] at h
      split at h
      · next q =>
        subst q
        cases h
        rw [ch_self a r hp]
        cases r with
        | nil => exact ⟨fun _ => rfl, fun n => absurd rfl n⟩
        | cons b r' =>
          have ab : ¬ b = a := fun z => hp (by rw [z]; exact List.mem_cons_self)
          refine ⟨fun z => absurd z ab, fun _ => ?_⟩
          show a :: ch (b :: r') b = a :: ch (a :: b :: r') b
          rw [ch_in List.mem_cons_self]
      · cases h
theorem ch_hd {row : List Int} {p y : Int} (h : nx row p = some y) : ∃ t, ch row p = p :: t := by
  obtain ⟨h1, h2⟩ := ch_next h
  by_cases e : y = p
  · exact ⟨_, h1 e⟩
  · exact ⟨_, h2 e⟩
theorem ch_len : ∀ (row : List Int) (p : Int), (ch row p).length ≤ row.length
  | [], _ => Nat.le_refl _
  | a :: r, p => by
    show (if p ∈ r then _ else if p = a then _ else _ : List Int).length ≤ _
    split
    · exact Nat.le_trans (ch_len r p) (Nat.le_succ _)
    · split
      · cases r with
        | nil => exact Nat.le_refl _
        | cons b r' => exact Nat.succ_le_succ (ch_len (b :: r') b)
      · exact Nat.zero_le _
theorem ch_pg : ∀ {row : List Int} {p : Int}, ∀ x ∈ ch row p, x ∈ row
  | a :: r, p, x, h => by
    have h' := h
    unfold ch at h'
    split at h'
    · exact List.mem_cons_of_mem _ (ch_pg x h')
    · split at h'
      · rcases List.mem_cons.mp h' with rfl | h'
        · exact List.mem_cons_self
        · cases r with
          | nil => cases h'
          | cons b r' => exact List.mem_cons_of_mem _ (ch_pg x h')
      · cases h'
/-- the first page of the trail that is left, and what comes then -/
theorem ef_at {row : List Int} : ∀ {P : List Int} {i : Nat} {p : Int}, (∀ q ∈ P.take i, q ∉ row) → P[i]? = some p → p ∈ row → ef row P = P.take i ++ ch row p
  | [], _, _, _, h, _ => by cases h
  | q :: P, 0, p, _, h, hp => by
    have : q = p := by simpa using h
    subst this
    show (if q ∈ row then _ else _) = _
    rw [if_pos hp]
    rfl
  | q :: P, i + 1, p, h0, h, hp => by
    have hq : q ∉ row := h0 q (by rw [List.take_succ_cons]; exact List.mem_cons_self)
    show (if q ∈ row then _ else q :: ef row P) = _
    rw [if_neg hq, ef_at (fun x hx => h0 x (by rw [List.take_succ_cons]; exact List.mem_cons_of_mem _ hx)) (by simpa using h) hp]
    rfl
theorem ef_no {row : List Int} : ∀ {P : List Int}, (∀ q ∈ P, q ∉ row) → ef row P = P ++ ef row []
  | [], _ => rfl
  | q :: P, h => by
    show (if q ∈ row then _ else q :: ef row P) = _
    rw [if_neg (h q List.mem_cons_self), ef_no fun x hx => h x (List.mem_cons_of_mem _ hx)]
    rfl
/-- one more page, by its place -/
theorem st_no {a : Int} : ∀ {P : List Int}, a ∉ P → st P a = P ++ [a]
  | [], _ => rfl
  | p :: P, h => by
    rw [List.mem_cons, not_or] at h
    show (if p = a then _ else p :: st P a) = _
    rw [if_neg (fun z => h.1 z.symm), st_no h.2]
    rfl
theorem st_at {a : Int} : ∀ {P : List Int} {j : Nat}, P[j]? = some a → (∀ m, m < j → ∀ z, P[m]? = some z → z ≠ a) → st P a = P.take (j + 1)
  | [], _, h, _ => by cases h
  | p :: P, 0, h, _ => by
    have : p = a := by simpa using h
    subst this
    show (if p = p then _ else _) = _
    rw [if_pos rfl]
    rfl
  | p :: P, j + 1, h, h0 => by
    have hp : p ≠ a := h0 0 (by omega) p rfl
    show (if p = a then _ else p :: st P a) = _
    rw [if_neg hp, st_at (P := P) (j := j) (by simpa using h) fun m hm z hz => h0 (m + 1) (by omega) z (by simpa using hz)]
    rfl
theorem st_len (P : List Int) (a : Int) : (st P a).length ≤ P.length + 1 := by
  induction P with
  | nil => exact Nat.le_refl _
  | cons p P ih =>
    show (if p = a then _ else p :: st P a : List Int).length ≤ _
    split
    · simp
    · rw [List.length_cons, List.length_cons]; omega
theorem st_mem {P : List Int} {a : Int} : ∀ x ∈ st P a, x ∈ P ∨ x = a := by
  induction P with
  | nil => intro x h; exact .inr (List.mem_singleton.mp h)
  | cons p P ih =>
    intro x h
    have h' : x ∈ (if p = a then [a] else p :: st P a) := h
    split at h'
    · exact .inr (List.mem_singleton.mp h')
    · rcases List.mem_cons.mp h' with rfl | h'
      · exact .inl List.mem_cons_self
      · exact (ih x h').imp (List.mem_cons_of_mem _) id
theorem st_nodup {P : List Int} {a : Int} (h : P.Nodup) : (st P a).Nodup := by
  induction P with
  | nil => simp [st]
  | cons p P ih =>
    rw [List.nodup_cons] at h
    show (if p = a then [a] else p :: st P a : List Int).Nodup
    split
    · simp
    · next ne =>
      rw [List.nodup_cons]
      refine ⟨fun m => ?_, ih h.2⟩
      rcases st_mem p m with m | m
      · exact h.1 m
      · exact ne m
theorem play_ok : ∀ (row : List Int) {P : List Int}, P.Nodup → Pg 40 P → Pg 40 row → (play P row).Nodup ∧ Pg 40 (play P row)
  | [], P, h, hp, _ => ⟨h, hp⟩
  | a :: r, P, h, hp, hr => play_ok r (st_nodup h) (fun x hx => (st_mem x hx).elim (fun m => hp x m) fun e => by rw [e]; exact hr a List.mem_cons_self) fun x hx => hr x (List.mem_cons_of_mem _ hx)
theorem pg_len {P : List Int} (h : P.Nodup) (hp : Pg 40 P) : P.length ≤ 40 := by
  have h1 : P.Perm ((List.range 40).map (fun i : Nat => (i : Int)) |>.filter (· ∈ P)) := by
    rw [List.perm_ext_iff_of_nodup h ?_]
    · intro x
      rw [List.mem_filter]
      constructor
      · intro m
        have := hp x m
        exact ⟨List.mem_map.mpr ⟨x.toNat, List.mem_range.mpr (by omega), by omega⟩, decide_eq_true m⟩
      · intro m
        exact of_decide_eq_true m.2
    · refine List.Pairwise.filter _ ?_
      rw [List.pairwise_map]
      exact List.pairwise_lt_range.imp fun h => by omega
  rw [h1.length_eq]
  refine Nat.le_trans (List.length_filter_le _ _) ?_
  rw [List.length_map, List.length_range]
  exact Nat.le_refl _
end EF

set_option Elab.async false
set_option linter.all false
set_option maxRecDepth 100000
set_option maxHeartbeats 4000000
/-! trails from which two lists of visits part; the trail after visits by the effect -/
namespace EF
open PySem PySem.Spec PyProof.Rows L2 BC TR
theorem st_vis (a : Int) : ∀ P : List Int, st P a = vis P a
  | [] => by
    unfold vis
    rw [if_neg List.not_mem_nil]
    rfl
  | p :: P => by
    show (if p = a then [a] else p :: st P a) = _
    by_cases e : p = a
    · subst e
      rw [if_pos rfl]
      unfold vis
      rw [if_pos List.mem_cons_self, List.idxOf_cons_self]
      rfl
    · rw [if_neg e, st_vis a P]
      have hb : (p == a) = false := beq_eq_false_iff_ne.mpr e
      unfold vis
      by_cases m : a ∈ P
      · rw [if_pos m, if_pos (List.mem_cons_of_mem _ m), List.idxOf_cons, hb]
        rfl
      · rw [if_neg m, if_neg fun h => (List.mem_cons.mp h).elim (fun q => e q.symm) m]
        rfl
theorem play_vis : ∀ (row P : List Int), play P row = row.foldl vis P
  | [], _ => rfl
  | a :: r, P => by
    show play (st P a) r = r.foldl vis (vis P a)
    rw [st_vis, play_vis r]
theorem ef_vis (row P : List Int) : ef row P = row.foldl vis P := by rw [← play_ef, play_vis]
theorem ch_hd' {row : List Int} {p : Int} (h : p ∈ row) : ∃ t, ch row p = p :: t := by
  obtain ⟨y, hy⟩ := nx_mem h
  exact ch_hd hy
theorem ef_nil_hd (a : Int) (r : List Int) : ∃ t, ef (a :: r) [] = a :: t := ch_hd' List.mem_cons_self
theorem ef_one_hd (row : List Int) (b : Int) : ∃ t, ef row [b] = b :: t := by
  show ∃ t, (if b ∈ row then ch row b else b :: ef row []) = b :: t
  by_cases m : b ∈ row
  · rw [if_pos m]; exact ch_hd' m
  · rw [if_neg m]; exact ⟨_, rfl⟩
theorem ef_in {row : List Int} {p : Int} (h : p ∈ row) (P : List Int) : ef row (p :: P) = ch row p := by
  show (if p ∈ row then _ else _) = _
  rw [if_pos h]
theorem ef_out {row : List Int} {p : Int} (h : p ∉ row) (P : List Int) : ef row (p :: P) = p :: ef row P := by
  show (if p ∈ row then _ else _) = _
  rw [if_neg h]
theorem part_in {r1 r2 : List Int} {a p : Int} {t : List Int} (ha : ef r2 [] = a :: t) (h1 : ef r1 [p] = ef r2 [p]) (h2 : ∀ b : Int, 0 ≤ b → b < 40 → p ≠ b → ef r1 [p, b] = ef r2 [p, b]) (hp : p ∈ r1) : p ∈ r2 := by
  by_cases m : p ∈ r2
  · exact m
  exfalso
  obtain ⟨b, b0, b1, bp, ba⟩ : ∃ b : Int, 0 ≤ b ∧ b < 40 ∧ p ≠ b ∧ a ≠ b := by
    by_cases c0 : p ≠ 0 ∧ a ≠ 0
    · exact ⟨0, by omega, by omega, c0.1, c0.2⟩
    · by_cases c1 : p ≠ 1 ∧ a ≠ 1
      · exact ⟨1, by omega, by omega, c1.1, c1.2⟩
      · exact ⟨2, by omega, by omega, by omega, by omega⟩
  have q := h2 b b0 b1 bp
  rw [ef_in hp, ef_out m] at h1 q
  obtain ⟨u, hu⟩ := ef_one_hd r2 b
  rw [ha] at h1
  rw [hu, h1] at q
  exact ba (List.cons.inj (List.cons.inj q).2).1
/-- no trail parts them: they have one effect -/
theorem parts {r1 r2 : List Int} (p1 : Pg 40 r1) (p2 : Pg 40 r2) (h0 : ef r1 [] = ef r2 []) (h1 : ∀ p : Int, 0 ≤ p → p < 40 → ef r1 [p] = ef r2 [p]) (h2 : ∀ p b : Int, 0 ≤ p → p < 40 → 0 ≤ b → b < 40 → p ≠ b → ef r1 [p, b] = ef r2 [p, b]) : r1.head? = r2.head? ∧ ∀ x, nx r1 x = nx r2 x := by
  cases r1 with
  | nil =>
    cases r2 with
    | nil => exact ⟨rfl, fun _ => rfl⟩
    | cons a s =>
      obtain ⟨t, ht⟩ := ef_nil_hd a s
      rw [ht] at h0
      cases h0
  | cons a s =>
    cases r2 with
    | nil =>
      obtain ⟨t, ht⟩ := ef_nil_hd a s
      rw [ht] at h0
      cases h0
    | cons a' s' =>
      obtain ⟨t, ht⟩ := ef_nil_hd a s
      obtain ⟨t', ht'⟩ := ef_nil_hd a' s'
      have e : a = a' := by
        rw [ht, ht'] at h0
        exact (List.cons.inj h0).1
      subst e
      refine ⟨rfl, fun x => ?_⟩
      generalize a :: s = r1 at *
      generalize a :: s' = r2 at *
      have i12 : x ∈ r1 → x ∈ r2 := fun m => part_in ht' (h1 x (p1 x m).1 (p1 x m).2) (fun b b0 b1 n => h2 x b (p1 x m).1 (p1 x m).2 b0 b1 n) m
      have i21 : x ∈ r2 → x ∈ r1 := fun m => part_in ht (h1 x (p2 x m).1 (p2 x m).2).symm (fun b b0 b1 n => (h2 x b (p2 x m).1 (p2 x m).2 b0 b1 n).symm) m
      have none_of : ∀ {r : List Int}, x ∉ r → nx r x = none := fun {r} h => by
        cases c : nx r x with
        | none => rfl
        | some y => exact absurd (mem_nx c).1 h
      by_cases m : x ∈ r1
      · have m2 := i12 m
        have q := h1 x (p1 x m).1 (p1 x m).2
        rw [ef_in m, ef_in m2] at q
        obtain ⟨y, hy⟩ := nx_mem m
        obtain ⟨z, hz⟩ := nx_mem m2
        obtain ⟨y1, y2⟩ := ch_next hy
        obtain ⟨z1, z2⟩ := ch_next hz
        obtain ⟨ty, hty⟩ := ch_hd' (mem_nx hy).2
        obtain ⟨tz, htz⟩ := ch_hd' (mem_nx hz).2
        rw [hy, hz]
        congr 1
        by_cases cy : y = x
        · by_cases cz : z = x
          · rw [cy, cz]
          · rw [y1 cy, z2 cz, htz] at q
            simp at q
        · by_cases cz : z = x
          · rw [y2 cy, z1 cz, hty] at q
            simp at q
          · rw [y2 cy, z2 cz, hty, htz] at q
            exact (List.cons.inj (List.cons.inj q).2).1
      · rw [none_of m, none_of fun h => m (i21 h)]
end EF

set_option Elab.async false
set_option linter.all false
set_option maxRecDepth 100000
set_option maxHeartbeats 4000000
/-! forests of few pages, in plain numbers -/
namespace FO
structure Fo where
  ms : List Nat
  rt : Option Nat
  deriving DecidableEq
def allow (F : Fo) (p q : Nat) : Bool := if p = q then F.rt.isNone else decide (F.ms.getD p 0 ≠ F.ms.getD q 0)
def choose (F : Fo) (p q : Nat) : Fo := if p = q then ⟨F.ms, some (F.ms.getD p 0)⟩ else ⟨F.ms.map fun x => if x = F.ms.getD p 0 then F.ms.getD q 0 else x, F.rt⟩
def parts (F : Fo) : Nat := F.ms.eraseDups.length
def ways (m : Nat) (F : Fo) : Nat := match F.rt with
  | none => m ^ (parts F - 1)
  | some r => if parts F = 1 then 1 else F.ms.count r * m ^ (parts F - 2)
def new (m : Nat) : Fo := ⟨List.range m, none⟩
/-- the first of the candidates that the rest falls to -/
def pick (m : Nat) (F : Fo) (p : Nat) : Option Nat → Int → List Nat → Option Nat × Int
  | l, r, [] => (l, r)
  | _, r, c :: cs => if r < (ways m (choose F p c) : Nat) then (some c, r) else pick m F p (some c) (r - (ways m (choose F p c) : Nat)) cs
def cands (m : Nat) (F : Fo) (p : Nat) : List Nat := (List.range m).filter fun q => allow F p q
structure St where
  F : Fo
  l : Option Nat
  r : Int
  ex : List (Nat × Nat)
  deriving DecidableEq
def step (m : Nat) (S : St) (p : Nat) : St :=
  let k := pick m S.F p S.l S.r (cands m S.F p)
  ⟨choose S.F p (k.1.getD 0), k.1, k.2, S.ex ++ [(p, k.1.getD 0)]⟩
def run (m : Nat) (r : Int) : Nat → St
  | 0 => ⟨new m, none, r, []⟩
  | p + 1 => step m (run m r p) p
def exitsN (m at_ : Nat) : List (Nat × Nat) := (run m ((at_ % m ^ (m - 1) : Nat) : Int) m).ex
/-- the rank's sum over the smaller pages -/
def small (m : Nat) (F : Fo) (p : Nat) : Nat → Nat
  | 0 => 0
  | q + 1 => small m F p q + if allow F p q then ways m (choose F p q) else 0
def rk (m : Nat) (E : List (Nat × Nat)) : Nat → Fo × Nat
  | 0 => (new m, 0)
  | i + 1 => let F := (rk m E i).1; let e := E.getD i (0, 0)
    (choose F e.1 e.2, (rk m E i).2 + small m F e.1 e.2)
/-- all lists of exits, as the law makes them -/
def rows (m : Nat) : Nat → List (List (Nat × Nat))
  | 0 => [[]]
  | p + 1 => (rows m p).flatMap fun r => (List.range m).map fun q => r ++ [(p, q)]
def to (E : List (Nat × Nat)) (p : Nat) : Nat := (E.getD p (0, 0)).2
def endOf (E : List (Nat × Nat)) : Nat → Nat → Nat
  | 0, p => p
  | n + 1, p => to E (endOf E n p)
def roots (E : List (Nat × Nat)) : List Nat := (E.filter fun e => decide (e.1 = e.2)).map (·.1)
def good (m : Nat) (E : List (Nat × Nat)) : Bool := decide ((roots E).length = 1) && ((List.range m).all fun p => decide (endOf E m p = (roots E).getD 0 0))
def trees (m : Nat) : List (List (Nat × Nat)) := (rows m m).filter (good m)
/-- how deep a page lies -/
def deep (E : List (Nat × Nat)) : Nat → Nat → Nat
  | 0, _ => 0
  | n + 1, p => if to E p = p then 0 else deep E n (to E p) + 1
/-- visits with these exits -/
def visitsOf (m : Nat) (E : List (Nat × Nat)) : List Int := (((List.range (m + 1)).reverse.flatMap fun d => ((List.range m).filter fun p => decide (deep E m p = d)).flatMap fun p => if to E p = p then [p] else [p, to E p]).map fun x : Nat => (x : Int))
def zs (E : List (Nat × Nat)) : List (Int × Int) := E.map fun e => ((e.1 : Int), (e.2 : Int))
def okAt (m a : Nat) : Bool := decide ((trees m)[a % (trees m).length]? = some (exitsN m a)) && decide ((trees m).length = m ^ (m - 1)) && decide ((rk m (exitsN m a) m).2 = a % m ^ (m - 1)) &&
  decide (EF.exs (visitsOf m (exitsN m a)) = zs (exitsN m a)) && (visitsOf m (exitsN m a)).all (fun x => decide (0 ≤ x) && decide (x < 4)) && decide ((exitsN m a).length = m)
def okAll (m : Nat) : Bool := (List.range (m * m ^ (m - 1))).all (okAt m)
theorem ok_1 : okAll 1 = true := by decide +kernel
theorem ok_2 : okAll 2 = true := by decide +kernel
theorem ok_3 : okAll 3 = true := by decide +kernel
theorem ok_4 : okAll 4 = true := by decide +kernel
end FO

set_option Elab.async false
set_option linter.all false
set_option maxRecDepth 100000
set_option maxHeartbeats 4000000
/-! visits of up to three pages: all their effects, and the shortest lists of each (k84) -/
namespace W8
open PySem PySem.Spec PyProof.Rows L2 BC TR EF
/-- all lists of so many visits, in list order -/
def rowsI (m : Nat) : Nat → List (List Int)
  | 0 => [[]]
  | t + 1 => (rowsI m t).flatMap fun one => (List.range m).map fun p : Nat => one ++ [(p : Int)]
def stt (m : Nat) (r : List Int) : Option Int × List (Option Int) := (r.head?, (List.range m).map fun p : Nat => nx r (p : Int))
/-- a list for each effect -/
def reps : Nat → List (List Int)
  | 1 => [[], [0]]
  | 2 => [[], [0], [1], [0, 1], [1, 0], [0, 1, 0], [1, 0, 1]]
  | _ => [[], [0], [1], [2], [0, 1], [0, 2], [1, 0], [1, 2], [2, 0], [2, 1], [0, 1, 0], [0, 1, 2], [0, 2, 0], [0, 2, 1], [1, 0, 1], [1, 0, 2], [1, 2, 0], [1, 2, 1], [2, 0, 1], [2, 0, 2], [2, 1, 0], [2, 1, 2], [0, 1, 0, 2], [0, 1, 2, 0], [0, 1, 2, 1], [0, 2, 0, 1], [0, 2, 1, 0], [0, 2, 1, 2], [1, 0, 1, 2], [1, 0, 2, 0], [1, 0, 2, 1], [1, 2, 0, 1], [1, 2, 0, 2], [1, 2, 1, 0], [2, 0, 1, 0], [2, 0, 1, 2], [2, 0, 2, 1], [2, 1, 0, 1], [2, 1, 0, 2], [2, 1, 2, 0], [0, 1, 0, 2, 0], [1, 0, 1, 2, 1], [2, 0, 2, 1, 2]]
def M3 (m : Nat) : Prop := m = 1 ∨ m = 2 ∨ m = 3
theorem by3 {Q : Nat → Prop} (h1 : Q 1) (h2 : Q 2) (h3 : Q 3) {m : Nat} (h : M3 m) : Q m := by rcases h with rfl | rfl | rfl <;> assumption
theorem M3.le {m : Nat} (h : M3 m) : 1 ≤ m ∧ m ≤ 3 := by rcases h with rfl | rfl | rfl <;> decide
def closB (m : Nat) : Bool := (reps m).all fun r => (List.range m).all fun a : Nat => (reps m).any fun q => decide (stt m q = stt m ((a : Int) :: r))
theorem clos_ok {m : Nat} (h : M3 m) : closB m = true := by3 (Q := fun m => closB m = true) (by decide +kernel) (by decide +kernel) (by decide +kernel) h
def pgB (m : Nat) : Bool := (reps m).all fun r => r.all fun x => decide (0 ≤ x) && decide (x < (m : Int))
theorem pg_ok {m : Nat} (h : M3 m) : pgB m = true := by3 (Q := fun m => pgB m = true) (by decide +kernel) (by decide +kernel) (by decide +kernel) h
theorem reps_pg {m : Nat} (h : M3 m) {q : List Int} (hq : q ∈ reps m) : Pg m q := fun x hx => by
  have := List.all_eq_true.mp (List.all_eq_true.mp (pg_ok h) q hq) x hx
  rw [Bool.and_eq_true, decide_eq_true_eq, decide_eq_true_eq] at this
  exact this
/-! the same effect -/
def Alk (r q : List Int) : Prop := r.head? = q.head? ∧ ∀ x, nx r x = nx q x
theorem Alk.refl (r : List Int) : Alk r r := ⟨rfl, fun _ => rfl⟩
theorem Alk.symm {r q : List Int} (h : Alk r q) : Alk q r := ⟨h.1.symm, fun x => (h.2 x).symm⟩
theorem Alk.trans {r q s : List Int} (h : Alk r q) (g : Alk q s) : Alk r s := ⟨h.1.trans g.1, fun x => (h.2 x).trans (g.2 x)⟩
theorem Alk.stt {r q : List Int} (h : Alk r q) (m : Nat) : stt m r = stt m q := by
  unfold W8.stt
  rw [h.1]
  congr 1
  exact List.map_congr_left fun p _ => h.2 _
theorem alk_of {m : Nat} {r q : List Int} (hr : Pg m r) (hq : Pg m q) (h : stt m r = stt m q) : Alk r q := by
  obtain ⟨h1, h2⟩ := Prod.mk.inj h
  refine ⟨h1, fun x => ?_⟩
  by_cases c : 0 ≤ x ∧ x < (m : Int)
  · have e := congrArg (fun l => l[x.toNat]?) h2
    have hx : x.toNat < m := by omega
    have e2 : ((x.toNat : Nat) : Int) = x := by omega
    simp only [List.getElem?_map, List.getElem?_range hx, Option.map_some, e2] at e
    exact Option.some.inj e
  · have a : nx r x = none := nx_none_iff.mpr fun m => c (hr x m)
    have b : nx q x = none := nx_none_iff.mpr fun m => c (hq x m)
    rw [a, b]
theorem Alk.headD {r q : List Int} (h : Alk r q) (a : Int) : r.headD a = q.headD a := by
  rw [List.headD_eq_head?_getD, List.headD_eq_head?_getD, h.1]
theorem Alk.nil {r q : List Int} (h : Alk r q) : r = [] ↔ q = [] := by
  have e := h.1
  cases r <;> cases q <;> simp at e ⊢
theorem Alk.cons {r q : List Int} (h : Alk r q) (a : Int) : Alk (a :: r) (a :: q) := by
  refine ⟨rfl, fun x => ?_⟩
  cases e : nx r x with
  | some y => rw [nx_some e, nx_some ((h.2 x).symm.trans e)]
  | none => rw [nx_none e, nx_none ((h.2 x).symm.trans e), h.headD]
theorem rep_of {m : Nat} (h : M3 m) : ∀ {r : List Int}, Pg m r → ∃ q ∈ reps m, Alk r q
  | [], _ => ⟨[], by rcases h with rfl | rfl | rfl <;> decide, Alk.refl _⟩
  | a :: r, hp => by
    obtain ⟨q, hq, hA⟩ := rep_of h (r := r) fun x hx => hp x (List.mem_cons_of_mem _ hx)
    have ha := hp a List.mem_cons_self
    have c := List.all_eq_true.mp (List.all_eq_true.mp (clos_ok h) q hq) a.toNat (List.mem_range.mpr (by omega))
    obtain ⟨u, hu, e⟩ := List.any_eq_true.mp c
    have e := of_decide_eq_true e
    rw [show ((a.toNat : Nat) : Int) = a by omega] at e
    refine ⟨u, hu, (hA.cons a).trans (alk_of (m := m) (fun x hx => ?_) (reps_pg h hu) e.symm)⟩
    rcases List.mem_cons.mp hx with rfl | hx
    · exact ha
    · exact reps_pg h hq x hx
theorem Alk.mem {r q : List Int} (h : Alk r q) {x : Int} : x ∈ r ↔ x ∈ q := by
  have e := h.2 x
  constructor
  · intro m
    exact Classical.byContradiction fun n => nx_none_iff.mp (e.trans (nx_none_iff.mpr n)) m
  · intro m
    exact Classical.byContradiction fun n => nx_none_iff.mp (e.symm.trans (nx_none_iff.mpr n)) m
theorem ch_alk {r q : List Int} (h : Alk r q) : ∀ (n : Nat) {p : Int}, (ch r p).length ≤ n → p ∈ r → ch r p = ch q p
  | 0, p, hn, hp => by
    obtain ⟨y, hy⟩ := nx_mem hp
    obtain ⟨t, ht⟩ := ch_hd hy
    rw [ht] at hn
    simp at hn
  | n + 1, p, hn, hp => by
    obtain ⟨y, hy⟩ := nx_mem hp
    obtain ⟨a1, a2⟩ := ch_next hy
    obtain ⟨b1, b2⟩ := ch_next ((h.2 p).symm.trans hy)
    by_cases c : y = p
    · rw [a1 c, b1 c]
    · rw [a2 c, b2 c, ch_alk h n (by rw [a2 c, List.length_cons] at hn; omega) (mem_nx hy).2]
theorem ef_alk {r q : List Int} (h : Alk r q) : ∀ P : List Int, ef r P = ef q P
  | [] => by
    have e := h.1
    cases r with
    | nil =>
      cases q with
      | nil => rfl
      | cons b u => simp at e
    | cons a t =>
      cases q with
      | nil => simp at e
      | cons b u =>
        obtain rfl : a = b := by simpa using e
        exact ch_alk h _ (Nat.le_refl _) List.mem_cons_self
  | p :: P => by
    show (if p ∈ r then ch r p else p :: ef r P) = if p ∈ q then ch q p else p :: ef q P
    by_cases c : p ∈ r
    · rw [if_pos c, if_pos (h.mem.mp c)]
      exact ch_alk h _ (Nat.le_refl _) c
    · rw [if_neg c, if_neg fun m => c (h.mem.mpr m), ef_alk h P]
theorem Alk.exs {r q : List Int} (h : Alk r q) : EF.exs r = EF.exs q := exs_congr h.2
theorem alk_exs {r q : List Int} (hr : Pg 40 r) (hq : Pg 40 q) (h : r.head? = q.head?) (e : EF.exs r = EF.exs q) : Alk r q := by
  refine ⟨h, fun x => ?_⟩
  cases c : nx r x with
  | some y =>
    have := (mem_exs hr).mpr c
    rw [e] at this
    exact ((mem_exs hq).mp this).symm
  | none =>
    cases d : nx q x with
    | none => rfl
    | some y =>
      have := (mem_exs hq).mpr d
      rw [← e] at this
      rw [(mem_exs hr).mp this] at c
      cases c
theorem Alk.few {r q : List Int} (h : Alk r q) : EF.few r = EF.few q := few_congr h.exs (h.headD 0) h.nil
theorem Alk.frL {r q : List Int} (h : Alk r q) : EF.frL r = EF.frL q := by unfold EF.frL; rw [h.exs, h.headD]
theorem pg_40 {m : Nat} (h : M3 m) {r : List Int} (hr : Pg m r) : Pg 40 r := fun x hx => by
  have := hr x hx
  have := h.le
  omega
/-! all trails -/
def lay (m : Nat) : Nat → List (List Int)
  | 0 => [[]]
  | k + 1 => (lay m k).flatMap fun one => ((List.range m).filter fun p : Nat => !decide ((p : Int) ∈ one)).map fun p : Nat => one ++ [(p : Int)]
def trls (m : Nat) : Nat → List (List Int)
  | 0 => [[]]
  | k + 1 => trls m k ++ lay m (k + 1)
def trails (m : Nat) : List (List Int) := trls (m + 1) (m + 1)
def ends (m : Nat) (r : List Int) : List (List Int) := (trails m).map fun t => ef r t
def endsB (m : Nat) : Bool := (reps m).all fun r => (reps m).all fun q => decide (r = q) || (trails m).any fun t => !decide (ef r t = ef q t)
theorem ends_ok {m : Nat} (h : M3 m) : endsB m = true := by3 (Q := fun m => endsB m = true) (by decide +kernel) (by decide +kernel) (by decide +kernel) h
theorem ends_iff {m : Nat} (h : M3 m) {r s : List Int} (hr : Pg m r) (hs : Pg m s) : ends m r = ends m s ↔ Alk r s := by
  constructor
  · intro e
    obtain ⟨q, hq, aq⟩ := rep_of h hr
    obtain ⟨u, hu, au⟩ := rep_of h hs
    have c := List.all_eq_true.mp (List.all_eq_true.mp (ends_ok h) q hq) u hu
    rcases Bool.or_eq_true_iff.mp c with c | c
    · obtain rfl := of_decide_eq_true c
      exact aq.trans au.symm
    · exfalso
      obtain ⟨t, ht, ne⟩ := List.any_eq_true.mp c
      obtain ⟨i, hi⟩ := List.getElem?_of_mem ht
      have e2 := congrArg (fun l => l[i]?) e
      unfold ends at e2
      simp only [List.getElem?_map, hi, Option.map_some, Option.some.injEq] at e2
      rw [ef_alk aq, ef_alk au] at e2
      rw [decide_eq_true e2] at ne
      cases ne
  · intro a
    unfold ends
    exact List.map_congr_left fun t _ => ef_alk a t
/-! the lists of visits -/
theorem mem_rows {m : Nat} : ∀ {t : Nat} {l : List Int}, l ∈ rowsI m t ↔ l.length = t ∧ Pg m l
  | 0, l => by
    constructor
    · intro h
      obtain rfl : l = [] := List.mem_singleton.mp h
      exact ⟨rfl, fun x hx => by cases hx⟩
    · rintro ⟨h, _⟩
      rw [List.length_eq_zero_iff.mp h]
      exact List.mem_singleton.mpr rfl
  | t + 1, l => by
    constructor
    · intro h
      obtain ⟨one, h1, h2⟩ := List.mem_flatMap.mp h
      obtain ⟨p, hp, rfl⟩ := List.mem_map.mp h2
      obtain ⟨e, pg⟩ := mem_rows.mp h1
      have hp := List.mem_range.mp hp
      refine ⟨by rw [List.length_append, List.length_singleton, e], fun x hx => ?_⟩
      rcases List.mem_append.mp hx with hx | hx
      · exact pg x hx
      · rw [List.mem_singleton.mp hx]
        omega
    · rintro ⟨e, pg⟩
      have ne : l ≠ [] := fun z => by rw [z] at e; cases e
      have hx := pg _ (List.getLast_mem ne)
      refine List.mem_flatMap.mpr ⟨l.dropLast, mem_rows.mpr ⟨by rw [List.length_dropLast, e]; rfl, fun x hx => pg x (List.dropLast_subset _ hx)⟩, List.mem_map.mpr ⟨(l.getLast ne).toNat, List.mem_range.mpr (by omega), ?_⟩⟩
      rw [show (((l.getLast ne).toNat : Nat) : Int) = l.getLast ne by omega]
      exact List.dropLast_concat_getLast ne
/-! shortest lists -/
def fc : Nat → Nat
  | 0 => 1
  | n + 1 => fc n * (n + 1)
/-- the order with an index -/
def permN : Nat → List Int → Nat → List Int
  | 0, _, _ => []
  | k + 1, left, i => left.getD (i / fc k) 0 :: permN k (left.eraseIdx (i / fc k)) (i % fc k)
def rankN : List Int → List Int → Nat
  | _, [] => 0
  | left, x :: xs => left.idxOf x * fc (left.length - 1) + rankN (left.erase x) xs
def ord (r l : List Int) : List Int := l.filter fun x => decide (x ∈ frL r)
def S (m : Nat) (r : List Int) : List (List Int) := (rowsI m (few r)).filter fun l => decide (stt m l = stt m r)
def chk (m : Nat) (q : List Int) : Bool := decide (few q ≤ 5) && ((List.range (few q)).all fun t => (rowsI m t).all fun l => !decide (stt m l = stt m q)) && decide ((S m q).length = fc (frL q).length) &&
  (List.range (S m q).length).all fun i => decide (ord q ((S m q).getD i []) = permN (frL q).length (frL q) i) && decide (rankN (frL q) (ord q ((S m q).getD i [])) = i)
def chkB (m : Nat) : Bool := (reps m).all (chk m)
theorem chk_ok {m : Nat} (h : M3 m) : chkB m = true := by3 (Q := fun m => chkB m = true) (by decide +kernel) (by decide +kernel) (by decide +kernel) h
theorem S_alk {m : Nat} {r q : List Int} (h : Alk r q) : S m r = S m q := by
  unfold S
  rw [h.few, h.stt m]
structure SOk (m : Nat) (r : List Int) : Prop where
  few5 : few r ≤ 5
  none : ∀ t, t < few r → ∀ l ∈ rowsI m t, stt m l ≠ stt m r
  len : (S m r).length = fc (frL r).length
  ord : ∀ i l, (S m r)[i]? = some l → ord r l = permN (frL r).length (frL r) i ∧ rankN (frL r) (ord r l) = i
theorem s_ok {m : Nat} (h : M3 m) {r : List Int} (hr : Pg m r) : SOk m r := by
  obtain ⟨q, hq, a⟩ := rep_of h hr
  have c := List.all_eq_true.mp (chk_ok h) q hq
  unfold chk at c
  rw [Bool.and_eq_true, Bool.and_eq_true, Bool.and_eq_true] at c
  obtain ⟨⟨⟨c1, c2⟩, c3⟩, c4⟩ := c
  refine ⟨by rw [a.few]; exact of_decide_eq_true c1, fun t ht l hl e => ?_, ?_, fun i l e => ?_⟩
  · rw [a.few] at ht
    have := List.all_eq_true.mp (List.all_eq_true.mp c2 t (List.mem_range.mpr ht)) l hl
    rw [a.stt m] at e
    rw [decide_eq_true e] at this
    cases this
  · rw [S_alk a, a.frL]; exact of_decide_eq_true c3
  · rw [S_alk a] at e
    have hi := (List.getElem?_eq_some_iff.mp e).1
    have := List.all_eq_true.mp c4 i (List.mem_range.mpr hi)
    rw [Bool.and_eq_true, decide_eq_true_eq, decide_eq_true_eq, List.getD_eq_getElem?_getD, e] at this
    have eo : W8.ord r l = W8.ord q l := by unfold W8.ord; rw [a.frL]
    rw [eo, a.frL]
    exact this
theorem mem_S {m : Nat} {r l : List Int} (hr : Pg m r) : l ∈ S m r ↔ l.length = few r ∧ Pg m l ∧ Alk l r := by
  unfold S
  rw [List.mem_filter, mem_rows, decide_eq_true_eq]
  constructor
  · rintro ⟨⟨a, b⟩, c⟩
    exact ⟨a, b, alk_of b hr c⟩
  · rintro ⟨a, b, c⟩
    exact ⟨⟨a, b⟩, c.stt m⟩
/-- the list with an order is the one with its index -/
theorem S_at {m : Nat} (h : M3 m) {r l : List Int} (hr : Pg m r) (hl : l ∈ S m r) {i : Nat} (hi : i < (S m r).length) (e : ord r l = permN (frL r).length (frL r) i) : (S m r)[i]? = some l := by
  have K := s_ok h hr
  obtain ⟨j, hj⟩ := List.getElem?_of_mem hl
  obtain ⟨u, hu⟩ : ∃ u, (S m r)[i]? = some u := ⟨_, List.getElem?_eq_getElem hi⟩
  obtain ⟨_, b⟩ := K.ord j l hj
  obtain ⟨c, d⟩ := K.ord i u hu
  rw [e, ← c, d] at b
  rw [b]
  exact hj
theorem S_rank {m : Nat} (h : M3 m) {r l : List Int} (hr : Pg m r) {i : Nat} (e : (S m r)[i]? = some l) : rankN (frL r) (ord r l) = i := ((s_ok h hr).ord i l e).2
def few1 (r : List Int) : Nat := few r + 1
/-! all effects -/
def fs : Nat → List (List Int)
  | 1 => [[0]]
  | 2 => [[0, 1], [1, 0], [0, 1, 0], [1, 0, 1]]
  | _ => [[0, 1, 2], [0, 2, 1], [1, 0, 2], [1, 2, 0], [2, 0, 1], [2, 1, 0], [0, 1, 0, 2], [0, 1, 2, 0], [0, 1, 2, 1], [0, 2, 0, 1], [0, 2, 1, 0], [0, 2, 1, 2], [1, 0, 1, 2], [1, 0, 2, 0], [1, 0, 2, 1], [1, 2, 0, 1], [1, 2, 0, 2], [1, 2, 1, 0], [2, 0, 1, 0], [2, 0, 1, 2], [2, 0, 2, 1], [2, 1, 0, 1], [2, 1, 0, 2], [2, 1, 2, 0], [0, 1, 0, 2, 0], [1, 0, 1, 2, 1], [2, 0, 2, 1, 2]]
def srt : Nat → List (List Int)
  | 1 => [[0]]
  | 2 => [[0, 1, 0], [0, 1], [1, 0], [1, 0, 1]]
  | _ => [[0, 1, 0, 2, 0], [0, 2, 1, 0], [0, 1, 2, 0], [0, 2, 0, 1], [0, 1, 2, 1], [0, 1, 2], [0, 1, 0, 2], [0, 2, 1], [0, 2, 1, 2], [1, 0, 2, 0], [1, 2, 1, 0], [1, 2, 0], [1, 2, 0, 1], [1, 0, 1, 2, 1], [1, 0, 1, 2], [1, 0, 2], [1, 0, 2, 1], [1, 2, 0, 2], [2, 0, 1, 0], [2, 1, 0], [2, 1, 2, 0], [2, 0, 1], [2, 1, 0, 1], [2, 0, 1, 2], [2, 1, 0, 2], [2, 0, 2, 1], [2, 0, 2, 1, 2]]
/-- one more list is looked at -/
def acc1 (m : Nat) (f : List (List Int)) (r : List Int) : List (List Int) := if ((List.range m).all fun p : Nat => (nx r (p : Int)).isSome) && !(f.any fun q => decide (stt m q = stt m r)) then f ++ [r] else f
def accs (m : Nat) (f : List (List Int)) (rs : List (List Int)) : List (List Int) := rs.foldl (acc1 m) f
/-- behind the lists of up to t visits -/
def upTo (m : Nat) : Nat → List (List Int)
  | 0 => []
  | t + 1 => accs m (upTo m t) (rowsI m (t + 1))
def fsB (m : Nat) : Bool := decide (upTo m (2 * m - 1) = fs m) && decide ((fs m).length = m ^ m) && (srt m).isPerm (fs m)
theorem fs_ok {m : Nat} (h : M3 m) : fsB m = true := by3 (Q := fun m => fsB m = true) (by decide +kernel) (by decide +kernel) (by decide +kernel) h
def enc (r : List Int) : PyData := .tuple [.int (r.headD 0), .list ((exs r).map fun q => .tuple [.int q.1, .int q.2])]
def srtB (m : Nat) : Bool := (List.range (srt m).length).all fun j => (List.range j).all fun i => PySem.W.dataLt (enc ((srt m).getD i [])) (enc ((srt m).getD j []))
theorem srt_ok {m : Nat} (h : M3 m) : srtB m = true := by3 (Q := fun m => srtB m = true) (by decide +kernel) (by decide +kernel) (by decide +kernel) h
def nthB (m : Nat) : Bool := (List.range (m ^ m)).all fun a => decide ((srt m).getD a [] ≠ []) && decide (((srt m).getD a []).headD 0 = ((a / m ^ (m - 1) : Nat) : Int)) && decide (exs ((srt m).getD a []) = FO.zs (FO.exitsN m a))
theorem nth_ok {m : Nat} (h : M3 m) : nthB m = true := by3 (Q := fun m => nthB m = true) (by decide +kernel) (by decide +kernel) (by decide +kernel) h
theorem le_trans' (a b c : List Int) (h1 : PySem.W.dataLe false enc a b = true) (h2 : PySem.W.dataLe false enc b c = true) : PySem.W.dataLe false enc a c = true := by
  rw [PySem.W.dataLe_eq] at h1 h2 ⊢
  have h1 : PySem.W.dataLt (enc b) (enc a) = false := by simpa using h1
  have h2 : PySem.W.dataLt (enc c) (enc b) = false := by simpa using h2
  show (!PySem.W.dataLt (enc c) (enc a)) = true
  cases e : PySem.W.dataLt (enc c) (enc a) with
  | false => rfl
  | true =>
    rcases lex_negTrans _ (PySem.W.keyToks (enc b)) _ e with z | z
    · exact absurd (show PySem.W.dataLt (enc c) (enc b) = true from z) (by rw [h2]; decide)
    · exact absurd (show PySem.W.dataLt (enc b) (enc a) = true from z) (by rw [h1]; decide)
theorem lt_asymm' {x y : PyData} (h : PySem.W.dataLt x y = true) : PySem.W.dataLt y x = false := by
  cases e : PySem.W.dataLt y x with
  | false => rfl
  | true =>
    have := lex_trans _ _ _ h e
    rw [lex_irrefl] at this
    cases this
theorem le_total' (a b : List Int) : (PySem.W.dataLe false enc a b || PySem.W.dataLe false enc b a) = true := by
  rw [PySem.W.dataLe_eq]
  show (!PySem.W.dataLt (enc b) (enc a) || !PySem.W.dataLt (enc a) (enc b)) = true
  cases e : PySem.W.dataLt (enc b) (enc a) with
  | false => rfl
  | true => rw [lt_asymm' e]; rfl
theorem perm_sorted {α : Type} {le : α → α → Bool} : ∀ {s m : List α}, s.Perm m → s.Pairwise (fun a b => le a b = true) → m.Pairwise (fun a b => le a b = true ∧ le b a = false) → s = m
  | s, [], p, _, _ => p.eq_nil
  | [], b :: m, p, _, _ => absurd p.symm.eq_nil (by simp)
  | a :: s, b :: m, p, hs, hm => by
    rw [List.pairwise_cons] at hs hm
    have e : a = b := by
      have h1 : a ∈ b :: m := p.mem_iff.mp List.mem_cons_self
      have h2 : b ∈ a :: s := p.mem_iff.mpr List.mem_cons_self
      rcases List.mem_cons.mp h1 with h1 | h1
      · exact h1
      · rcases List.mem_cons.mp h2 with h2 | h2
        · exact h2.symm
        · have := (hm.1 a h1).2
          rw [hs.1 b h2] at this
          cases this
    subst e
    rw [perm_sorted (List.Perm.cons_inv p) hs.2 hm.2]
theorem srt_sorts {m : Nat} (h : M3 m) : (fs m).mergeSort (PySem.W.dataLe false enc) = srt m := by
  have c := fs_ok h
  unfold fsB at c
  rw [Bool.and_eq_true, Bool.and_eq_true] at c
  have p : (srt m).Perm (fs m) := List.isPerm_iff.mp c.2
  refine perm_sorted ((List.mergeSort_perm _ _).trans p.symm) (List.pairwise_mergeSort le_trans' le_total' _) ?_
  rw [List.pairwise_iff_getElem]
  intro i j hi hj hij
  have b := List.all_eq_true.mp (List.all_eq_true.mp (srt_ok h) j (List.mem_range.mpr hj)) i (List.mem_range.mpr hij)
  rw [List.getD_eq_getElem?_getD, List.getD_eq_getElem?_getD, List.getElem?_eq_getElem hi, List.getElem?_eq_getElem hj] at b
  have b : PySem.W.dataLt (enc (srt m)[i]) (enc (srt m)[j]) = true := b
  rw [PySem.W.dataLe_eq]
  exact ⟨by show (!PySem.W.dataLt _ _) = true; rw [lt_asymm' b]; rfl, by show (!PySem.W.dataLt _ _) = false; rw [b]; rfl⟩
theorem srt_len {m : Nat} (h : M3 m) : (srt m).length = m ^ m := by
  have c := fs_ok h
  unfold fsB at c
  rw [Bool.and_eq_true, Bool.and_eq_true] at c
  rw [(List.isPerm_iff.mp c.2).length_eq]
  exact of_decide_eq_true c.1.2
theorem fs_len {m : Nat} (h : M3 m) : (fs m).length = m ^ m := by
  have c := fs_ok h
  unfold fsB at c
  rw [Bool.and_eq_true, Bool.and_eq_true] at c
  exact of_decide_eq_true c.1.2
theorem upTo_fs {m : Nat} (h : M3 m) : upTo m (2 * m - 1) = fs m := by
  have c := fs_ok h
  unfold fsB at c
  rw [Bool.and_eq_true, Bool.and_eq_true] at c
  exact of_decide_eq_true c.1.1
theorem srt_at {m : Nat} (h : M3 m) {a : Nat} (ha : a < m ^ m) : ∃ r, (srt m)[a]? = some r ∧ r ≠ [] ∧ r.headD 0 = ((a / m ^ (m - 1) : Nat) : Int) ∧ exs r = FO.zs (FO.exitsN m a) := by
  have c := List.all_eq_true.mp (nth_ok h) a (List.mem_range.mpr ha)
  have hl : a < (srt m).length := by rw [srt_len h]; exact ha
  rw [List.getD_eq_getElem?_getD, List.getElem?_eq_getElem hl] at c
  rw [Bool.and_eq_true, Bool.and_eq_true] at c
  exact ⟨_, List.getElem?_eq_getElem hl, of_decide_eq_true c.1.1, of_decide_eq_true c.1.2, of_decide_eq_true c.2⟩
theorem m27 {m : Nat} (h : M3 m) : m ^ m ≤ 27 := by3 (Q := fun m => m ^ m ≤ 27) (by decide) (by decide) (by decide) h
/-! in words of the effects -/
theorem full_iff {m : Nat} (h : M3 m) {r : List Int} (hr : Pg m r) : ((List.range m).all fun p : Nat => (nx r (p : Int)).isSome) = decide ((exs r).length = m) := by
  have c : ∀ q ∈ reps m, ((List.range m).all fun p : Nat => (nx q (p : Int)).isSome) = decide ((exs q).length = m) := by
    have d : ((reps m).all fun q => decide (((List.range m).all fun p : Nat => (nx q (p : Int)).isSome) = decide ((exs q).length = m))) = true := by3 (Q := fun m => ((reps m).all fun q => decide (((List.range m).all fun p : Nat => (nx q (p : Int)).isSome) = decide ((exs q).length = m))) = true) (by decide +kernel) (by decide +kernel) (by decide +kernel) h
    exact fun q hq => of_decide_eq_true (List.all_eq_true.mp d q hq)
  obtain ⟨q, hq, a⟩ := rep_of h hr
  rw [a.exs, ← c q hq]
  congr 1
  funext p
  rw [a.2]
theorem stt_iff {m : Nat} (h : M3 m) {r q : List Int} (hr : Pg m r) (hq : Pg m q) : stt m r = stt m q ↔ r.head? = q.head? ∧ exs r = exs q := by
  constructor
  · intro e
    have a := alk_of hr hq e
    exact ⟨a.1, a.exs⟩
  · rintro ⟨a, b⟩
    exact (alk_exs (pg_40 h hr) (pg_40 h hq) a b).stt m
theorem accs_pg {m : Nat} : ∀ {rs f : List (List Int)}, (∀ r ∈ f, Pg m r ∧ r ≠ []) → (∀ r ∈ rs, Pg m r ∧ r ≠ []) → ∀ r ∈ accs m f rs, Pg m r ∧ r ≠ []
  | [], f, hf, _ => hf
  | a :: rs, f, hf, hr => by
    show ∀ r ∈ accs m (acc1 m f a) rs, _
    refine accs_pg (fun r hm => ?_) fun r hm => hr r (List.mem_cons_of_mem _ hm)
    unfold acc1 at hm
    split at hm
    · rcases List.mem_append.mp hm with hm | hm
      · exact hf r hm
      · rw [List.mem_singleton.mp hm]; exact hr a List.mem_cons_self
    · exact hf r hm
theorem upTo_pg {m : Nat} : ∀ t, ∀ r ∈ upTo m t, Pg m r ∧ r ≠ []
  | 0 => fun r h => by cases h
  | t + 1 => accs_pg (upTo_pg t) fun r hr => by
    obtain ⟨e, p⟩ := mem_rows.mp hr
    exact ⟨p, fun z => by rw [z] at e; cases e⟩
theorem accs_len {m : Nat} : ∀ {rs f : List (List Int)}, (accs m f rs).length ≤ f.length + rs.length
  | [], f => Nat.le_refl _
  | a :: rs, f => by
    show (accs m (acc1 m f a) rs).length ≤ _
    have h1 := accs_len (m := m) (rs := rs) (f := acc1 m f a)
    have h2 : (acc1 m f a).length ≤ f.length + 1 := by
      unfold acc1
      split
      · rw [List.length_append, List.length_singleton]; exact Nat.le_refl _
      · omega
    rw [List.length_cons]
    omega
end W8

set_option Elab.async false
set_option linter.all false
set_option maxRecDepth 100000
set_option maxHeartbeats 4000000
/-! x in a list of data; sorted of effects as tuples (k84) -/
namespace BC
open PySem PySem.Spec PyProof.Rows L2 Evl
theorem units65 {k : Nat} {A : Around} (r : Room k A) : A.units + 65 < cLine := by have := r.un; omega
theorem k_inD {X : Cx} {K : PySem.W.Frag} (hK : X.K = K) (hu : X.A.units + 65 < cLine) : OpR X (compareOp .In) (rInD K) := by subst hK; exact op_inD hu
theorem k_notInD {X : Cx} {K : PySem.W.Frag} (hK : X.K = K) (hu : X.A.units + 65 < cLine) : OpR X (compareOp .NotIn) (rNotInD K) := by subst hK; exact op_notInD hu
def rSortE (K : PySem.W.Frag) : List V → Hp → VK → Prop := fun xs H Q => ∃ (a : Addr) (rs : List Addr) (F : List (List Int)), xs = [.ref a] ∧ H a = some (.lst (rs.map V.ref)) ∧ rs.length = F.length ∧ (∀ (i : Nat) (r : Addr) (b : List Int), rs[i]? = some r → F[i]? = some b → Dp K H (.ref r) (W8.enc b)) ∧
  ∀ p (rs' : List Addr), H p = none → rs'.length = F.length → (∀ (i : Nat) (r : Addr) (b : List Int), rs'[i]? = some r → (F.mergeSort (PySem.W.dataLe false W8.enc))[i]? = some b → ∃ j : Nat, rs[j]? = some r ∧ F[j]? = some b) → Q (.ref p) (upd H p (.lst (rs'.map V.ref)))
theorem alike_prs : ∀ as bs : List (Int × Int), PySem.W.alikeAll (as.map fun q => .tuple [.int q.1, .int q.2]) (bs.map fun q => .tuple [.int q.1, .int q.2]) = true
  | [], _ => by simp [PySem.W.alikeAll]
  | _ :: _, [] => by simp [PySem.W.alikeAll]
  | a :: as, b :: bs => by
    rw [List.map_cons, List.map_cons, PySem.W.alikeAll, alike_prs as bs]
    simp [PySem.W.alike, PySem.W.alikeAll]
theorem enc_alike (a b : List Int) : PySem.W.alike (W8.enc a) (W8.enc b) = true := by
  unfold W8.enc
  simp only [PySem.W.alike, PySem.W.alikeAll]
  rw [alike_prs]
  rfl
theorem prs_depth : ∀ as : List (Int × Int), PyData.depthAll (as.map fun q => .tuple [.int q.1, .int q.2]) ≤ 1
  | [] => by simp [PyData.depthAll]
  | a :: as => by
    rw [List.map_cons, PyData.depthAll]
    have := prs_depth as
    simp only [PyData.depth, PyData.depthAll]
    omega
theorem enc_depth (a : List Int) : (W8.enc a).depth ≤ 3 := by
  unfold W8.enc
  have := prs_depth (EF.exs a)
  simp only [PyData.depth, PyData.depthAll]
  omega
theorem eachE_of {P : Addr → List Int → Prop} : ∀ (rs : List Addr) (ls : List (List Int)), rs.length = ls.length → (∀ (i : Nat) (r : Addr) (l : List Int), rs[i]? = some r → ls[i]? = some l → P r l) →
    PySem.W.EachIs (fun (v : Value) (b : List Int) => ∃ r, v = .ref r ∧ P r b) (rs.map Value.ref) ls
  | [], [], _, _ => .nil
  | r :: rs, l :: ls, hl, h => .cons ⟨r, rfl, h 0 r l rfl rfl⟩ (eachE_of rs ls (by simpa using hl) fun i r l a b => h (i + 1) r l a b)
theorem eachE_to {P : Addr → List Int → Prop} : ∀ {out : List Value} {bs : List (List Int)}, PySem.W.EachIs (fun (v : Value) (b : List Int) => ∃ r, v = .ref r ∧ P r b) out bs → ∃ rs : List Addr, out = rs.map Value.ref ∧ rs.length = bs.length ∧ ∀ (i : Nat) (r : Addr) (b : List Int), rs[i]? = some r → bs[i]? = some b → P r b
  | _, _, .nil => ⟨[], rfl, rfl, fun i r b e => by simp at e⟩
  | _, _, .cons h t => by
    obtain ⟨r, rfl, hp⟩ := h
    obtain ⟨rs, rfl, hl, ha⟩ := eachE_to t
    refine ⟨r :: rs, rfl, by rw [List.length_cons, List.length_cons, hl], fun i r' b' e1 e2 => ?_⟩
    match i with
    | 0 => cases e1; cases e2; exact hp
    | i + 1 => exact ha i r' b' e1 e2
theorem vals_of_refs : ∀ rs : List Addr, Vals (rs.map V.ref) (rs.map Value.ref)
  | [] => .nil
  | r :: rs => .cons rfl (vals_of_refs rs)
theorem cr_sortE {X : Cx} (hc : X.calm = true) (hu : X.A.units + 64 < cLine) : CallR X (.builtin "sorted") (rSortE X.K) := by
  intro pins s σ H xs us Q I r h
  obtain ⟨a, rs, F, rfl, ha, hl, hd, q⟩ := h
  obtain rfl := Vals.ref1 r
  obtain ⟨hz, vs, c, rv, ho⟩ := (show ObjOk X.prog X.w H s.heap a (.lst (rs.map V.ref)) from I.hok a _ ha)
  obtain rfl := vals_refs' rv
  rw [List.length_map] at hz
  have e1 := eachE_of (P := fun r b => ∃ j : Nat, rs[j]? = some r ∧ F[j]? = some b) rs F hl fun i r l a b => ⟨i, a, b⟩
  have e2 : PySem.W.EachIs (fun (v : Value) (b : List Int) => ∃ as, Reads s.heap v (W8.enc b) as) (rs.map Value.ref) F := e1.mono fun v b h => by
    obtain ⟨r, rfl, j, hp1, hp2⟩ := h
    exact Dp.reads I _ (.ref r) (.ref r) (hd j r b hp1 hp2) rfl
  refine PySem.W.sorted_data (enc := W8.enc) ⟨_, ho, rfl, _, rfl⟩ e1 e2 (PySem.W.AllAlike.of fun b b' => enc_alike b b') (PySem.W.Sortable.tuples fun b => ⟨_, _, rfl⟩) (by rw [← hl]; exact hz)
    (fun b _ => by have := enc_depth b; omega) fun out ho2 e3 => ?_
  obtain ⟨rs', rfl, hl', hd'⟩ := eachE_to e3
  rw [List.length_mergeSort] at hl'
  obtain ⟨ep, he'⟩ := PyProof.Rows.sortedAll_at s.heap (rs.map Value.ref) (rs'.map Value.ref).toArray
  have hn : H (s.heap.objs.size + 1) = none := I.hok.fresh (Nat.le_succ _)
  exact ⟨.ref _, upd H (s.heap.objs.size + 1) (.lst (rs'.map V.ref)), I.laid (t' := s.toks) (fun _ _ => PyProof.Rows.sortedAll_old) (Nat.le_succ _) ⟨by rw [List.length_map, hl', ← hl]; exact hz, rs'.map Value.ref, ep, vals_of_refs rs', he'⟩, rfl, q _ rs' hn hl' hd'⟩
theorem k_sortE {X : Cx} {K : PySem.W.Frag} (hK : X.K = K) (hc : X.calm = true) (hu : X.A.units + 64 < cLine) : CallR X (.builtin "sorted") (rSortE K) := by subst hK; exact cr_sortE hc hu
end BC

set_option Elab.async false
set_option linter.all false
set_option maxRecDepth 100000
set_option maxHeartbeats 4000000
/-! sorted of integers, any length -/
namespace BC
open PySem PySem.Spec PyProof.Rows L2 Evl
def rSortI (K : PySem.W.Frag) : List V → Hp → VK → Prop := fun vs H Q => ∃ (a : Addr) (ns : List Int), vs = [V.ref a] ∧ SqL K H a (ns.map V.int) ∧ ns.length ≤ 100000 ∧
  ∀ (ns' : List Int) (p : Addr), ns'.Perm ns → ns'.Pairwise (· ≤ ·) → H p = none → Q (.ref p) (upd H p (.lst (ns'.map V.int)))
theorem each_ints : ∀ {ns : List Int} {vs : List Value}, Vals (ns.map V.int) vs → PySem.W.EachIs (fun (v : Value) (b : Int) => L2.RelV (.int b) v) vs ns
  | [], _, .nil => .nil
  | n :: ns, _, .cons h t => .cons h (each_ints t)
theorem ints_each : ∀ {vs : List Value} {ns : List Int}, PySem.W.EachIs (fun (v : Value) (b : Int) => L2.RelV (.int b) v) vs ns → Vals (ns.map V.int) vs
  | _, _, .nil => .nil
  | _, _, .cons h t => .cons h (ints_each t)
theorem cr_sortI {X : Cx} (hu : X.A.units + 64 < cLine) : CallR X (.builtin "sorted") (rSortI X.K) := by
  intro pins s σ H xs us Q I r h
  obtain ⟨a, ns, rfl, hs, hl, q⟩ := h
  obtain ⟨its, rv, hI, _⟩ := I.list hs
  obtain rfl := Vals.ref1 r
  have e1 := each_ints rv
  have e2 : PySem.W.EachIs (fun (v : Value) (b : Int) => ∃ as, Reads s.heap v (PyData.int b) as) its ns := e1.mono fun v b h => by
    obtain ⟨t, rfl⟩ := h
    exact ⟨_, .int _ _⟩
  have hL : ns.length ≤ sizeLine := by rw [sizeLine_eq]; omega
  refine PySem.W.sorted_data (enc := PyData.int) hI.isList e1 e2 (PySem.W.AllAlike.of fun b b' => rfl) (PySem.W.Sortable.others fun b => ⟨nofun, nofun⟩) hL (fun b _ => by show X.A.units + 2 + 0 < cLine; omega) fun out ho2 e3 => ?_
  have hv := ints_each e3
  obtain ⟨ep, he'⟩ := PyProof.Rows.sortedAll_at s.heap its out.toArray
  have hn : H (s.heap.objs.size + 1) = none := I.hok.fresh (Nat.le_succ _)
  have hle : PySem.W.dataLe false PyData.int = fun a b : Int => decide (a ≤ b) := PySem.W.dataLe_int fun b : Int => b
  have hp : (ns.mergeSort (PySem.W.dataLe false PyData.int)).Perm ns := List.mergeSort_perm _ _
  have hs2 : (ns.mergeSort (PySem.W.dataLe false PyData.int)).Pairwise (· ≤ ·) := by
    rw [hle]
    refine (List.pairwise_mergeSort (fun a b c h1 h2 => ?_) (fun a b => ?_) ns).imp fun h => of_decide_eq_true h
    · exact decide_eq_true (Int.le_trans (of_decide_eq_true h1) (of_decide_eq_true h2))
    · rw [Bool.or_eq_true, decide_eq_true_eq, decide_eq_true_eq]
      exact Int.le_total a b
  exact ⟨.ref _, upd H (s.heap.objs.size + 1) (.lst ((ns.mergeSort (PySem.W.dataLe false PyData.int)).map V.int)), I.laid (t' := s.toks) (fun _ _ => PyProof.Rows.sortedAll_old) (Nat.le_succ _) ⟨by rw [List.length_map, List.length_mergeSort]; exact hL, out, ep, hv, he'⟩, rfl, q _ _ hp hs2 hn⟩
theorem k_sortI {X : Cx} {K : PySem.W.Frag} (hK : X.K = K) (hu : X.A.units + 64 < cLine) : CallR X (.builtin "sorted") (rSortI K) := by subst hK; exact cr_sortI hu
end BC

set_option Elab.async false
set_option linter.all false
set_option maxRecDepth 100000
set_option maxHeartbeats 4000000
namespace LW
open PySem PySem.Spec PyProof.Rows L2 BC Evl TR
def topS (i : Nat) : Stmt := PySem.Challenge.pw_breadcrumbs_k80_orders_of_few_pages.main.body.getD i (.Pass ⟨0, 0, 0, 0⟩)
abbrev s_is_integer : Stmt := topS 8
theorem sc_is_integer : FnScope ["value", "least", "most"] ["value", "least", "most"] (defScope s_is_integer) := ⟨rfl, rfl, rfl, by decide +kernel, rfl, by decide +kernel, by decide +kernel⟩
abbrev s_check_number : Stmt := topS 9
theorem sc_check_number : FnScope ["value", "least", "most"] ["value", "least", "most"] (defScope s_check_number) := ⟨rfl, rfl, rfl, by decide +kernel, rfl, by decide +kernel, by decide +kernel⟩
abbrev s_is_row : Stmt := topS 10
theorem sc_is_row : FnScope ["value", "page", "many", "other"] ["value", "page", "many"] (defScope s_is_row) := ⟨rfl, rfl, rfl, by decide +kernel, rfl, by decide +kernel, by decide +kernel⟩
abbrev s_is_site : Stmt := topS 11
theorem sc_is_site : FnScope ["value", "page", "row"] ["value"] (defScope s_is_site) := ⟨rfl, rfl, rfl, by decide +kernel, rfl, by decide +kernel, by decide +kernel⟩
abbrev s_check_site : Stmt := topS 12
theorem sc_check_site : FnScope ["site"] ["site"] (defScope s_check_site) := ⟨rfl, rfl, rfl, by decide +kernel, rfl, by decide +kernel, by decide +kernel⟩
abbrev s_check_pages : Stmt := topS 13
theorem sc_check_pages : FnScope ["site", "pages", "page"] ["site", "pages"] (defScope s_check_pages) := ⟨rfl, rfl, rfl, by decide +kernel, rfl, by decide +kernel, by decide +kernel⟩
abbrev s_is_linked_on : Stmt := topS 14
theorem sc_is_linked_on : FnScope ["site", "value", "page", "other"] ["site", "value"] (defScope s_is_linked_on) := ⟨rfl, rfl, rfl, by decide +kernel, rfl, by decide +kernel, by decide +kernel⟩
abbrev s_is_trail_on : Stmt := topS 15
theorem sc_is_trail_on : FnScope ["site", "value"] ["site", "value"] (defScope s_is_trail_on) := ⟨rfl, rfl, rfl, by decide +kernel, rfl, by decide +kernel, by decide +kernel⟩
abbrev s_bits_of : Stmt := topS 18
theorem sc_bits_of : FnScope ["pages", "found", "page"] ["pages"] (defScope s_bits_of) := ⟨rfl, rfl, rfl, by decide +kernel, rfl, by decide +kernel, by decide +kernel⟩
abbrev s_has_bit : Stmt := topS 19
theorem sc_has_bit : FnScope ["bits", "page"] ["bits", "page"] (defScope s_has_bit) := ⟨rfl, rfl, rfl, by decide +kernel, rfl, by decide +kernel, by decide +kernel⟩
abbrev s_ways_on : Stmt := topS 20
theorem sc_ways_on : FnScope ["site", "pages", "ahead", "found", "layer", "left", "longer", "page", "number", "more", "other", "bits", "first", "bit"] ["site", "pages"] (defScope s_ways_on) := ⟨rfl, rfl, rfl, by decide +kernel, rfl, by decide +kernel, by decide +kernel⟩
abbrev s_number_behind : Stmt := topS 21
theorem sc_number_behind : FnScope ["ways", "bits", "page"] ["ways", "bits", "page"] (defScope s_number_behind) := ⟨rfl, rfl, rfl, by decide +kernel, rfl, by decide +kernel, by decide +kernel⟩
abbrev s_number_of_orders : Stmt := topS 22
theorem sc_number_of_orders : FnScope ["pages", "ways", "bits", "page"] ["pages", "ways"] (defScope s_number_of_orders) := ⟨rfl, rfl, rfl, by decide +kernel, rfl, by decide +kernel, by decide +kernel⟩
abbrev s_next_pages : Stmt := topS 23
theorem sc_next_pages : FnScope ["site", "bits", "trail", "able", "page"] ["site", "bits", "trail"] (defScope s_next_pages) := ⟨rfl, rfl, rfl, by decide +kernel, rfl, by decide +kernel, by decide +kernel⟩
abbrev s_count_orders : Stmt := topS 24
theorem sc_count_orders : FnScope ["site", "pages"] ["site", "pages"] (defScope s_count_orders) := ⟨rfl, rfl, rfl, by decide +kernel, rfl, by decide +kernel, by decide +kernel⟩
abbrev s_nth_order : Stmt := topS 25
theorem sc_nth_order : FnScope ["site", "pages", "index", "ways", "bits", "found", "able", "at"] ["site", "pages", "index"] (defScope s_nth_order) := ⟨rfl, rfl, rfl, by decide +kernel, rfl, by decide +kernel, by decide +kernel⟩
abbrev s_order_rank : Stmt := topS 26
theorem sc_order_rank : FnScope ["site", "trail", "ways", "bits", "rank", "turn", "page", "other"] ["site", "trail"] (defScope s_order_rank) := ⟨rfl, rfl, rfl, by decide +kernel, rfl, by decide +kernel, by decide +kernel⟩
abbrev s_law_pool : Stmt := topS 28
theorem sc_law_pool : FnScope ["_law_script", "_law_k", "_law_cell"] ["_law_script", "_law_k"] (defScope s_law_pool) := ⟨rfl, rfl, rfl, by decide +kernel, rfl, by decide +kernel, by decide +kernel⟩
abbrev s_law_draw : Stmt := topS 29
theorem sc_law_draw : FnScope ["_law_pool_here", "_law_many", "_law_mixed", "_law_digit"] ["_law_pool_here", "_law_many"] (defScope s_law_draw) := ⟨rfl, rfl, rfl, by decide +kernel, rfl, by decide +kernel, by decide +kernel⟩
abbrev s_law_net : Stmt := topS 30
theorem sc_law_net : FnScope ["_law_pool_here", "_law_script", "_law_most", "_law_share", "_law_found", "_law_spot", "_law_many", "_law_style", "_law_row", "_law_far", "_law_hit", "_law_able"] ["_law_pool_here", "_law_script", "_law_most"] (defScope s_law_net) := ⟨rfl, rfl, rfl, by decide +kernel, rfl, by decide +kernel, by decide +kernel⟩
abbrev s_law_every : Stmt := topS 31
theorem sc_law_every : FnScope ["_law_net_here", "_law_some", "_law_rows", "_law_turn", "_law_longer", "_law_row", "_law_far"] ["_law_net_here", "_law_some"] (defScope s_law_every) := ⟨rfl, rfl, rfl, by decide +kernel, rfl, by decide +kernel, by decide +kernel⟩
abbrev s_law_right : Stmt := topS 32
theorem sc_law_right : FnScope ["_law_net_here", "_law_some", "_law_many", "_law_before", "_law_due", "_law_at", "_law_row", "_law_told"] ["_law_net_here", "_law_some"] (defScope s_law_right) := ⟨rfl, rfl, rfl, by decide +kernel, rfl, by decide +kernel, by decide +kernel⟩
abbrev s_law : Stmt := topS 33
theorem sc_law : FnScope ["_law_script", "_law_k", "_law_pool_here", "_law_net_here", "_law_turn", "_law_left", "_law_some", "_law_at", "_law_row", "_law_far"] ["_law_script"] (defScope s_law) := ⟨rfl, rfl, rfl, by decide +kernel, rfl, by decide +kernel, by decide +kernel⟩
structure Txt (K : PySem.W.Frag) (mg : Str → Option Value) where
  f_is_integer : Addr
  fd_is_integer : FuncData
  F_is_integer : Fun K "is_integer" "is_integer" s_is_integer f_is_integer fd_is_integer
  m_is_integer : mg "is_integer" = some (.ref f_is_integer)
  b_is_integer : Binds K fd_is_integer ["value", "least", "most"] []
  f_check_number : Addr
  fd_check_number : FuncData
  F_check_number : Fun K "check_number" "check_number" s_check_number f_check_number fd_check_number
  m_check_number : mg "check_number" = some (.ref f_check_number)
  b_check_number : Binds K fd_check_number ["value", "least", "most"] []
  f_is_row : Addr
  fd_is_row : FuncData
  F_is_row : Fun K "is_row" "is_row" s_is_row f_is_row fd_is_row
  m_is_row : mg "is_row" = some (.ref f_is_row)
  b_is_row : Binds K fd_is_row ["value", "page", "many"] []
  f_is_site : Addr
  fd_is_site : FuncData
  F_is_site : Fun K "is_site" "is_site" s_is_site f_is_site fd_is_site
  m_is_site : mg "is_site" = some (.ref f_is_site)
  b_is_site : Binds K fd_is_site ["value"] []
  f_check_site : Addr
  fd_check_site : FuncData
  F_check_site : Fun K "check_site" "check_site" s_check_site f_check_site fd_check_site
  m_check_site : mg "check_site" = some (.ref f_check_site)
  b_check_site : Binds K fd_check_site ["site"] []
  f_check_pages : Addr
  fd_check_pages : FuncData
  F_check_pages : Fun K "check_pages" "check_pages" s_check_pages f_check_pages fd_check_pages
  m_check_pages : mg "check_pages" = some (.ref f_check_pages)
  b_check_pages : Binds K fd_check_pages ["site", "pages"] []
  f_is_linked_on : Addr
  fd_is_linked_on : FuncData
  F_is_linked_on : Fun K "is_linked_on" "is_linked_on" s_is_linked_on f_is_linked_on fd_is_linked_on
  m_is_linked_on : mg "is_linked_on" = some (.ref f_is_linked_on)
  b_is_linked_on : Binds K fd_is_linked_on ["site", "value"] []
  f_is_trail_on : Addr
  fd_is_trail_on : FuncData
  F_is_trail_on : Fun K "is_trail_on" "is_trail_on" s_is_trail_on f_is_trail_on fd_is_trail_on
  m_is_trail_on : mg "is_trail_on" = some (.ref f_is_trail_on)
  b_is_trail_on : Binds K fd_is_trail_on ["site", "value"] []
  f_bits_of : Addr
  fd_bits_of : FuncData
  F_bits_of : Fun K "bits_of" "bits_of" s_bits_of f_bits_of fd_bits_of
  m_bits_of : mg "bits_of" = some (.ref f_bits_of)
  b_bits_of : Binds K fd_bits_of ["pages"] []
  f_has_bit : Addr
  fd_has_bit : FuncData
  F_has_bit : Fun K "has_bit" "has_bit" s_has_bit f_has_bit fd_has_bit
  m_has_bit : mg "has_bit" = some (.ref f_has_bit)
  b_has_bit : Binds K fd_has_bit ["bits", "page"] []
  f_ways_on : Addr
  fd_ways_on : FuncData
  F_ways_on : Fun K "ways_on" "ways_on" s_ways_on f_ways_on fd_ways_on
  m_ways_on : mg "ways_on" = some (.ref f_ways_on)
  b_ways_on : Binds K fd_ways_on ["site", "pages"] []
  f_number_behind : Addr
  fd_number_behind : FuncData
  F_number_behind : Fun K "number_behind" "number_behind" s_number_behind f_number_behind fd_number_behind
  m_number_behind : mg "number_behind" = some (.ref f_number_behind)
  b_number_behind : Binds K fd_number_behind ["ways", "bits", "page"] []
  f_number_of_orders : Addr
  fd_number_of_orders : FuncData
  F_number_of_orders : Fun K "number_of_orders" "number_of_orders" s_number_of_orders f_number_of_orders fd_number_of_orders
  m_number_of_orders : mg "number_of_orders" = some (.ref f_number_of_orders)
  b_number_of_orders : Binds K fd_number_of_orders ["pages", "ways"] []
  f_next_pages : Addr
  fd_next_pages : FuncData
  F_next_pages : Fun K "next_pages" "next_pages" s_next_pages f_next_pages fd_next_pages
  m_next_pages : mg "next_pages" = some (.ref f_next_pages)
  b_next_pages : Binds K fd_next_pages ["site", "bits", "trail"] []
  f_count_orders : Addr
  fd_count_orders : FuncData
  F_count_orders : Fun K "count_orders" "count_orders" s_count_orders f_count_orders fd_count_orders
  m_count_orders : mg "count_orders" = some (.ref f_count_orders)
  b_count_orders : Binds K fd_count_orders ["site", "pages"] []
  f_nth_order : Addr
  fd_nth_order : FuncData
  F_nth_order : Fun K "nth_order" "nth_order" s_nth_order f_nth_order fd_nth_order
  m_nth_order : mg "nth_order" = some (.ref f_nth_order)
  b_nth_order : Binds K fd_nth_order ["site", "pages", "index"] []
  f_order_rank : Addr
  fd_order_rank : FuncData
  F_order_rank : Fun K "order_rank" "order_rank" s_order_rank f_order_rank fd_order_rank
  m_order_rank : mg "order_rank" = some (.ref f_order_rank)
  b_order_rank : Binds K fd_order_rank ["site", "trail"] []
  f_law_pool : Addr
  fd_law_pool : FuncData
  F_law_pool : Fun K "_law_pool" "_law_pool" s_law_pool f_law_pool fd_law_pool
  m_law_pool : mg "_law_pool" = some (.ref f_law_pool)
  b_law_pool : Binds K fd_law_pool ["_law_script", "_law_k"] []
  f_law_draw : Addr
  fd_law_draw : FuncData
  F_law_draw : Fun K "_law_draw" "_law_draw" s_law_draw f_law_draw fd_law_draw
  m_law_draw : mg "_law_draw" = some (.ref f_law_draw)
  b_law_draw : Binds K fd_law_draw ["_law_pool_here", "_law_many"] []
  f_law_net : Addr
  fd_law_net : FuncData
  F_law_net : Fun K "_law_net" "_law_net" s_law_net f_law_net fd_law_net
  m_law_net : mg "_law_net" = some (.ref f_law_net)
  b_law_net : Binds K fd_law_net ["_law_pool_here", "_law_script", "_law_most"] []
  f_law_every : Addr
  fd_law_every : FuncData
  F_law_every : Fun K "_law_every" "_law_every" s_law_every f_law_every fd_law_every
  m_law_every : mg "_law_every" = some (.ref f_law_every)
  b_law_every : Binds K fd_law_every ["_law_net_here", "_law_some"] []
  f_law_right : Addr
  fd_law_right : FuncData
  F_law_right : Fun K "_law_right" "_law_right" s_law_right f_law_right fd_law_right
  m_law_right : mg "_law_right" = some (.ref f_law_right)
  b_law_right : Binds K fd_law_right ["_law_net_here", "_law_some"] []
  f_law : Addr
  fd_law : FuncData
  F_law : Fun K "law" "law" s_law f_law fd_law
  m_law : mg "law" = some (.ref f_law)
  b_law : Binds K fd_law ["_law_script"] []
  k_count_orders_0_1_0 : KBinds K fd_count_orders ["site", "pages"] ["pages", "site"] (kg .none 0 2 [1, 0]) (kg .non 0 2 [1, 0])
  k_nth_order_0_2_1_0 : KBinds K fd_nth_order ["site", "pages", "index"] ["index", "pages", "site"] (kg .none 0 3 [2, 1, 0]) (kg .non 0 3 [2, 1, 0])
  k_order_rank_0_1_0 : KBinds K fd_order_rank ["site", "trail"] ["trail", "site"] (kg .none 0 2 [1, 0]) (kg .non 0 2 [1, 0])
  a_BITS : Addr
  c_BITS : mg "BITS" = some (.ref a_BITS)
  s_BITS : TupK K a_BITS [1, 2, 4, 8, 16, 32, 64, 128, 256, 512, 1024, 2048]
  t_MOST_PAGES : Tok
  c_MOST_PAGES : mg "MOST_PAGES" = some (.int 12 t_MOST_PAGES)
  n_abs : mg "abs" = none
  n_all : mg "all" = none
  n_bool : mg "bool" = none
  n_dict : mg "dict" = none
  n_enumerate : mg "enumerate" = none
  n_int : mg "int" = none
  n_isinstance : mg "isinstance" = none
  n_len : mg "len" = none
  n_list : mg "list" = none
  n_max : mg "max" = none
  n_min : mg "min" = none
  n_range : mg "range" = none
  n_repr : mg "repr" = none
  n_set : mg "set" = none
  n_sorted : mg "sorted" = none
  n_sum : mg "sum" = none
  n_zip : mg "zip" = none
local macro_rules | `(tactic| walk_at "sx") => `(tactic| try simp only [x_dcT, x_dc, x_updT, x_iitemsT, x_dispT1, x_valsT, x_lockT, SL.x_yfor, SL.x_yplain, SL.x_ythen, SL.x_y0, SL.x_yyield, SL.x_ywhile, SL.x_callY, SL.x_callYK, x_gwhile, x_callG, x_g0, x_gfor, x_gplain, x_gthen, x_gyield, x_listG, x_dnewT, x_dget, x_dget2, x_dput, x_seq, x_next, x_brk, x_cnt, x_nev, x_ret, x_retN, x_drop, x_ifS, x_asg, x_gn, x_gsub, x_par, x_par3, x_aug, x_for, x_lc, x_rng1, x_rng2, x_rng3, x_ilist, x_itup, x_ienum, x_izip, x_izipA, x_istr, x_var, x_c, x_op, x_un, x_test, x_b, x_chain, x_and, x_or, x_not, x_andV, x_orV, x_notV, x_ife, x_nil, x_cons, x_lst, x_tup, x_cb, x_call, x_callK, x_bm, x_bm0, x_tru, x_sl, x_nopart, x_part, x_revL, x_I0, x_I, x_U, x_ip, x_ipC, x_eqI, x_neI, x_eqB, x_neB, x_eqS, x_neS, x_isB, x_isNB, x_lrg, x_gall, x_lenSet, x_augS, x_sortSet, x_rg1, x_rg2,
  L2.start, List.map_cons, List.map_nil, List.length_cons, List.length_nil, Nat.reduceAdd, Nat.reduceSub, Nat.sub_self, Nat.zero_add, List.replicate, List.replicate_succ, List.replicate_zero, List.append_nil, List.cons_append, List.nil_append, List.set_cons_zero, List.set_cons_succ, List.getElem?_cons_zero, List.getElem?_cons_succ, Option.some.injEq, V.int.injEq, V.bl.injEq, V.ref.injEq, V.str.injEq, List.cons.injEq, and_true, true_and, exists_eq_left', exists_eq_left, exists_and_left, exists_eq, if_true, if_false, ite_true, ite_false, Bool.true_eq_false, Bool.false_eq_true, reduceIte, reduceCtorEq, Bool.not_true, Bool.not_false, decide_true, decide_false, decide_eq_true_eq, Bool.and_true, Bool.true_and, Bool.and_self, Bool.and_false, Bool.false_and, Bool.or_self, Bool.or_false, Bool.false_or, Bool.or_true, Bool.true_or, eq_self])
section
variable {P : Program} {w : World} {K : PySem.W.Frag} {mg : Str → Option Value} {base : Heap}
def spIsInt : Sp := fun vs H Q _ => ∃ i lo hi : Int, vs = [.int i, .int lo, .int hi] ∧ Q (.bl (decide (lo ≤ i) && decide (i ≤ hi))) H
theorem ok_is_integer (T : Txt K mg) : FnOk P w K mg base CX0 1 T.f_is_integer T.fd_is_integer ["value", "least", "most"] spIsInt := by
  refine T.F_is_integer.ok sc_is_integer (fun vs H Q E h => ?_) (fun cdv A outer s H vs Q E hr h => ?_)
  · obtain ⟨i, lo, hi, rfl, _⟩ := h
    rfl
  · obtain ⟨i, lo, hi, rfl, k⟩ := h
    apply Exists.intro
    apply And.intro
    · apply pss_one
      exact (ps_ret (pe_and (pe_callB (k_isi (K := K) rfl) (by rfl) T.n_isinstance (by decide +kernel) (pa_cons (pv 0) (pa_cons (pe_bltn (v := .ty "int") (by rfl) T.n_int (by decide +kernel) rfl) pa_nil))) (pe_and (pe_not (pe_callB (k_isi (K := K) rfl) (by rfl) T.n_isinstance (by decide +kernel) (pa_cons (pv 0) (pa_cons (pe_bltn (v := .ty "bool") (by rfl) T.n_bool (by decide +kernel) rfl) pa_nil)))) (pe_one (pe_chain op_le op_le (pv 1) (pv 0) (pv 2))))))
    walk_at "sx"
    refine isi_int (b := true) (by decide +kernel) ?_
    walk_at "sx"
    refine isi_int (b := false) (by decide +kernel) ?_
    walk_at "sx"
    by_cases h1 : lo ≤ i
    · simpa [h1] using k
    · simpa [h1] using k
end
section
variable {P : Program} {w : World} {K : PySem.W.Frag} {mg : Str → Option Value} {base : Heap}
def spChk : Sp := fun vs H Q _ => ∃ i lo hi : Int, vs = [.int i, .int lo, .int hi] ∧ lo ≤ i ∧ i ≤ hi ∧ Q .non H
theorem ok_check_number (T : Txt K mg) : FnOk P w K mg base CX0 2 T.f_check_number T.fd_check_number ["value", "least", "most"] spChk := by
  refine T.F_check_number.ok sc_check_number (fun vs H Q E h => ?_) (fun cdv A outer s H vs Q E hr h => ?_)
  · obtain ⟨i, lo, hi, rfl, _⟩ := h
    rfl
  · obtain ⟨i, lo, hi, rfl, h1, h2, k⟩ := h
    apply Exists.intro
    apply And.intro
    · apply pss_one
      apply ps_if
      · exact (pt_not (pt_val (pe_call (ok_is_integer T) (hr.mono (by decide)) (by rfl) T.m_is_integer T.F_is_integer.kp T.b_is_integer .nil pass0 (pa_cons (pv 0) (pa_cons (pv 1) (pa_cons (pv 2) pa_nil))))))
      · apply pss_one
        exact ps_never
      · exact pss_nil
    walk_at "sx"
    refine ⟨i, lo, hi, rfl, ?_⟩
    simp only [h1, h2]
    walk_at "sx"
    exact k
end
/-! ### sites.py on sites -/
section
variable {P : Program} {w : World} {K : PySem.W.Frag} {mg : Str → Option Value} {base : Heap}
def spIsRow (K : PySem.W.Frag) : Sp := fun vs H Q _ => ∃ (a : Addr) (r : List Nat) (i n : Nat), vs = [.ref a, .int i, .int n] ∧ SqL K H a ((nz r).map V.int) ∧ r.Pairwise (· < ·) ∧ (∀ x ∈ r, x < n) ∧ i ∉ r ∧ r.length ≤ 12 ∧ ∀ H', Ex H H' → Q (.bl true) H'
theorem bl_true (n : Nat) : List.replicate n (V.bl true) = (List.replicate n true).map V.bl := by rw [List.map_replicate]
theorem ok_is_row (T : Txt K mg) : FnOk P w K mg base CX0 2 T.f_is_row T.fd_is_row ["value", "page", "many"] (spIsRow K) := by
  refine T.F_is_row.ok sc_is_row (fun vs H Q E h => ?_) (fun cdv A outer s H vs Q E hr h => ?_)
  · obtain ⟨a, r, i, n, rfl, _⟩ := h
    rfl
  · obtain ⟨a, r, i, n, rfl, hA, asc, lt, no, hl, k⟩ := h
    apply Exists.intro
    apply And.intro
    · apply pss_cons
      · apply ps_if
        · exact (PW.pt (pw_or (pt_not (pt_val (pe_callB (k_isi (K := K) rfl) (by rfl) T.n_isinstance (by decide +kernel) (pa_cons (pv 0) (pa_cons (pe_bltn (v := .ty "list") (by rfl) T.n_list (by decide +kernel) rfl) pa_nil))))) (pw_or1 (pt_not (pt_val (pe_callB (k_all (K := K) rfl rfl) (by rfl) T.n_all (by decide +kernel) (pa_cons (pe_lc (own := [("other", 3)]) rfl sc_is_row.nd (k_pi_list (K := K) rfl (pv 0)) (blkOk_by (own := [("other", 3)]) (N := ["value", "page", "many", "other"]) (sc := defScope s_is_row) (by decide +kernel)) (fun _ _ _ _ _ => by exact (pg_name (i := 3) sc_is_row.nd rfl (.inl rfl))) (fun _ _ _ _ _ => by exact pts_nil) (fun _ _ _ _ _ => by exact (pe_call (ok_is_integer T) (hr.mono (by decide)) (by rfl) T.m_is_integer T.F_is_integer.kp T.b_is_integer .nil pass0 (pa_cons (pv 3) (pa_cons pe_int (pa_cons (pe_op op_sub (pv 2) pe_int) pa_nil)))))) pa_nil)))))))
        · apply pss_one
          exact (ps_ret pe_bl)
        · exact pss_nil
      apply pss_one
      exact (ps_ret (pe_and (pe_cmpR (k_notIn (K := K) rfl) (pv 1) (pv 0) (by rfl)) (pe_one (pe_cmpR (k_eqD (K := K) rfl hr.units) (pv 0) (k_sortSet (K := K) rfl (by rfl) T.n_sorted (by rfl) T.n_set (pv 0)) (by rfl)))))
    walk_at "sx"
    refine isi_x (b := true) (tyx_l hA) (by decide +kernel) ?_
    walk_at "sx"
    refine ⟨⟨_, hA⟩, fun D nD => ?_⟩
    refine lc_list (fun _ => true) (fun _ => V.bl true) hA nD (by rw [List.length_map, nz_len]; omega) (fun u => rfl) (fun i x _ => tyes) (fun i x hx _ => ?_) (fun H2 e2 hD => ?_)
    · obtain ⟨x, hx', rfl⟩ := at_nz hx
      have := lt x (List.mem_of_getElem? hx')
      intro H3 e3 R hR
      walk_at "sx"
      refine ⟨_, rfl, _, rfl, ?_⟩
      walk_at "sx"
      refine ⟨_, _, _, rfl, ?_⟩
      rw [decide_eq_true (show (0 : Int) ≤ (x : Int) by omega), decide_eq_true (show ((x : Nat) : Int) ≤ (n : Int) - 1 by omega)]
      exact hR _ (Ex.refl _)
    · rw [kept_const, bl_true] at hD
      refine allL (.inl (.inl hD)) ?_
      rw [all_true]
      walk_at "sx"
      have hA2 := ex_l e2 hA
      refine ninL hA2 ?_
      rw [decide_eq_false (fun m => no (nz_mem.mp m))]
      walk_at "sx"
      refine ⟨_, hA2, by rw [nz_len]; omega, fun ms p pw mem np => ?_⟩
      have ep := Ex.new np (o := .lst (ms.map V.int))
      obtain rfl := asc_same pw (lts asc) mem
      refine eqInts (ex_l ep hA2) (.inl (.inl upd_same)) ?_
      rw [decide_eq_true rfl]
      exact k _ (e2.trans ep)
def spIsSite (K : PySem.W.Frag) : Sp := fun vs H Q _ => ∃ (s : Addr) (G : Grid), vs = [.ref s] ∧ GridAt H s G ∧ SiteOk G ∧ ∀ H', Ex H H' → Q (.bl true) H'
theorem ok_is_site (T : Txt K mg) : FnOk P w K mg base CX0 3 T.f_is_site T.fd_is_site ["value"] (spIsSite K) := by
  refine T.F_is_site.ok sc_is_site (fun vs H Q E h => ?_) (fun cdv A outer s H vs Q E hr h => ?_)
  · obtain ⟨s, G, rfl, _⟩ := h
    rfl
  · obtain ⟨s, G, rfl, hS, ok, k⟩ := h
    apply Exists.intro
    apply And.intro
    · apply pss_cons
      · apply ps_if
        · exact (PW.pt (pw_or (pt_not (pt_val (pe_callB (k_isi (K := K) rfl) (by rfl) T.n_isinstance (by decide +kernel) (pa_cons (pv 0) (pa_cons (pe_bltn (v := .ty "list") (by rfl) T.n_list (by decide +kernel) rfl) pa_nil))))) (pw_or1 (pt_not (pt_chain op_le op_le pe_int (pe_callB (k_len (K := K) rfl) (by rfl) T.n_len PySem.boot_len (pa_cons (pv 0) pa_nil)) (pe_glob (v := .int 12) rfl T.c_MOST_PAGES ⟨_, rfl⟩))))))
        · apply pss_one
          exact (ps_ret pe_bl)
        · exact pss_nil
      apply pss_one
      exact (ps_ret (pe_callB (k_all (K := K) rfl rfl) (by rfl) T.n_all (by decide +kernel) (pa_cons (pe_lc (own := [("page", 1), ("row", 2)]) rfl sc_is_site.nd (k_pi_enum (K := K) rfl (by rfl) T.n_enumerate (pa_cons (pv 0) pa_nil)) (blkOk_by (own := [("page", 1), ("row", 2)]) (N := ["value", "page", "row"]) (sc := defScope s_is_site) (by decide +kernel)) (fun _ _ _ _ _ => by exact (k_tup (K := K) (n := 2) rfl rfl (pgs_cons (pg_name (i := 1) sc_is_site.nd rfl (.inl rfl)) (pgs_cons (pg_name (i := 2) sc_is_site.nd rfl (.inl rfl)) pgs_nil)))) (fun _ _ _ _ _ => by exact pts_nil) (fun _ _ _ _ _ => by exact (pe_call (ok_is_row T) (hr.mono (by decide)) (by rfl) T.m_is_row T.F_is_row.kp T.b_is_row .nil pass0 (pa_cons (pv 2) (pa_cons (pv 1) (pa_cons (pe_callB (k_len (K := K) rfl) (by rfl) T.n_len PySem.boot_len (pa_cons (pv 0) pa_nil)) pa_nil)))))) pa_nil)))
    obtain ⟨xs, hs, hl, hrow⟩ := hS.lst
    have n1 := ok.n1
    have n2 := ok.n2
    walk_at "sx"
    refine isi_x (b := true) (tyx_l (.inl (.inl hs))) (by decide +kernel) ?_
    walk_at "sx"
    refine lenL (.inl (.inl hs)) ?_
    walk_at "sx"
    rw [hl]
    have c1 : (1 : Int) ≤ ((G.length : Nat) : Int) := by omega
    have c2 : ((G.length : Nat) : Int) ≤ 12 := by omega
    simp only [c1, c2]
    walk_at "sx"
    refine ⟨_, .inl (.inl hs), fun D nD => ?_⟩
    refine lc_enum (fun _ => true) (fun _ => V.bl true) (.inl (.inl hs)) nD (by omega) (fun u v => rfl) (fun i x _ => tyes) (fun i x hx _ => ?_) (fun H2 e2 hD => ?_)
    · obtain ⟨hi, p, rfl, hp⟩ := hrow i x hx
      intro H3 e3 R hR
      walk_at "sx"
      refine ⟨_, rfl, _, rfl, _, rfl, ?_⟩
      refine lenL (.inl (.inl (e3 _ _ hs))) ?_
      rw [hl]
      have at' := at_row hi
      refine ⟨p, row G i, i, G.length, rfl, .inl (.inl (e3 _ _ hp)), ok.asc i _ at', ok.lt i _ at', ok.no i _ at', ok.rlen i, fun H4 e4 => hR _ e4⟩
    · rw [kept_const, bl_true] at hD
      refine allL (.inl (.inl hD)) ?_
      rw [all_true]
      exact k _ e2
def spChkSite (K : PySem.W.Frag) : Sp := fun vs H Q _ => ∃ (s : Addr) (G : Grid), vs = [.ref s] ∧ GridAt H s G ∧ SiteOk G ∧ ∀ H', Ex H H' → Q .non H'
theorem ok_check_site (T : Txt K mg) : FnOk P w K mg base CX0 4 T.f_check_site T.fd_check_site ["site"] (spChkSite K) := by
  refine T.F_check_site.ok sc_check_site (fun vs H Q E h => ?_) (fun cdv A outer s H vs Q E hr h => ?_)
  · obtain ⟨s, G, rfl, _⟩ := h
    rfl
  · obtain ⟨s, G, rfl, hS, ok, k⟩ := h
    apply Exists.intro
    apply And.intro
    · apply pss_one
      apply ps_if
      · exact (pt_not (pt_val (pe_call (ok_is_site T) (hr.mono (by decide)) (by rfl) T.m_is_site T.F_is_site.kp T.b_is_site .nil pass0 (pa_cons (pv 0) pa_nil))))
      · apply pss_one
        exact ps_never
      · exact pss_nil
    walk_at "sx"
    refine ⟨s, G, rfl, hS, ok, fun H1 e1 => ?_⟩
    walk_at "sx"
    exact k _ e1
def spChkPage (K : PySem.W.Frag) : Sp := fun vs H Q _ => ∃ (s : Addr) (G : Grid) (p : Nat), vs = [.ref s, .int p] ∧ GridAt H s G ∧ p < G.length ∧ Q .non H
def spChkPages (K : PySem.W.Frag) : Sp := fun vs H Q _ => ∃ (s a : Addr) (G : Grid) (L : List Nat), vs = [.ref s, .ref a] ∧ GridAt H s G ∧ SqL K H a ((nz L).map V.int) ∧ L.Nodup ∧ (∀ x ∈ L, x < G.length) ∧ G.length ≤ 12 ∧ ∀ H', Ex H H' → Q .non H'
theorem ok_check_pages (T : Txt K mg) : FnOk P w K mg base CX0 2 T.f_check_pages T.fd_check_pages ["site", "pages"] (spChkPages K) := by
  refine T.F_check_pages.ok sc_check_pages (fun vs H Q E h => ?_) (fun cdv A outer s H vs Q E hr h => ?_)
  · obtain ⟨s, a, G, L, rfl, _⟩ := h
    rfl
  · obtain ⟨s, a, G, L, rfl, hS, hA, nd, lt, g12, k⟩ := h
    apply Exists.intro
    apply And.intro
    · apply pss_cons
      · apply ps_if
        · exact (PW.pt (pw_or (pt_not (pt_val (pe_callB (k_isi (K := K) rfl) (by rfl) T.n_isinstance (by decide +kernel) (pa_cons (pv 1) (pa_cons (pe_bltn (v := .ty "list") (by rfl) T.n_list (by decide +kernel) rfl) pa_nil))))) (pw_or1 (pt_not (pt_val (pe_callB (k_all (K := K) rfl rfl) (by rfl) T.n_all (by decide +kernel) (pa_cons (pe_lc (own := [("page", 2)]) rfl sc_check_pages.nd (k_pi_list (K := K) rfl (pv 1)) (blkOk_by (own := [("page", 2)]) (N := ["site", "pages", "page"]) (sc := defScope s_check_pages) (by decide +kernel)) (fun _ _ _ _ _ => by exact (pg_name (i := 2) sc_check_pages.nd rfl (.inl rfl))) (fun _ _ _ _ _ => by exact pts_nil) (fun _ _ _ _ _ => by exact (pe_call (ok_is_integer T) (hr.mono (by decide)) (by rfl) T.m_is_integer T.F_is_integer.kp T.b_is_integer .nil pass0 (pa_cons (pv 2) (pa_cons pe_int (pa_cons (pe_op op_sub (pe_callB (k_len (K := K) rfl) (by rfl) T.n_len PySem.boot_len (pa_cons (pv 0) pa_nil)) pe_int) pa_nil)))))) pa_nil)))))))
        · apply pss_one
          exact ps_never
        · exact pss_nil
      apply pss_one
      apply ps_if
      · exact (pt_cmpR op_ne (k_lenSet (K := K) rfl (by rfl) T.n_len (by rfl) T.n_set (pv 1)) (pe_callB (k_len (K := K) rfl) (by rfl) T.n_len PySem.boot_len (pa_cons (pv 1) pa_nil)) (by rfl))
      · apply pss_one
        exact ps_never
      · exact pss_nil
    obtain ⟨xs, hs, hl, hrow⟩ := hS.lst
    have ll := nodup_lt _ nd lt
    walk_at "sx"
    refine isi_x (b := true) (tyx_l hA) (by decide +kernel) ?_
    walk_at "sx"
    refine ⟨⟨_, hA⟩, fun D nD => ?_⟩
    refine lc_list (fun _ => true) (fun _ => V.bl true) hA nD (by rw [List.length_map, nz_len]; omega) (fun u => rfl) (fun i x _ => tyes) (fun i x hx _ => ?_) (fun H2 e2 hD => ?_)
    · obtain ⟨x, hx', rfl⟩ := at_nz hx
      have := lt x (List.mem_of_getElem? hx')
      intro H3 e3 R hR
      walk_at "sx"
      refine ⟨_, rfl, _, rfl, ?_⟩
      refine lenL (.inl (.inl (e3 _ _ hs))) ?_
      walk_at "sx"
      rw [hl]
      refine ⟨_, _, _, rfl, ?_⟩
      rw [decide_eq_true (show (0 : Int) ≤ (x : Int) by omega), decide_eq_true (show ((x : Nat) : Int) ≤ ((G.length : Nat) : Int) - 1 by omega)]
      exact hR _ (Ex.refl _)
    · rw [kept_const, bl_true] at hD
      refine allL (.inl (.inl hD)) ?_
      rw [all_true]
      walk_at "sx"
      have hA2 := ex_l e2 hA
      refine ⟨_, hA2, nz_nodup nd, by rw [nz_len]; omega, ?_⟩
      refine lenL hA2 ?_
      rw [List.length_map]
      walk_at "sx"
      exact k _ e2
end
section
variable {P : Program} {w : World} {K : PySem.W.Frag} {mg : Str → Option Value} {base : Heap}
/-- each page links to the next one -/
def linked (G : Grid) : List Nat → Bool
  | [] => true
  | [_] => true
  | p :: q :: l => decide (q ∈ row G p) && linked G (q :: l)
theorem linked_all (G : Grid) : ∀ l : List Nat, linked G l = ((List.range (l.length - 1)).map fun i => decide (l.getD (i + 1) 0 ∈ row G (l.getD i 0))).all id
  | [] => rfl
  | [_] => rfl
  | p :: q :: l => by
    have ih := linked_all G (q :: l)
    show (decide (q ∈ row G p) && linked G (q :: l)) = _
    rw [ih]
    show _ = ((List.range (l.length + 1)).map _).all id
    rw [List.range_succ_eq_map, List.map_cons, List.all_cons, List.map_map]
    rfl
def spLinked (K : PySem.W.Frag) : Sp := fun vs H Q _ => ∃ (s a : Addr) (G : Grid) (L : List Nat), vs = [.ref s, .ref a] ∧ GridAt H s G ∧ SqL K H a ((nz L).map V.int) ∧ L ≠ [] ∧ (∀ x ∈ L, x < G.length) ∧ L.length ≤ 1000 ∧ ∀ H', Ex H H' → Q (.bl (linked G L)) H'
theorem ok_is_linked_on (T : Txt K mg) : FnOk P w K mg base CX0 2 T.f_is_linked_on T.fd_is_linked_on ["site", "value"] (spLinked K) := by
  refine T.F_is_linked_on.ok sc_is_linked_on (fun vs H Q E h => ?_) (fun cdv A outer s H vs Q E hr h => ?_)
  · obtain ⟨s, a, G, L, rfl, _⟩ := h
    rfl
  · obtain ⟨s, a, G, L, rfl, hS, hA, ne, lt, ll, k⟩ := h
    apply Exists.intro
    apply And.intro
    · apply pss_cons
      · apply ps_if
        · exact (PW.pt (pw_or (pt_not (pt_val (pe_callB (k_isi (K := K) rfl) (by rfl) T.n_isinstance (by decide +kernel) (pa_cons (pv 1) (pa_cons (pe_bltn (v := .ty "list") (by rfl) T.n_list (by decide +kernel) rfl) pa_nil))))) (pw_or1 (pt_cmpR (k_eqD (K := K) rfl hr.units) (pv 1) (pe_lst pa_nil) (by rfl)))))
        · apply pss_one
          exact (ps_ret pe_bl)
        · exact pss_nil
      apply pss_cons
      · apply ps_if
        · exact (pt_not (pt_val (pe_callB (k_all (K := K) rfl rfl) (by rfl) T.n_all (by decide +kernel) (pa_cons (pe_lc (own := [("page", 2)]) rfl sc_is_linked_on.nd (k_pi_list (K := K) rfl (pv 1)) (blkOk_by (own := [("page", 2)]) (N := ["site", "value", "page", "other"]) (sc := defScope s_is_linked_on) (by decide +kernel)) (fun _ _ _ _ _ => by exact (pg_name (i := 2) sc_is_linked_on.nd rfl (.inl rfl))) (fun _ _ _ _ _ => by exact pts_nil) (fun _ _ _ _ _ => by exact (pe_call (ok_is_integer T) (hr.mono (by decide)) (by rfl) T.m_is_integer T.F_is_integer.kp T.b_is_integer .nil pass0 (pa_cons (pv 2) (pa_cons pe_int (pa_cons (pe_op op_sub (pe_callB (k_len (K := K) rfl) (by rfl) T.n_len PySem.boot_len (pa_cons (pv 0) pa_nil)) pe_int) pa_nil)))))) pa_nil))))
        · apply pss_one
          exact (ps_ret pe_bl)
        · exact pss_nil
      apply pss_one
      exact (ps_ret (pe_callB (k_all (K := K) rfl rfl) (by rfl) T.n_all (by decide +kernel) (pa_cons (pe_lc (own := [("page", 2), ("other", 3)]) rfl sc_is_linked_on.nd (k_pi_zipA (K := K) rfl (by rfl) T.n_zip (pa_cons (pv 1) (pa_cons (pe_slice (k_sl_list (K := K) rfl) (pv 1) (po_some pe_int) po_none) pa_nil))) (blkOk_by (own := [("page", 2), ("other", 3)]) (N := ["site", "value", "page", "other"]) (sc := defScope s_is_linked_on) (by decide +kernel)) (fun _ _ _ _ _ => by exact (k_tup (K := K) (n := 2) rfl rfl (pgs_cons (pg_name (i := 2) sc_is_linked_on.nd rfl (.inl rfl)) (pgs_cons (pg_name (i := 3) sc_is_linked_on.nd rfl (.inl rfl)) pgs_nil)))) (fun _ _ _ _ _ => by exact pts_nil) (fun _ _ _ _ _ => by exact (pe_cmpR (k_in (K := K) rfl) (pv 3) (pe_ix (k_ix_list (K := K) rfl) (pv 0) (pv 2) (fun _ _ => rfl)) (by rfl)))) pa_nil)))
    obtain ⟨xs, hs, hl, hrow⟩ := hS.lst
    have lp := List.length_pos_iff.mpr ne
    walk_at "sx"
    refine isi_x (b := true) (tyx_l hA) (by decide +kernel) ?_
    walk_at "sx"
    refine ⟨sz_ok (by omega), fun z nz1 => ?_⟩
    have e0 := Ex.new nz1 (o := .lst [])
    refine eqInts (ms := []) (ex_l e0 hA) (.inl (.inl upd_same)) ?_
    rw [decide_eq_false (fun e => ne (by unfold nz at e; exact List.map_eq_nil_iff.mp e))]
    walk_at "sx"
    have hA1 := ex_l e0 hA
    have hs1 := e0 _ _ hs
    refine ⟨⟨_, hA1⟩, fun D nD => ?_⟩
    refine lc_list (fun _ => true) (fun _ => V.bl true) hA1 nD (by rw [List.length_map, nz_len]; omega) (fun u => rfl) (fun i x _ => tyes) (fun i x hx _ => ?_) (fun H2 e2 hD => ?_)
    · obtain ⟨x, hx', rfl⟩ := at_nz hx
      have := lt x (List.mem_of_getElem? hx')
      intro H3 e3 R hR
      walk_at "sx"
      refine ⟨_, rfl, _, rfl, ?_⟩
      refine lenL (.inl (.inl (e3 _ _ hs1))) ?_
      walk_at "sx"
      rw [hl]
      refine ⟨_, _, _, rfl, ?_⟩
      rw [decide_eq_true (show (0 : Int) ≤ (x : Int) by omega), decide_eq_true (show ((x : Nat) : Int) ≤ ((G.length : Nat) : Int) - 1 by omega)]
      exact hR _ (Ex.refl _)
    · rw [kept_const, bl_true] at hD
      refine allL (.inl (.inl hD)) ?_
      rw [all_true]
      walk_at "sx"
      have hA2 := ex_l e2 hA1
      have hs2 := e2 _ _ hs1
      have e02 := e0.trans e2
      refine slL hA2 fun y ny => ?_
      have ey := Ex.new ny (o := .lst (cutV ((nz L).map V.int) (some 1) none))
      have hy : (upd H2 y (.lst (cutV ((nz L).map V.int) (some 1) none))) y = some (.lst (((nz L).map V.int).drop 1)) := by rw [upd_same, cutV_from1]
      generalize (upd H2 y (.lst (cutV ((nz L).map V.int) (some 1) none))) = H3 at ey hy ⊢
      refine ⟨_, _, ⟨rfl, rfl⟩, _, _, .inl ⟨ex_l ey hA2, .inl (.inl hy), fun D2 nD2 => ?_⟩⟩
      refine lc_zipM (L.length - 1) (fun _ => true) (fun i => V.bl (decide (L.getD (i + 1) 0 ∈ row G (L.getD i 0)))) (ex_l ey hA2) (.inl (.inl hy)) (by rw [List.length_map, nz_len]; omega) (by rw [List.length_drop, List.length_map, nz_len]; omega) (.inr (by rw [List.length_drop, List.length_map, nz_len])) nD2 (by omega) (fun u v => rfl) (fun i u v _ _ => tyes) (fun i u v hu hv _ => ?_) (fun H4 e4 hD2 => ?_)
      · rw [List.getElem?_drop] at hv
        obtain ⟨p, hp, rfl⟩ := at_nz hu
        obtain ⟨q, hq, rfl⟩ := at_nz hv
        have pl := lt p (List.mem_of_getElem? hp)
        obtain ⟨r, rs, g1, g2, g3, g4⟩ := ((hS.ex e02).ex ey).get pl
        intro H5 e5 R hR
        walk_at "sx"
        refine ⟨_, rfl, _, rfl, _, rfl, ?_⟩
        refine ixL (.inl (.inl (e5 _ _ g1))) (atI_n rfl g3) ?_
        refine inL (.inl (.inl (e5 _ _ g4))) ?_
        rw [List.getD_eq_getElem?_getD, List.getD_eq_getElem?_getD, hp, Nat.add_comm i 1, hq] at hR
        have e : decide (((q : Nat) : Int) ∈ nz (row G p)) = decide (q ∈ row G p) := by
          by_cases z : q ∈ row G p
          · rw [decide_eq_true z, decide_eq_true (nz_mem.mpr z)]
          · rw [decide_eq_false z, decide_eq_false (fun m => z (nz_mem.mp m))]
        rw [e]
        exact hR _ (Ex.refl _)
      · rw [kept_all] at hD2
        have e5 : (List.range (L.length - 1)).map (fun i => V.bl (decide (L.getD (i + 1) 0 ∈ row G (L.getD i 0)))) = ((List.range (L.length - 1)).map fun i => decide (L.getD (i + 1) 0 ∈ row G (L.getD i 0))).map V.bl := by rw [List.map_map]; rfl
        rw [e5] at hD2
        refine allL (.inl (.inl hD2)) ?_
        rw [← linked_all]
        exact k _ ((e02.trans ey).trans e4)
def spWalkOn (K : PySem.W.Frag) : Sp := fun vs H Q _ => ∃ (s a : Addr) (G : Grid) (L : List Nat), vs = [.ref s, .ref a] ∧ GridAt H s G ∧ SqL K H a ((nz L).map V.int) ∧ L ≠ [] ∧ (∀ x ∈ L, x < G.length) ∧ L.length ≤ 61 ∧ ∀ H', Ex H H' → Q (.bl (linked G L)) H'
def TrOn (G : Grid) (L : List Nat) : Prop := L ≠ [] ∧ (∀ x ∈ L, x < G.length) ∧ L.Nodup ∧ linked G L = true
def spTrailOn (K : PySem.W.Frag) : Sp := fun vs H Q _ => ∃ (s a : Addr) (G : Grid) (L : List Nat), vs = [.ref s, .ref a] ∧ GridAt H s G ∧ SqL K H a ((nz L).map V.int) ∧ TrOn G L ∧ L.length ≤ 1000 ∧ ∀ H', Ex H H' → Q (.bl true) H'
theorem ok_is_trail_on (T : Txt K mg) : FnOk P w K mg base CX0 3 T.f_is_trail_on T.fd_is_trail_on ["site", "value"] (spTrailOn K) := by
  refine T.F_is_trail_on.ok sc_is_trail_on (fun vs H Q E h => ?_) (fun cdv A outer s H vs Q E hr h => ?_)
  · obtain ⟨s, a, G, L, rfl, _⟩ := h
    rfl
  · obtain ⟨s, a, G, L, rfl, hS, hA, ⟨ne, lt, nd, lk⟩, ll, k⟩ := h
    apply Exists.intro
    apply And.intro
    · apply pss_one
      exact (ps_ret (pe_and (pe_call (ok_is_linked_on T) (hr.mono (by decide)) (by rfl) T.m_is_linked_on T.F_is_linked_on.kp T.b_is_linked_on .nil pass0 (pa_cons (pv 0) (pa_cons (pv 1) pa_nil))) (pe_one (pe_cmpR op_eq (k_lenSet (K := K) rfl (by rfl) T.n_len (by rfl) T.n_set (pv 1)) (pe_callB (k_len (K := K) rfl) (by rfl) T.n_len PySem.boot_len (pa_cons (pv 1) pa_nil)) (by rfl)))))
    walk_at "sx"
    refine ⟨s, a, G, L, rfl, hS, hA, ne, lt, ll, fun H1 e1 => ?_⟩
    rw [lk]
    walk_at "sx"
    have hA1 := ex_l e1 hA
    refine ⟨nz L, hA1, by unfold nz; exact List.Pairwise.map _ (fun a b h => by omega) nd, by rw [nz_len]; omega, lenL hA1 ?_⟩
    rw [List.length_map]
    refine x_eqI.mpr ?_
    rw [decide_eq_true rfl]
    exact k _ e1
end
end LW

set_option Elab.async false
set_option linter.all false
set_option maxRecDepth 100000
set_option maxHeartbeats 4000000
namespace LW
open PySem PySem.Spec PyProof.Rows L2 BC Evl TR
local macro_rules | `(tactic| walk_at "sx") => `(tactic| try simp only [x_dcT, x_dc, x_updT, x_iitemsT, x_dispT1, x_valsT, x_lockT, SL.x_yfor, SL.x_yplain, SL.x_ythen, SL.x_y0, SL.x_yyield, SL.x_ywhile, SL.x_callY, SL.x_callYK, x_gwhile, x_callG, x_g0, x_gfor, x_gplain, x_gthen, x_gyield, x_listG, x_dnewT, x_dget, x_dget2, x_dput, x_seq, x_next, x_brk, x_cnt, x_nev, x_ret, x_retN, x_drop, x_ifS, x_asg, x_gn, x_gsub, x_par, x_par3, x_aug, x_for, x_lc, x_rng1, x_rng2, x_rng3, x_ilist, x_itup, x_ienum, x_izip, x_izipA, x_istr, x_var, x_c, x_op, x_un, x_test, x_b, x_chain, x_and, x_or, x_not, x_andV, x_orV, x_notV, x_ife, x_nil, x_cons, x_lst, x_tup, x_cb, x_call, x_callK, x_bm, x_bm0, x_tru, x_sl, x_nopart, x_part, x_revL, x_I0, x_I, x_U, x_ip, x_ipC, x_eqI, x_neI, x_eqB, x_neB, x_eqS, x_neS, x_isB, x_isNB, x_lrg, x_gall, x_lenSet, x_augS, x_sortSet, x_rg1, x_rg2,
  L2.start, List.map_cons, List.map_nil, List.length_cons, List.length_nil, Nat.reduceAdd, Nat.reduceSub, Nat.sub_self, Nat.zero_add, List.replicate, List.replicate_succ, List.replicate_zero, List.append_nil, List.cons_append, List.nil_append, List.set_cons_zero, List.set_cons_succ, List.getElem?_cons_zero, List.getElem?_cons_succ, Option.some.injEq, V.int.injEq, V.bl.injEq, V.ref.injEq, V.str.injEq, List.cons.injEq, and_true, true_and, exists_eq_left', exists_eq_left, exists_and_left, exists_eq, if_true, if_false, ite_true, ite_false, Bool.true_eq_false, Bool.false_eq_true, reduceIte, reduceCtorEq, Bool.not_true, Bool.not_false, decide_true, decide_false, decide_eq_true_eq, Bool.and_true, Bool.true_and, Bool.and_self, Bool.and_false, Bool.false_and, Bool.or_self, Bool.or_false, Bool.false_or, Bool.or_true, Bool.true_or, eq_self])
section
variable {P : Program} {w : World} {K : PySem.W.Frag} {mg : Str → Option Value} {base : Heap}
def spPool (K : PySem.W.Frag) : Sp := fun vs H Q _ => ∃ (a : Addr) (ns : List Int) (k : Nat), vs = [.ref a, .int k] ∧ SqL K H a (ns.map V.int) ∧ ns.length ≤ 63 ∧ k < 64 ∧ ∀ p H', H p = none → Ex H H' → BagAt H' p 0 → Q (.ref p) H'
theorem ok_law_pool (T : Txt K mg) : FnOk P w K mg base CX0 1 T.f_law_pool T.fd_law_pool ["_law_script", "_law_k"] (spPool K) := by
  refine T.F_law_pool.ok sc_law_pool (fun vs H Q E h => ?_) (fun cdv A outer s H vs Q E hr h => ?_)
  · obtain ⟨a, ns, k, rfl, _⟩ := h
    rfl
  · obtain ⟨a, ns, i, rfl, hA, hl, hi, k⟩ := h
    apply Exists.intro
    apply And.intro
    · apply pss_cons
      · exact (ps_set (i := 2) sc_law_pool.nd rfl (.inl rfl) pe_int)
      apply pss_cons
      · apply ps_if
        · exact (pt_cmpR op_lt (pv 1) (pe_callB (k_len (K := K) rfl) (by rfl) T.n_len PySem.boot_len (pa_cons (pv 0) pa_nil)) (by rfl))
        · apply pss_one
          exact (ps_set (i := 2) sc_law_pool.nd rfl (.inl rfl) (pe_ix (k_ix_list (K := K) rfl) (pv 0) (pv 1) (fun _ _ => rfl)))
        · exact pss_nil
      apply pss_one
      exact (ps_ret (pe_lst (pa_cons (pe_callB (call_max2 rfl) (by rfl) T.n_max (by decide +kernel) (pa_cons pe_int (pa_cons (pe_op op_sub (pv 2) (pe_op op_powX pe_int pe_int)) pa_nil))) (pa_cons (pe_op op_add (pe_op op_mulX (pe_op op_modX (pv 2) (pe_op op_add (pe_op op_powX pe_int pe_int) pe_int)) pe_int) (pv 1)) (pa_cons pe_int pa_nil)))))
    refine seq_asg (fun v H' => v = .int 0 ∧ H' = H) (fun R hR => hR _ _ ⟨rfl, rfl⟩) (fun v H1 hC => ?_)
    obtain ⟨rfl, rfl⟩ := hC
    refine seq_cut (fun σ' H' => ∃ n : Int, σ' = [some (.ref a), some (.int i), some (.int n)] ∧ H' = H1) (fun N hN => ?_) (fun σ' H' hC => ?_)
    · walk_at "sx"
      refine lenL hA ?_
      walk_at "sx"
      rw [List.length_map]
      by_cases c : (i : Int) < (ns.length : Nat)
      · rw [if_pos c]
        have hx : ns[i]? = some ns[i] := List.getElem?_eq_getElem (by omega)
        exact ixL hA (atI_n rfl (at_ints hx)) (hN _ _ ⟨_, rfl, rfl⟩)
      · rw [if_neg c]
        exact hN _ _ ⟨_, rfl, rfl⟩
    obtain ⟨n, rfl, rfl⟩ := hC
    walk_at "sx"
    have t18 : Int.toNat 18 = 18 := rfl
    have t40 : Int.toNat 40 = 40 := rfl
    rw [t40]
    have m0 : 0 ≤ n % (10 ^ 40 + 121) := Int.emod_nonneg _ (by decide)
    have m1 : n % (10 ^ 40 + 121) < 10 ^ 40 + 121 := Int.emod_lt_of_pos _ (by decide)
    refine ⟨⟨by decide, by decide, by decide⟩, _, _, ⟨rfl, rfl⟩, ⟨by decide, by decide, by decide⟩, by decide, .inl (.inr ⟨by decide, by decide⟩), sz_ok (by omega), fun p np => ?_⟩
    refine k p _ np (Ex.new np) ⟨_, _, _, upd_same, by omega, by omega, by omega, by omega⟩
theorem ok_law_draw (T : Txt K mg) : FnOk P w K mg base CX0 1 T.f_law_draw T.fd_law_draw ["_law_pool_here", "_law_many"] spDraw := by
  refine T.F_law_draw.ok sc_law_draw (fun vs H Q E h => ?_) (fun cdv A outer s H vs Q E hr h => ?_)
  · obtain ⟨b, m, c, rfl, _⟩ := h
    rfl
  · obtain ⟨b, m, c, rfl, h1, h2, hB, hc, k⟩ := h
    obtain ⟨x0, x1, x2, hb, h3, h4, h5, h6⟩ := hB
    apply Exists.intro
    apply And.intro
    · apply pss_cons
      · apply ps_if
        · exact (pt_cmpR op_gt (pe_ix (k_ix_list (K := K) rfl) (pv 0) pe_int (fun _ _ => rfl)) pe_int (by rfl))
        · apply pss_cons
          · exact (ps_set (i := 3) sc_law_draw.nd rfl (.inl rfl) (pe_op op_modX (pe_ix (k_ix_list (K := K) rfl) (pv 0) pe_int (fun _ _ => rfl)) (pv 1)))
          apply pss_cons
          · exact (ps_asg (pe_op op_fdivX (pe_ix (k_ix_list (K := K) rfl) (pv 0) pe_int (fun _ _ => rfl)) (pv 1)) (pg_sub (pv 0) pe_int set_list))
          apply pss_one
          exact (ps_ret (pv 3))
        · exact pss_nil
      apply pss_cons
      · exact (ps_asg (pe_op op_add (pe_ix (k_ix_list (K := K) rfl) (pv 0) pe_int (fun _ _ => rfl)) pe_int) (pg_sub (pv 0) pe_int set_list))
      apply pss_cons
      · exact (ps_set (i := 2) sc_law_draw.nd rfl (.inl rfl) (pe_op op_modX (pe_op op_powX (pe_op op_add (pe_ix (k_ix_list (K := K) rfl) (pv 0) pe_int (fun _ _ => rfl)) (pe_op op_mulX pe_int (pe_ix (k_ix_list (K := K) rfl) (pv 0) pe_int (fun _ _ => rfl)))) pe_int) (pe_op op_add (pe_op op_powX pe_int pe_int) pe_int)))
      apply pss_cons
      · exact (ps_set (i := 2) sc_law_draw.nd rfl (.inl rfl) (pe_op op_modX (pe_op op_powX (pe_op op_add (pv 2) (pe_op op_mulX pe_int (pe_ix (k_ix_list (K := K) rfl) (pv 0) pe_int (fun _ _ => rfl)))) pe_int) (pe_op op_add (pe_op op_powX pe_int pe_int) pe_int)))
      apply pss_one
      exact (ps_ret (pe_op op_modX (pe_op op_fdivX (pv 2) pe_int) (pv 1)))
    walk_at "sx"
    refine ixL (.inl (.inl hb)) (atI_n (j := 0) rfl rfl) ?_
    walk_at "sx"
    have hdm : ∀ i, CDivW i m := fun i => wide_div (b := 2001) h1 (big_lt h1 h2) (by omega) (by omega)
    by_cases h0 : 0 < x0
    · simp only [h0, if_true]
      refine ixL (.inl (.inl hb)) (atI_n (j := 0) rfl rfl) ?_
      walk_at "sx"
      refine ⟨h1, ?_⟩
      refine ixL (.inl (.inl hb)) (atI_n (j := 0) rfl rfl) ?_
      walk_at "sx"
      refine ⟨hdm _, ?_⟩
      refine setL hb (ixN_n (j := 0) rfl (by simp)) ?_
      exact k _ _ (Int.emod_nonneg _ (by omega)) (Int.emod_lt_of_pos _ h1) Fx.put ⟨_, _, _, upd_same, h3, h4, h5, by omega⟩
    · simp only [h0, if_false]
      refine ixL (.inl (.inl hb)) (atI_n (j := 2) rfl rfl) ?_
      walk_at "sx"
      refine setL hb (ixN_n (j := 2) rfl (by simp)) ?_
      have hb2 : (upd H b (.lst [V.int x0, V.int x1, V.int (x2 + 1)])) b = some (.lst [V.int x0, V.int x1, V.int (x2 + 1)]) := upd_same
      refine ixL (.inl (.inl hb2)) (atI_n (j := 1) rfl rfl) ?_
      walk_at "sx"
      refine ixL (.inl (.inl hb2)) (atI_n (j := 2) rfl rfl) ?_
      walk_at "sx"
      have c1 : CMulX 69061 (x2 + 1) := .inl (.inl ⟨by decide, by decide⟩)
      have c2 : CMulX 88469 (x2 + 1) := .inl (.inl ⟨by decide, by decide⟩)
      have c3 : CPowX (x1 + 69061 * (x2 + 1)) 3 := ⟨by decide, by decide, Nat.lt_of_lt_of_le (log2_small (k := 300) (by decide) (by omega)) (by decide)⟩
      have t41 : Int.toNat 41 = 41 := rfl
      have t38 : Int.toNat 38 = 38 := rfl
      rw [t41, t38]
      refine ⟨c1, c3, ⟨by decide, by decide, by decide⟩, by decide, ?_⟩
      refine ixL (.inl (.inl hb2)) (atI_n (j := 2) rfl rfl) ?_
      walk_at "sx"
      generalize hz : (x1 + 69061 * (x2 + 1)) ^ Int.toNat 3 % (10 ^ 41 + 37) = z
      have hz0 : 0 ≤ z := by rw [← hz]; exact Int.emod_nonneg _ (by decide)
      have hz1 : z < 10 ^ 41 + 37 := by rw [← hz]; exact Int.emod_lt_of_pos _ (by decide)
      have c4 : CPowX (z + 88469 * (x2 + 1)) 3 := ⟨by decide, by decide, Nat.lt_of_lt_of_le (log2_small (k := 300) (by decide) (by omega)) (by decide)⟩
      refine ⟨c2, c4, ⟨by decide, by decide, by decide⟩, by decide, ⟨by decide, by decide⟩, h1, ?_⟩
      exact k _ _ (Int.emod_nonneg _ (by omega)) (Int.emod_lt_of_pos _ h1) Fx.put ⟨_, _, _, hb2, h3, h4, by omega, by omega⟩
end
section
variable {P : Program} {w : World} {K : PySem.W.Frag} {mg : Str → Option Value} {base : Heap}
theorem keepL {b a : Addr} {H0 H H' : Hp} {xs : List V} (nb : H0 b = none) (h0 : SqL K H0 a xs) (h : SqL K H a xs) (f : Fx b H H') : SqL K H' a xs := by
  by_cases z : a = b
  · subst z
    rcases h0 with h0 | h0
    · rcases h0 with q | ⟨o, q⟩
      · rw [nb] at q; cases q
      · rw [nb] at q; cases q
    · exact .inr h0
  · exact f.l z h
theorem g_thr {i j k : Nat} {σ : L2.St} {H : Hp} {T : Addr} {x y z : V} {QG : L2.St → Hp → Prop} (h : H T = some (.tup [x, y, z])) (r : QG (((σ.set i (some x)).set j (some y)).set k (some z)) H) :
    gTup K 3 (gCons (gName i) (gCons (gName j) (gCons (gName k) gNil))) (.ref T) σ H QG := ⟨T, [x, y, z], rfl, .inl (.inl h), rfl, x, [y, z], rfl, y, [z], rfl, z, [], rfl, rfl, r⟩
/-- a drawn site -/
def spNet (K : PySem.W.Frag) : Sp := fun vs H Q _ => ∃ (b a : Addr) (ns : List Int), vs = [.ref b, .ref a, .int 6] ∧ SqL K H a (ns.map V.int) ∧ (∃ H0, H0 b = none ∧ SqL K H0 a (ns.map V.int)) ∧ BagAt H b 0 ∧
  ∀ s (G : Grid) H', Fx b H H' → BagAt H' b 100 → GridN H H' s G → SiteOk G → G.length ≤ 6 → Q (.ref s) H'
def RowsOk (m : Nat) (G : Grid) : Prop := ∀ (i : Nat) (r : List Nat), G[i]? = some r → r.Pairwise (· < ·) ∧ (∀ x ∈ r, x < m) ∧ i ∉ r
def JNe (H : Hp) (b a : Addr) (m : Nat) (st sh : Int) (i : Nat) (σ' : L2.St) (H' : Hp) : Prop := ∃ l5 f l8 l9 l10 l11 G, σ' = [some (.ref b), some (.ref a), some (.int 6), some (.int sh), some (.ref f), l5, some (.int m), some (.int st), l8, l9, l10, l11] ∧
  Fx b H H' ∧ BagAt H' b (5 + m * i) ∧ GridN H H' f G ∧ G.length = i ∧ RowsOk m G
def JRo (H0 : Hp) (b a : Addr) (m : Nat) (st sh : Int) (f r : Addr) (i : Nat) (j : Nat) (σ' : L2.St) (H' : Hp) : Prop := ∃ l9 l10 l11 R, σ' = [some (.ref b), some (.ref a), some (.int 6), some (.int sh), some (.ref f), some (.int (i : Int)), some (.int m), some (.int st), some (.ref r), l9, l10, l11] ∧
  Fx b H0 H' ∧ BagAt H' b (5 + m * i + j) ∧ H' r = some (.lst ((nz R).map V.int)) ∧ R.Pairwise (· < ·) ∧ (∀ x ∈ R, x < j) ∧ i ∉ R
theorem ok_law_net (T : Txt K mg) : FnOk P w K mg base CX0 2 T.f_law_net T.fd_law_net ["_law_pool_here", "_law_script", "_law_most"] (spNet K) := by
  refine T.F_law_net.ok sc_law_net (fun vs H Q E h => ?_) (fun cdv A outer s H vs Q E hr h => ?_)
  · obtain ⟨b, a, ns, rfl, _⟩ := h
    rfl
  · obtain ⟨b, a, ns, rfl, hA, ⟨H0, nb0, hA0⟩, hB, k⟩ := h
    apply Exists.intro
    apply And.intro
    · apply pss_cons
      · exact (ps_par (i := 6) (j := 7) (by rfl) sc_law_net.nd rfl rfl (by decide) rfl rfl (pa_cons (pe_ix (k_ix_list (K := K) rfl) (pe_lst (pa_cons (pe_op op_add pe_int (pe_call (ok_law_draw T) (hr.mono (by decide)) (by rfl) T.m_law_draw T.F_law_draw.kp T.b_law_draw .nil pass0 (pa_cons (pv 0) (pa_cons pe_int pa_nil)))) (pa_cons (pe_op op_add pe_int (pe_call (ok_law_draw T) (hr.mono (by decide)) (by rfl) T.m_law_draw T.F_law_draw.kp T.b_law_draw .nil pass0 (pa_cons (pv 0) (pa_cons (pv 2) pa_nil)))) (pa_cons (pv 2) pa_nil)))) (pe_call (ok_law_draw T) (hr.mono (by decide)) (by rfl) T.m_law_draw T.F_law_draw.kp T.b_law_draw .nil pass0 (pa_cons (pv 0) (pa_cons pe_int pa_nil))) (fun _ _ => rfl)) (pa_cons (pe_call (ok_law_draw T) (hr.mono (by decide)) (by rfl) T.m_law_draw T.F_law_draw.kp T.b_law_draw .nil pass0 (pa_cons (pv 0) (pa_cons pe_int pa_nil))) pa_nil)) (by rfl))
      apply pss_cons
      · exact (ps_set (i := 3) sc_law_net.nd rfl (.inl rfl) (pe_op op_add pe_int (pe_call (ok_law_draw T) (hr.mono (by decide)) (by rfl) T.m_law_draw T.F_law_draw.kp T.b_law_draw .nil pass0 (pa_cons (pv 0) (pa_cons pe_int pa_nil)))))
      apply pss_cons
      · exact (ps_asg (pe_ifExp (pt_cmpR (k_eqD (K := K) rfl hr.units) (pv 1) (pe_lst pa_nil) (by rfl)) (pe_tup (pa_cons pe_int (pa_cons pe_int (pa_cons pe_int pa_nil)))) (pe_tup (pa_cons (pv 6) (pa_cons (pv 7) (pa_cons (pv 3) pa_nil))))) (k_tup (K := K) (n := 3) rfl rfl (pgs_cons (pg_name (i := 6) sc_law_net.nd rfl (.inl rfl)) (pgs_cons (pg_name (i := 7) sc_law_net.nd rfl (.inl rfl)) (pgs_cons (pg_name (i := 3) sc_law_net.nd rfl (.inl rfl)) pgs_nil)))))
      apply pss_cons
      · exact (ps_set (i := 4) sc_law_net.nd rfl (.inl rfl) (pe_lst pa_nil))
      apply pss_cons
      · apply ps_for PassesOwn.never rfl
        · exact (pi_range1 (by rfl) T.n_range (pa_cons (pv 6) pa_nil))
        · exact (pg_name (i := 5) sc_law_net.nd rfl (.inl rfl))
        · apply pss_cons
          · exact (ps_set (i := 8) sc_law_net.nd rfl (.inl rfl) (pe_lst pa_nil))
          apply pss_cons
          · apply ps_for PassesOwn.never rfl
            · exact (pi_range1 (by rfl) T.n_range (pa_cons (pv 6) pa_nil))
            · exact (pg_name (i := 9) sc_law_net.nd rfl (.inl rfl))
            · apply pss_cons
              · exact (ps_set (i := 10) sc_law_net.nd rfl (.inl rfl) (pe_call (ok_law_draw T) (hr.mono (by decide)) (by rfl) T.m_law_draw T.F_law_draw.kp T.b_law_draw .nil pass0 (pa_cons (pv 0) (pa_cons pe_int pa_nil))))
              apply pss_cons
              · exact (ps_set (i := 11) sc_law_net.nd rfl (.inl rfl) (pe_lst (pa_cons (pe_cmpR op_lt (pv 10) (pe_op op_mulX pe_int (pv 3)) (by rfl)) (pa_cons (pe_cmpR op_lt (pv 10) (pv 3) (by rfl)) (pa_cons pe_bl (pa_cons (pe_cmpR op_eq (pv 9) (pe_op op_modX (pe_op op_add (pv 5) pe_int) (pv 6)) (by rfl)) (pa_cons (pe_cmpR op_eq (pe_callB call_abs (by rfl) T.n_abs (by decide +kernel) (pa_cons (pe_op op_sub (pv 9) (pv 5)) pa_nil)) pe_int (by rfl)) (pa_cons (pe_cmpR op_gt (pv 10) pe_int (by rfl)) pa_nil))))))))
              apply pss_one
              apply ps_if
              · exact (PW.pt (pw_and (pt_cmpR op_ne (pv 9) (pv 5) (by rfl)) (pw_and1 (k_truth (K := K) rfl (pe_ix (k_ix_list (K := K) rfl) (pe_op op_cat (pv 11) (pe_lst (pa_cons (pe_cmpR op_lt (pv 10) pe_int (by rfl)) pa_nil))) (pv 7) (fun _ _ => rfl)) (by intro _; rfl)))))
              · apply pss_one
                exact (ps_expr (k_bm (K := K) rfl (pe_bm PySem.F.plainAttrs_list PySem.F.slot_list_append PySem.F.type_list_append mt_append (pv 8) (pa_cons (pv 9) pa_nil))))
              · exact pss_nil
          apply pss_one
          exact (ps_expr (k_bm (K := K) rfl (pe_bm PySem.F.plainAttrs_list PySem.F.slot_list_append PySem.F.type_list_append mt_append (pv 4) (pa_cons (pv 8) pa_nil))))
      apply pss_one
      exact (ps_ret (pv 4))
    obtain ⟨ob, hob⟩ := hB.some
    have Pk : ∀ (R : Prop), R → R := fun _ r => r
    refine seq_cut (fun σ' H' => ∃ (m : Nat) (st : Int), σ' = [some (.ref b), some (.ref a), some (.int 6), none, none, none, some (.int m), some (.int st), none, none, none, none] ∧ 1 ≤ m ∧ m ≤ 6 ∧ 0 ≤ st ∧ st < 7 ∧ Fx b H H' ∧ BagAt H' b 4) (fun N hN => ?_) (fun σ1 H1 hC => ?_)
    · walk_at "sx"
      refine ⟨b, _, _, rfl, by omega, big_of (by omega), hB, by omega, fun r1 H1 r10 r11 f1 b1 => ?_⟩
      walk_at "sx"
      refine ⟨b, _, _, rfl, by omega, big_of (by omega), b1, by omega, fun r2 H2 r20 r21 f2 b2 => ?_⟩
      walk_at "sx"
      refine ⟨sz_ok (by omega), fun z nz1 => ?_⟩
      have ez := Ex.new nz1 (o := .lst [V.int (1 + r1), V.int (1 + r2), V.int 6])
      refine ⟨b, _, _, rfl, by omega, big_of (by omega), b2.ex ez, by omega, fun r3 H3 r30 r31 f3 b3 => ?_⟩
      obtain ⟨x, hx, em⟩ := pickI (ns := [1 + r1, 1 + r2, 6]) r30 r31
      simp only [List.mem_cons, List.mem_nil_iff, or_false] at hx
      refine ixL (.inl (.inl (f3 _ _ (b2.apart nz1) upd_same))) em ?_
      refine ⟨b, _, _, rfl, by omega, big_of (by omega), b3, by omega, fun r4 H4 r40 r41 f4 b4 => ?_⟩
      refine ⟨_, _, ⟨rfl, rfl⟩, ?_⟩
      exact hN _ _ ⟨x.toNat, r4, by rw [Int.toNat_of_nonneg (by omega)], by omega, by omega, r40, r41, (((f1.trans f2).trans (Fx.of ez)).trans f3).trans f4, b4⟩
    obtain ⟨m, st, rfl, m1, m2, s0, s1, f1, b1⟩ := hC
    refine seq_cut (fun σ' H' => ∃ (m : Nat) (st sh : Int), σ' = [some (.ref b), some (.ref a), some (.int 6), some (.int sh), none, none, some (.int m), some (.int st), none, none, none, none] ∧ 1 ≤ m ∧ m ≤ 6 ∧ 0 ≤ st ∧ st < 7 ∧ 1 ≤ sh ∧ sh ≤ 4 ∧ Fx b H H' ∧ BagAt H' b 5) (fun N hN => ?_) (fun σ2 H2 hC => ?_)
    · walk_at "sx"
      refine ⟨b, _, _, rfl, by omega, big_of (by omega), b1, by omega, fun r1 H2 r10 r11 f2 b2 => ?_⟩
      walk_at "sx"
      exact hN _ _ ⟨m, st, 1 + r1, rfl, m1, m2, s0, s1, by omega, by omega, f1.trans f2, b2⟩
    obtain ⟨m, st, sh, rfl, m1, m2, s0, s1, h1, h2, f2, b2⟩ := hC
    refine seq_cut (fun σ' H' => ∃ (m : Nat) (st sh : Int), σ' = [some (.ref b), some (.ref a), some (.int 6), some (.int sh), none, none, some (.int m), some (.int st), none, none, none, none] ∧ 1 ≤ m ∧ m ≤ 6 ∧ 0 ≤ st ∧ st < 7 ∧ 1 ≤ sh ∧ sh ≤ 4 ∧ Fx b H H' ∧ BagAt H' b 5) (fun N hN => ?_) (fun σ3 H3 hC => ?_)
    · walk_at "sx"
      refine ⟨Nat.zero_le _, fun z nz1 => ?_⟩
      have ez := Ex.new nz1 (o := .lst [])
      have hA2 := keepL nb0 hA0 hA f2
      refine eqInts (ns := ns) (ms := []) (ex_l ez hA2) (.inl (.inl upd_same)) ?_
      refine ⟨_, rfl, ?_⟩
      by_cases c : ns = []
      · rw [decide_eq_true c, if_pos rfl]
        refine ⟨by decide, fun T1 nT => ?_⟩
        have eT := Ex.new nT (o := .tup [V.int 4, V.int 0, V.int 2])
        refine g_thr upd_same ?_
        simp only [List.set_cons_zero, List.set_cons_succ]
        exact hN _ _ ⟨4, 0, 2, rfl, by decide, by decide, by decide, by decide, by decide, by decide, f2.trans (Fx.of (ez.trans eT)), b2.ex (ez.trans eT)⟩
      · rw [decide_eq_false c, if_neg (by decide)]
        refine ⟨by decide, fun T1 nT => ?_⟩
        have eT := Ex.new nT (o := .tup [V.int m, V.int st, V.int sh])
        refine g_thr upd_same ?_
        simp only [List.set_cons_zero, List.set_cons_succ]
        exact hN _ _ ⟨m, st, sh, rfl, m1, m2, s0, s1, h1, h2, f2.trans (Fx.of (ez.trans eT)), b2.ex (ez.trans eT)⟩
    obtain ⟨m, st, sh, rfl, m1, m2, s0, s1, h1, h2, f3, b3⟩ := hC
    refine seq_cut (fun σ' H' => ∃ f : Addr, σ' = [some (.ref b), some (.ref a), some (.int 6), some (.int sh), some (.ref f), none, some (.int m), some (.int st), none, none, none, none] ∧ Fx b H H' ∧ BagAt H' b 5 ∧ GridN H H' f []) (fun N hN => ?_) (fun σ2 H2 hC => ?_)
    · walk_at "sx"
      refine ⟨sz_ok (by omega), fun f nf => ?_⟩
      have ef := Ex.new nf (o := .lst [])
      have nfb := b3.apart nf
      exact hN _ _ ⟨f, rfl, f3.trans (Fx.of ef), b3.ex ef, fx_none f3 nf nfb, [], upd_same, rfl, List.nodup_nil, List.not_mem_nil, fun i p e => by simp at e⟩
    obtain ⟨f, rfl, f2, b2, g2⟩ := hC
    walk_at "sx"
    refine ⟨by omega, by omega, ?_⟩
    rw [Int.toNat_natCast]
    refine lg_rng (JNe H b a m st sh) ⟨none, f, none, none, none, none, [], rfl, f2, by simpa using b2, g2, rfl, fun i r e => by simp at e⟩ (fun i σ' H' hi hP => ?_) (fun σ' H' hP => ?_)
    · obtain ⟨l5, f, l8, l9, l10, l11, G, rfl, fx, hb, gn, gl, rok⟩ := hP
      rw [show (0 : Int) + (i : Int) = (i : Int) by omega]
      simp only [x_gn, List.set_cons_zero, List.set_cons_succ]
      have mi : m * i ≤ 30 := Nat.mul_le_mul (show m ≤ 6 by omega) (show i ≤ 5 by omega)
      refine seq_asg (fun v H1 => ∃ r, v = .ref r ∧ H' r = none ∧ Ex H' H1 ∧ H1 r = some (.lst [])) (fun R hR => ?_) (fun v H1 hC => ?_)
      · walk_at "sx"
        exact ⟨sz_ok (by omega), fun r nr => hR _ _ ⟨r, rfl, nr, Ex.new nr, upd_same⟩⟩
      obtain ⟨r, rfl, nr, e1, hr⟩ := hC
      have nrb := hb.apart nr
      refine seq_cut (fun σ' H2 => ∃ l9 l10 l11 R, σ' = [some (.ref b), some (.ref a), some (.int 6), some (.int sh), some (.ref f), some (.int (i : Int)), some (.int m), some (.int st), some (.ref r), l9, l10, l11] ∧ Fx b H' H2 ∧ BagAt H2 b (5 + m * i + m) ∧ H2 r = some (.lst ((nz R).map V.int)) ∧ R.Pairwise (· < ·) ∧ (∀ x ∈ R, x < m) ∧ i ∉ R) (fun N hN => ?_) (fun σ2 H2 hC => ?_)
      · walk_at "sx"
        refine ⟨by omega, by omega, ?_⟩
        rw [Int.toNat_natCast]
        refine lg_rng (JRo H' b a m st sh f r i) ⟨l9, l10, l11, [], rfl, Fx.of e1, hb.ex e1, hr, List.Pairwise.nil, fun x h => (List.not_mem_nil h).elim, List.not_mem_nil⟩ (fun j σ' H3 hj hP => ?_) (fun σ' H3 hP => ?_)
        · obtain ⟨l9, l10, l11, R, rfl, fx3, b3, hr3, pw, lt, no⟩ := hP
          rw [show (0 : Int) + (j : Int) = (j : Int) by omega]
          simp only [x_gn, List.set_cons_zero, List.set_cons_succ]
          refine seq_asg (fun v H4 => ∃ h : Int, v = .int h ∧ Fx b H3 H4 ∧ BagAt H4 b (5 + m * i + j + 1)) (fun R' hR => ?_) (fun v H4 hC => ?_)
          · walk_at "sx"
            exact ⟨b, _, _, rfl, by omega, big_of (by omega), b3, by omega, fun r4 H4 r40 r41 f4 b4 => hR _ _ ⟨_, rfl, f4, b4⟩⟩
          obtain ⟨h, rfl, f4, b4⟩ := hC
          simp only [List.set_cons_zero, List.set_cons_succ]
          refine seq_asg (fun v H5 => ∃ a0 a1 a2 a3 a4 a5 : Bool, ∃ q, v = .ref q ∧ H4 q = none ∧ Ex H4 H5 ∧ H5 q = some (.lst [.bl a0, .bl a1, .bl a2, .bl a3, .bl a4, .bl a5])) (fun R' hR => ?_) (fun v H5 hC => ?_)
          · walk_at "sx"
            refine ⟨.inl (.inl ⟨by decide, by omega⟩), by omega, sz_ok (by omega), fun q nq => ?_⟩
            exact hR _ _ ⟨_, _, _, _, _, _, q, rfl, nq, Ex.new nq, upd_same⟩
          obtain ⟨a0, a1, a2, a3, a4, a5, q, rfl, nq, e5, hq⟩ := hC
          simp only [List.set_cons_zero, List.set_cons_succ]
          have nqb := b4.apart nq
          have hr5 := e5 _ _ (f4 _ _ nrb hr3)
          have b5 := b4.ex e5
          have f5 := f4.trans (Fx.of e5)
          obtain ⟨pk, epk⟩ : ∃ pk : Bool, atI [V.bl a0, .bl a1, .bl a2, .bl a3, .bl a4, .bl a5, .bl (decide (h < 3))] st = some (.bl pk) := by
            obtain ⟨v, hv, e⟩ := pick (xs := [V.bl a0, .bl a1, .bl a2, .bl a3, .bl a4, .bl a5, .bl (decide (h < 3))]) s0 (by simpa using s1)
            simp only [List.mem_cons, List.mem_nil_iff, or_false] at hv
            rcases hv with rfl | rfl | rfl | rfl | rfl | rfl | rfl <;> exact ⟨_, e⟩
          walk_at "sx"
          by_cases c1 : (j : Int) = (i : Int)
          · rw [decide_eq_true c1, if_neg (by decide)]
            exact ⟨_, _, _, R, rfl, fx3.trans f5, b5, hr5, pw, fun x hx => by have := lt x hx; omega, no⟩
          · rw [decide_eq_false c1, if_pos (by decide)]
            refine ⟨sz_ok (by omega), fun y ny => ?_⟩
            have ey := Ex.new ny (o := .lst [V.bl (decide (h < 3))])
            refine catL (ey _ _ hq) upd_same (sz_ok (by simp)) fun z nz1 => ?_
            have ez := ey.trans (Ex.new nz1 (o := .lst ([V.bl a0, .bl a1, .bl a2, .bl a3, .bl a4, .bl a5] ++ [V.bl (decide (h < 3))])))
            refine ixL (.inl (.inl upd_same)) epk ⟨pk, rfl, ?_⟩
            have f6 := f5.trans (Fx.of ez)
            have hr6 := ez _ _ hr5
            have b6 := b5.ex ez
            by_cases c2 : pk = true
            · rw [if_pos c2]
              have rl : R.length ≤ j := nodup_lt j (asc_nodup pw) lt
              refine ⟨tyL hr6, appL hr6 (BC.sz_lt (by rw [List.length_map, nz_len]; omega)) ?_⟩
              rw [nz_v]
              refine ⟨_, _, _, R ++ [j], rfl, (fx3.trans f6).mut nr, b6.off nrb, upd_same, ?_, fun x hx => ?_, fun hx => ?_⟩
              · rw [List.pairwise_append]
                refine ⟨pw, List.pairwise_singleton _ _, fun x hx y hy => ?_⟩
                rw [List.mem_singleton.mp hy]
                exact lt x hx
              · rcases List.mem_append.mp hx with h | h
                · have := lt x h; omega
                · rw [List.mem_singleton.mp h]; omega
              · rcases List.mem_append.mp hx with h | h
                · exact no h
                · have := List.mem_singleton.mp h
                  omega
            · rw [if_neg c2]
              exact ⟨_, _, _, R, rfl, fx3.trans f6, b6, hr6, pw, fun x hx => by have := lt x hx; omega, no⟩
        · obtain ⟨l9, l10, l11, R, rfl, fx3, b3, hr3, pw, lt, no⟩ := hP
          exact hN _ _ ⟨_, _, _, R, rfl, fx3, b3, hr3, pw, lt, no⟩
      obtain ⟨l9', l10', l11', R, rfl, f12, b12, hr2, pw, lt, no⟩ := hC
      have nw := Nw.fx hob f12
      have nrH : H r = none := fx_none fx nr nrb
      obtain ⟨xs, hf, xl, g3⟩ := gn.push nrH nr nw hr2
      walk_at "sx"
      refine ⟨tyL hf, appL hf (BC.sz_lt (by omega)) ?_⟩
      have nfb : f ≠ b := fun e => by subst e; rw [gn.1] at hob; cases hob
      refine ⟨_, f, _, _, _, _, G ++ [R], rfl, (fx.trans f12).mut gn.1, ((b12.off nfb).mono ?_), g3, by rw [List.length_append, List.length_singleton, gl], fun u x e => ?_⟩
      · have e : m * (i + 1) = m * i + m := Nat.mul_succ m i
        omega
      · by_cases hu : u < G.length
        · rw [List.getElem?_append_left hu] at e
          exact rok u x e
        · rw [List.getElem?_append_right (by omega)] at e
          have hu2 : u - G.length = 0 := by
            have := (List.getElem?_eq_some_iff.mp e).1
            rw [List.length_singleton] at this
            omega
          rw [hu2] at e
          obtain rfl : R = x := by simpa using e
          have : u = i := by omega
          subst this
          exact ⟨pw, lt, no⟩
    · obtain ⟨l5, f, l8, l9, l10, l11, G, rfl, fx, hb, gn, gl, rok⟩ := hP
      walk_at "sx"
      have mi : m * m ≤ 36 := Nat.mul_le_mul (show m ≤ 6 by omega) (show m ≤ 6 by omega)
      exact k f G _ fx (hb.mono (by omega)) gn ⟨by omega, by omega, fun i r e => (rok i r e).1, fun i r e x hx => by rw [gl]; exact (rok i r e).2.1 x hx, fun i r e => (rok i r e).2.2⟩ (by omega)
end
end LW

set_option Elab.async false
set_option linter.all false
set_option maxRecDepth 100000
set_option maxHeartbeats 4000000
/-! orders of pages: the numbers of ways to go on, by sets -/
namespace OR
open PySem PySem.Spec PyProof.Rows L2 BC TF
/-- the ways to go on from a page through all pages of a set -/
def wy (G : Grid) : Nat → Nat → Nat → Nat
  | 0, _, _ => 1
  | k + 1, b, f => (((row G f).filter (hb b)).map fun q => wy G k (b - 2 ^ q) q).sum
def ahead (G : Grid) (P : List Nat) (f : Nat) : List Nat := P.filter fun p => decide (f ∈ row G p)
def ext1 (acc : KD) (e : (Nat × Nat) × Nat) (xs : List Nat) : KD := xs.foldl (fun acc p => if hb e.1.1 p then acc else add2 acc (e.1.1 + 2 ^ e.1.2, p) e.2) acc
def step1 (G : Grid) (P : List Nat) (acc L : KD) : KD := L.foldl (fun acc e => ext1 acc e (ahead G P e.1.2)) acc
def lay (G : Grid) (P : List Nat) : Nat → KD
  | 0 => P.map fun p => ((0, p), 1)
  | k + 1 => step1 G P [] (lay G P k)
def fnd (G : Grid) (P : List Nat) : Nat → KD
  | 0 => lay G P 0
  | k + 1 => fnd G P k ++ lay G P (k + 1)
/-- a set of so many of the pages, and another one -/
def KP (P : List Nat) (k : Nat) (κ : Nat × Nat) : Prop := κ.2 ∈ P ∧ ∃ s : List Nat, s.Nodup ∧ (∀ x ∈ s, x ∈ P) ∧ s.length = k ∧ κ.2 ∉ s ∧ bits s = κ.1
theorem hb_of {s : List Nat} (h : s.Nodup) (y : Nat) : hb (bits s) y = decide (y ∈ s) := hb_bits _ (Nat.le_refl _) h y
theorem ext_mid {Q : Nat × Nat → Prop} {e : (Nat × Nat) × Nat} (hn : 0 < e.2) : ∀ {xs : List Nat} {W : (Nat × Nat → Nat) → Nat} {f : KD}, Mid Q W f → (∀ p ∈ xs, hb e.1.1 p = false → Q (e.1.1 + 2 ^ e.1.2, p)) →
    Mid Q (fun F => W F + e.2 * ((xs.filter fun p => !hb e.1.1 p).map fun p => F (e.1.1 + 2 ^ e.1.2, p)).sum) (ext1 f e xs)
  | [], W, f, h, _ => ⟨h.nd, h.pos, h.keys, fun F => by rw [show ext1 f e [] = f from rfl, h.sum]; simp⟩
  | x :: xs, W, f, h, hQ => by
    unfold ext1
    rw [List.foldl_cons]
    cases c : hb e.1.1 x with
    | true =>
      rw [if_pos rfl, List.filter_cons_of_neg (by rw [c]; decide)]
      exact ext_mid hn h fun y hy => hQ y (List.mem_cons_of_mem _ hy)
    | false =>
      rw [if_neg (by decide), List.filter_cons_of_pos (by rw [c]; decide)]
      have := ext_mid hn (h.add (hQ x List.mem_cons_self c) hn) fun y hy => hQ y (List.mem_cons_of_mem _ hy)
      refine ⟨this.nd, this.pos, this.keys, fun F => ?_⟩
      have e1 := this.sum F
      unfold ext1 at e1
      rw [e1, List.map_cons, List.sum_cons, Nat.mul_add]
      omega
theorem step_mid {Q : Nat × Nat → Prop} {G : Grid} {P : List Nat} : ∀ {L : KD} {W : (Nat × Nat → Nat) → Nat} {f : KD}, (∀ e ∈ L, 0 < e.2 ∧ ∀ p ∈ ahead G P e.1.2, hb e.1.1 p = false → Q (e.1.1 + 2 ^ e.1.2, p)) → Mid Q W f →
    Mid Q (fun F => W F + wsum (fun k => (((ahead G P k.2).filter fun p => !hb k.1 p).map fun p => F (k.1 + 2 ^ k.2, p)).sum) L) (step1 G P f L)
  | [], W, f, _, h => ⟨h.nd, h.pos, h.keys, fun F => by rw [show step1 G P f [] = f from rfl, h.sum]; rfl⟩
  | e :: L, W, f, hL, h => by
    obtain ⟨hn, hx⟩ := hL e List.mem_cons_self
    have := step_mid (G := G) (P := P) (fun e he => hL e (List.mem_cons_of_mem _ he)) (ext_mid hn h hx)
    unfold step1 at this ⊢
    rw [List.foldl_cons]
    refine ⟨this.nd, this.pos, this.keys, fun F => ?_⟩
    rw [this.sum F]
    unfold wsum
    rw [List.map_cons, List.sum_cons]
    exact Nat.add_assoc _ _ _
structure Ly (P : List Nat) (k : Nat) (L : KD) : Prop where
  nd : (L.map (·.1)).Nodup
  pos : ∀ e ∈ L, 0 < e.2
  keys : ∀ e ∈ L, KP P k e.1
theorem ly_zero {P : List Nat} (nd : P.Nodup) : Ly P 0 (P.map fun p => ((0, p), 1)) := by
  refine ⟨?_, fun e he => ?_, fun e he => ?_⟩
  · rw [List.map_map, List.nodup_iff_pairwise_ne, List.pairwise_map]
    exact (List.nodup_iff_pairwise_ne.mp nd).imp fun h e => h (Prod.mk.inj e).2
  · obtain ⟨p, hp, rfl⟩ := List.mem_map.mp he
    exact Nat.one_pos
  · obtain ⟨p, hp, rfl⟩ := List.mem_map.mp he
    exact ⟨hp, [], List.nodup_nil, by simp, rfl, by simp, rfl⟩
theorem key_next {G : Grid} (ok : SiteOk G) {P : List Nat} {k : Nat} {κ : Nat × Nat} (h : KP P k κ) {p : Nat} (hp : p ∈ ahead G P κ.2) (hn : hb κ.1 p = false) : KP P (k + 1) (κ.1 + 2 ^ κ.2, p) := by
  obtain ⟨f, s, n1, n2, n3, n4, n5⟩ := h
  obtain ⟨h1, h2⟩ := List.mem_filter.mp hp
  have h2 := of_decide_eq_true h2
  refine ⟨h1, s ++ [κ.2], ?_, fun x hx => ?_, by rw [List.length_append, n3]; rfl, fun m => ?_, by rw [bits_snoc, n5]⟩
  · rw [List.nodup_append]
    refine ⟨n1, by simp, fun a ha b hb e => ?_⟩
    rw [List.mem_singleton.mp hb] at e
    exact n4 (e ▸ ha)
  · rcases List.mem_append.mp hx with hx | hx
    · exact n2 x hx
    · rw [List.mem_singleton.mp hx]; exact f
  · rcases List.mem_append.mp m with m | m
    · rw [← n5, hb_of n1, decide_eq_true m] at hn
      cases hn
    · have m := List.mem_singleton.mp m
      by_cases c : p < G.length
      · exact ok.no p _ (at_row c) (by rw [← m] at h2; exact h2)
      · unfold row at h2
        rw [List.getD_eq_getElem?_getD, List.getElem?_eq_none (by omega)] at h2
        cases h2
theorem ly_step {G : Grid} (ok : SiteOk G) {P : List Nat} {k : Nat} {L : KD} (h : Ly P k L) : Mid (KP P (k + 1)) (fun F => 0 + wsum (fun k => (((ahead G P k.2).filter fun p => !hb k.1 p).map fun p => F (k.1 + 2 ^ k.2, p)).sum) L) (step1 G P [] L) :=
  step_mid (fun e he => ⟨h.pos e he, fun p hp hn => key_next ok (h.keys e he) hp hn⟩) ⟨by simp, by simp, by simp, fun _ => rfl⟩
theorem lay_ly {G : Grid} (ok : SiteOk G) {P : List Nat} (nd : P.Nodup) : ∀ k, Ly P k (lay G P k)
  | 0 => ly_zero nd
  | k + 1 => let M := ly_step ok (lay_ly ok nd k); ⟨M.nd, M.pos, M.keys⟩
/-! what the dict holds -/
theorem wsum_congr {F F' : Nat × Nat → Nat} {L : KD} (h : ∀ e ∈ L, F e.1 = F' e.1) : wsum F L = wsum F' L := by
  unfold wsum
  congr 1
  exact List.map_congr_left fun e he => by rw [h e he]
theorem wsum_plus (F F' : Nat × Nat → Nat) : ∀ L : KD, wsum (fun k => F k + F' k) L = wsum F L + wsum F' L
  | [] => rfl
  | e :: L => by
    have := wsum_plus F F' L
    unfold wsum at this ⊢
    rw [List.map_cons, List.sum_cons, List.map_cons, List.sum_cons, List.map_cons, List.sum_cons, this, Nat.mul_add]
    omega
theorem wsum_none {F : Nat × Nat → Nat} {L : KD} (h : ∀ e ∈ L, F e.1 = 0) : wsum F L = 0 := by
  rw [wsum_congr (F' := fun _ => 0) h]
  unfold wsum
  induction L with
  | nil => rfl
  | cons e L ih =>
    rw [List.map_cons, List.sum_cons, ih fun e he => h e (List.mem_cons_of_mem _ he)]
    show e.2 * 0 + 0 = 0
    omega
theorem get_wsum (κ : Nat × Nat) : ∀ {L : KD}, (L.map (·.1)).Nodup → get2 L κ = wsum (fun k => if k = κ then 1 else 0) L
  | [], _ => rfl
  | e :: L, h => by
    rw [List.map_cons, List.nodup_cons] at h
    by_cases c : e.1 = κ
    · have f1 : (e :: L).find? (fun p => decide (p.1 = κ)) = some e := List.find?_cons_of_pos (decide_eq_true c)
      have z : wsum (fun k => if k = κ then 1 else 0) L = 0 := wsum_none fun e' he' => if_neg fun q => h.1 (by rw [c, ← q]; exact List.mem_map.mpr ⟨e', he', rfl⟩)
      unfold get2
      rw [f1]
      show e.2 = e.2 * (if e.1 = κ then 1 else 0) + wsum (fun k => if k = κ then 1 else 0) L
      rw [z, if_pos c]
      omega
    · have f2 : (e :: L).find? (fun p => decide (p.1 = κ)) = L.find? (fun p => decide (p.1 = κ)) := List.find?_cons_of_neg (by simpa using c)
      have ih := get_wsum κ h.2
      unfold get2 at ih ⊢
      rw [f2, ih]
      show _ = e.2 * (if e.1 = κ then 1 else 0) + wsum (fun k => if k = κ then 1 else 0) L
      rw [if_neg c]
      omega
theorem if_same {a b : Prop} [Decidable a] [Decidable b] (h : a ↔ b) : (if a then 1 else 0 : Nat) = if b then 1 else 0 := by
  by_cases c : a
  · rw [if_pos c, if_pos (h.mp c)]
  · rw [if_neg c, if_neg fun q => c (h.mpr q)]
theorem ind_sum {p0 : Nat} (c : Prop) [Decidable c] : ∀ {l : List Nat}, l.Nodup → (l.map fun p => if c ∧ p = p0 then 1 else 0).sum = if c ∧ p0 ∈ l then 1 else 0
  | [], _ => by simp
  | x :: l, h => by
    rw [List.nodup_cons] at h
    rw [List.map_cons, List.sum_cons, ind_sum c h.2]
    by_cases cc : c
    · by_cases e : x = p0
      · subst e
        rw [if_pos ⟨cc, rfl⟩, if_neg (fun q => h.1 q.2), if_pos ⟨cc, List.mem_cons_self⟩]
      · rw [if_neg (fun q => e q.2), Nat.zero_add]
        by_cases m : p0 ∈ l
        · rw [if_pos ⟨cc, m⟩, if_pos ⟨cc, List.mem_cons_of_mem _ m⟩]
        · rw [if_neg (fun q => m q.2), if_neg (fun q => (List.mem_cons.mp q.2).elim (fun z => e z.symm) m)]
    · rw [if_neg (fun q => cc q.1), if_neg (fun q => cc q.1), if_neg (fun q => cc q.1)]
theorem many_sum {B : Nat} {L : KD} (nd : (L.map (·.1)).Nodup) : ∀ {ql : List Nat}, ql.Nodup → wsum (fun k => if k.2 ∈ ql ∧ k.1 = B - 2 ^ k.2 then 1 else 0) L = (ql.map fun q => get2 L (B - 2 ^ q, q)).sum
  | [], _ => wsum_none fun e _ => if_neg fun q => by cases q.1
  | q :: ql, h => by
    rw [List.nodup_cons] at h
    rw [List.map_cons, List.sum_cons, ← many_sum nd h.2, get_wsum _ nd, ← wsum_plus]
    refine wsum_congr fun e _ => ?_
    by_cases c : e.1 = (B - 2 ^ q, q)
    · rw [if_pos c, c]
      show (if q ∈ q :: ql ∧ B - 2 ^ q = B - 2 ^ q then 1 else 0) = 1 + if q ∈ ql ∧ B - 2 ^ q = B - 2 ^ q then 1 else 0
      rw [if_pos ⟨List.mem_cons_self, rfl⟩, if_neg (fun z => h.1 z.1)]
    · rw [if_neg c, Nat.zero_add]
      by_cases d : e.1.2 ∈ ql ∧ e.1.1 = B - 2 ^ e.1.2
      · rw [if_pos d, if_pos ⟨List.mem_cons_of_mem _ d.1, d.2⟩]
      · rw [if_neg d, if_neg]
        rintro ⟨m, e2⟩
        rcases List.mem_cons.mp m with m | m
        · exact c (Prod.ext (by rw [e2, m]) m)
        · exact d ⟨m, e2⟩
theorem hb_le {B f : Nat} (h : hb B f = true) : 2 ^ f ≤ B := by
  have := of_decide_eq_true h
  by_cases c : 2 ^ f ≤ B
  · exact c
  · rw [Nat.div_eq_of_lt (by omega)] at this
    cases this
theorem bits_cons (x : Nat) (s : List Nat) : bits (x :: s) = 2 ^ x + bits s := rfl
theorem bits_erase {x : Nat} : ∀ {s : List Nat}, x ∈ s → bits s = bits (s.erase x) + 2 ^ x
  | y :: s, h => by
    by_cases c : y = x
    · subst c
      rw [List.erase_cons_head, bits_cons]
      omega
    · rw [List.erase_cons_tail (by simpa using c), bits_cons, bits_cons]
      have m := (List.mem_cons.mp h).resolve_left fun z => c z.symm
      have := bits_erase m
      omega
theorem lay_get {G : Grid} (ok : SiteOk G) (asc : Asc G) {P : List Nat} (nd : P.Nodup) : ∀ (k : Nat) {s : List Nat} {f : Nat}, s.Nodup → (∀ x ∈ s, x ∈ P) → s.length = k → f ∈ P → f ∉ s → get2 (lay G P k) (bits s, f) = wy G k (bits s) f
  | 0, s, f, n1, n2, n3, n4, n5 => by
    have : s = [] := List.length_eq_zero_iff.mp n3
    subst this
    show get2 (P.map fun p => ((0, p), 1)) (0, f) = 1
    rw [get_wsum _ (ly_zero nd).nd]
    have e : wsum (fun k => if k = (0, f) then 1 else 0) (P.map fun p => ((0, p), 1)) = (P.map fun p => if True ∧ p = f then 1 else 0).sum := by
      unfold wsum
      rw [List.map_map]
      congr 1
      refine List.map_congr_left fun p _ => ?_
      show 1 * (if ((0, p) : Nat × Nat) = (0, f) then 1 else 0) = _
      by_cases c : p = f
      · rw [if_pos (by rw [c]), if_pos ⟨trivial, c⟩]
      · rw [if_neg (fun q => c (Prod.mk.inj q).2), if_neg (fun q => c q.2)]
    rw [e, ind_sum True nd, if_pos ⟨trivial, n4⟩]
  | k + 1, s, p0, n1, n2, n3, n4, n5 => by
    have Lk := lay_ly ok nd k
    have M := ly_step ok Lk
    show get2 (step1 G P [] (lay G P k)) _ = _
    rw [get_wsum _ M.nd, M.sum, Nat.zero_add]
    have rn : ((row G p0).filter (hb (bits s))).Nodup := (asc_nodup (asc p0)).filter _
    show _ = (((row G p0).filter (hb (bits s))).map fun q => wy G k (bits s - 2 ^ q) q).sum
    have hB : hb (bits s) p0 = false := by rw [hb_of n1, decide_eq_false n5]
    have e1 : wsum (fun κ => (((ahead G P κ.2).filter fun p => !hb κ.1 p).map fun p => if (κ.1 + 2 ^ κ.2, p) = (bits s, p0) then 1 else 0).sum) (lay G P k) = wsum (fun κ => if κ.2 ∈ (row G p0).filter (hb (bits s)) ∧ κ.1 = bits s - 2 ^ κ.2 then 1 else 0) (lay G P k) := by
      refine wsum_congr fun e he => ?_
      obtain ⟨f1, t, t1, t2, t3, t4, t5⟩ := Lk.keys e he
      have c1 : (fun p => if (e.1.1 + 2 ^ e.1.2, p) = (bits s, p0) then 1 else 0) = fun p => if e.1.1 + 2 ^ e.1.2 = bits s ∧ p = p0 then 1 else 0 := by
        funext p
        by_cases c : e.1.1 + 2 ^ e.1.2 = bits s ∧ p = p0
        · rw [if_pos c, if_pos (by rw [c.1, c.2])]
        · rw [if_neg c, if_neg (fun q => c ⟨(Prod.mk.inj q).1, (Prod.mk.inj q).2⟩)]
      rw [c1, ind_sum (e.1.1 + 2 ^ e.1.2 = bits s) (l := (ahead G P e.1.2).filter fun p => !hb e.1.1 p) ((nd.filter _).filter _)]
      have hf : hb e.1.1 e.1.2 = false := by rw [← t5, hb_of t1, decide_eq_false t4]
      refine if_same ?_
      constructor
      · rintro ⟨a, b⟩
        obtain ⟨b1, b2⟩ := List.mem_filter.mp b
        obtain ⟨b3, b4⟩ := List.mem_filter.mp b1
        refine ⟨List.mem_filter.mpr ⟨of_decide_eq_true b4, ?_⟩, by rw [← a]; omega⟩
        rw [← a, hb_add hf, decide_eq_true rfl]
        rfl
      · rintro ⟨a, b⟩
        obtain ⟨a1, a2⟩ := List.mem_filter.mp a
        have le := hb_le a2
        have e2 : e.1.1 + 2 ^ e.1.2 = bits s := by omega
        refine ⟨e2, List.mem_filter.mpr ⟨List.mem_filter.mpr ⟨n4, decide_eq_true a1⟩, ?_⟩⟩
        rw [← e2, hb_add hf] at hB
        cases z : hb e.1.1 p0 with
        | false => rfl
        | true => rw [z, Bool.or_true] at hB; cases hB
    rw [e1, many_sum Lk.nd rn]
    congr 1
    refine List.map_congr_left fun q hq => ?_
    obtain ⟨q1, q2⟩ := List.mem_filter.mp hq
    rw [hb_of n1] at q2
    have q2 := of_decide_eq_true q2
    have e2 := bits_erase q2
    rw [show bits s - 2 ^ q = bits (s.erase q) by omega]
    exact lay_get ok asc nd k (n1.erase q) (fun x hx => n2 x (List.mem_of_mem_erase hx)) (by rw [List.length_erase_of_mem q2, n3]; rfl) (n2 q q2) (fun m => (List.Nodup.not_mem_erase n1) m)
/-! all layers -/
theorem sub_le : ∀ {l m : List Nat}, l.Nodup → (∀ x ∈ l, x ∈ m) → l.length ≤ m.length
  | [], _, _, _ => Nat.zero_le _
  | x :: l, m, nd, h => by
    rw [List.nodup_cons] at nd
    have hx := h x List.mem_cons_self
    have := sub_le (l := l) (m := m.erase x) nd.2 fun y hy => (List.mem_erase_of_ne (fun z => nd.1 (by rw [← z]; exact hy))).mpr (h y (List.mem_cons_of_mem _ hy))
    rw [List.length_erase_of_mem hx] at this
    have := List.length_pos_of_mem hx
    rw [List.length_cons]
    omega
theorem bits_len {s t : List Nat} (hs : s.Nodup) (ht : t.Nodup) (e : bits s = bits t) : s.length = t.length := by
  have h : ∀ x, x ∈ s ↔ x ∈ t := fun x => by
    have a := hb_of hs x
    rw [e, hb_of ht] at a
    exact (decide_eq_decide.mp a).symm
  exact Nat.le_antisymm (sub_le hs fun x m => (h x).mp m) (sub_le ht fun x m => (h x).mpr m)
theorem kp_one {P : List Nat} {j k : Nat} {κ : Nat × Nat} (h : KP P j κ) (g : KP P k κ) : j = k := by
  obtain ⟨_, s, s1, _, s3, _, s5⟩ := h
  obtain ⟨_, t, t1, _, t3, _, t5⟩ := g
  rw [← s3, ← t3]
  exact bits_len s1 t1 (s5.trans t5.symm)
theorem fnd_keys {G : Grid} (ok : SiteOk G) {P : List Nat} (nd : P.Nodup) : ∀ k, ∀ e ∈ fnd G P k, ∃ j, j ≤ k ∧ KP P j e.1
  | 0, e, he => ⟨0, Nat.le_refl _, (lay_ly ok nd 0).keys e he⟩
  | k + 1, e, he => by
    rcases List.mem_append.mp he with h | h
    · obtain ⟨j, hj, hk⟩ := fnd_keys ok nd k e h
      exact ⟨j, by omega, hk⟩
    · exact ⟨k + 1, Nat.le_refl _, (lay_ly ok nd (k + 1)).keys e h⟩
theorem fnd_apart {G : Grid} (ok : SiteOk G) {P : List Nat} (nd : P.Nodup) (k : Nat) : ∀ e ∈ lay G P (k + 1), e.1 ∉ (fnd G P k).map (·.1) := fun e he m => by
  obtain ⟨e', he', q⟩ := List.mem_map.mp m
  obtain ⟨j, hj, hk⟩ := fnd_keys ok nd k e' he'
  rw [q] at hk
  have := kp_one hk ((lay_ly ok nd (k + 1)).keys e he)
  omega
theorem get_app {A B : KD} {κ : Nat × Nat} : get2 (A ++ B) κ = if κ ∈ A.map (·.1) then get2 A κ else get2 B κ := by
  unfold get2
  rw [List.find?_append]
  cases c : A.find? fun p => decide (p.1 = κ) with
  | some e =>
    have h1 := List.find?_some c
    rw [if_pos (List.mem_map.mpr ⟨e, List.mem_of_find?_eq_some c, of_decide_eq_true h1⟩)]
    rfl
  | none =>
    rw [if_neg]
    · rfl
    · intro m
      obtain ⟨e, he, q⟩ := List.mem_map.mp m
      have := List.find?_eq_none.mp c e he
      exact this (decide_eq_true q)
theorem get_none {A : KD} {κ : Nat × Nat} (h : κ ∉ A.map (·.1)) : get2 A κ = 0 := by
  unfold get2
  rw [List.find?_eq_none.mpr fun e he q => h (List.mem_map.mpr ⟨e, he, of_decide_eq_true q⟩)]
  rfl
theorem fnd_get {G : Grid} (ok : SiteOk G) (asc : Asc G) {P : List Nat} (nd : P.Nodup) : ∀ (n : Nat) {k : Nat} {s : List Nat} {f : Nat}, k ≤ n → s.Nodup → (∀ x ∈ s, x ∈ P) → s.length = k → f ∈ P → f ∉ s → get2 (fnd G P n) (bits s, f) = wy G k (bits s) f
  | 0, k, s, f, hk, n1, n2, n3, n4, n5 => by
    obtain rfl : k = 0 := by omega
    exact lay_get ok asc nd 0 n1 n2 n3 n4 n5
  | n + 1, k, s, f, hk, n1, n2, n3, n4, n5 => by
    have K : KP P k (bits s, f) := ⟨n4, s, n1, n2, n3, n5, rfl⟩
    show get2 (fnd G P n ++ lay G P (n + 1)) _ = _
    rw [get_app]
    by_cases c : k ≤ n
    · have ih := fnd_get ok asc nd n c n1 n2 n3 n4 n5
      split
      · exact ih
      · rename_i m
        rw [get_none m] at ih
        rw [← ih]
        refine get_none fun q => ?_
        obtain ⟨e, he, q⟩ := List.mem_map.mp q
        have := (lay_ly ok nd (n + 1)).keys e he
        rw [q] at this
        have := kp_one this K
        omega
    · obtain rfl : k = n + 1 := by omega
      rw [if_neg, lay_get ok asc nd _ n1 n2 n3 n4 n5]
      intro m
      obtain ⟨e, he, q⟩ := List.mem_map.mp m
      obtain ⟨j, hj, hK⟩ := fnd_keys ok nd n e he
      rw [q] at hK
      have := kp_one hK K
      omega
/-! sizes -/
theorem bits_lt {n : Nat} : ∀ {s : List Nat}, s.Nodup → (∀ x ∈ s, x < n) → bits s < 2 ^ n := by
  induction n with
  | zero =>
    intro s _ h
    cases s with
    | nil => exact Nat.one_pos
    | cons x s => exact absurd (h x List.mem_cons_self) (Nat.not_lt_zero _)
  | succ n ih =>
    intro s nd h
    by_cases c : n ∈ s
    · have e := bits_erase c
      have := ih (s := s.erase n) (nd.erase n) fun x hx => by
        have h1 := h x (List.mem_of_mem_erase hx)
        have h2 : x ≠ n := fun z => List.Nodup.not_mem_erase nd (z ▸ hx)
        omega
      rw [e, Nat.pow_succ]
      omega
    · have := ih nd fun x hx => by
        have h1 := h x hx
        have h2 : x ≠ n := fun z => c (z ▸ hx)
        omega
      rw [Nat.pow_succ]
      omega
theorem ly_len {P : List Nat} {k : Nat} {L : KD} {n : Nat} (h : Ly P k L) (hP : ∀ x ∈ P, x < n) (n7 : n ≤ 7) : L.length ≤ 896 := by
  have b1 : ((L.map (·.1)).map fun κ => κ.1 * 7 + κ.2).Nodup := by
    rw [List.nodup_iff_pairwise_ne, List.pairwise_map]
    refine List.Pairwise.imp_of_mem (R := fun a b => a ≠ b) (fun {a b} ha hb ne e => ?_) (List.nodup_iff_pairwise_ne.mp h.nd)
    obtain ⟨ea, hea, qa⟩ := List.mem_map.mp ha
    obtain ⟨eb, heb, qb⟩ := List.mem_map.mp hb
    have a1 := hP _ (h.keys ea hea).1
    have b1 := hP _ (h.keys eb heb).1
    rw [qa] at a1
    rw [qb] at b1
    have e : a.1 * 7 + a.2 = b.1 * 7 + b.2 := e
    exact ne (Prod.ext (by omega) (by omega))
  have b2 : ∀ x ∈ (L.map (·.1)).map fun κ => κ.1 * 7 + κ.2, x < 896 := fun x hx => by
    obtain ⟨κ, hκ, rfl⟩ := List.mem_map.mp hx
    obtain ⟨e, he, q⟩ := List.mem_map.mp hκ
    obtain ⟨a, s, s1, s2, s3, s4, s5⟩ := h.keys e he
    have := bits_lt s1 fun x hx => hP x (s2 x hx)
    rw [s5, q] at this
    rw [q] at a
    have a := hP _ a
    have : κ.1 < 2 ^ 7 := Nat.lt_of_lt_of_le this (Nat.pow_le_pow_right (by decide) n7)
    omega
  have := nodup_lt 896 b1 b2
  rw [List.length_map, List.length_map] at this
  exact this
end OR

set_option Elab.async false
set_option linter.all false
set_option maxRecDepth 100000
set_option maxHeartbeats 4000000
/-! orders of pages: all sets together are all trails -/
namespace OR
open PySem PySem.Spec PyProof.Rows L2 BC TF
def subl : List Nat → List (List Nat)
  | [] => [[]]
  | x :: R => subl R ++ (subl R).map (x :: ·)
/-- as the law makes them -/
def subs : Nat → List (List Nat)
  | 0 => [[]]
  | n + 1 => subs n ++ (subs n).map (· ++ [n])
def TT (R : List Nat) (F : Nat → Nat → Nat) : Nat := ((subl R).map fun S => F S.length (bits S)).sum
theorem subl_sub : ∀ {R S : List Nat}, S ∈ subl R → S.Sublist R
  | [], S, h => by rw [List.mem_singleton.mp h]; exact List.Sublist.refl _
  | x :: R, S, h => by
    rcases List.mem_append.mp h with h | h
    · exact (subl_sub h).cons x
    · obtain ⟨s, hs, rfl⟩ := List.mem_map.mp h
      exact (subl_sub hs).cons_cons x
theorem tt_cons (x : Nat) (R : List Nat) (F : Nat → Nat → Nat) : TT (x :: R) F = TT R F + TT R fun l b => F (l + 1) (b + 2 ^ x) := by
  unfold TT
  show ((subl R ++ (subl R).map (x :: ·)).map fun S => F S.length (bits S)).sum = _
  rw [List.map_append, List.sum_append, List.map_map]
  congr 2
  refine List.map_congr_left fun S _ => ?_
  show F (S.length + 1) (bits (x :: S)) = F (S.length + 1) (bits S + 2 ^ x)
  rw [bits_cons, Nat.add_comm (2 ^ x)]
theorem tt_perm {R R' : List Nat} (h : R.Perm R') : ∀ F, TT R F = TT R' F := by
  induction h with
  | nil => exact fun _ => rfl
  | cons x _ ih => intro F; rw [tt_cons, tt_cons, ih, ih]
  | swap x y l =>
    intro F
    rw [tt_cons, tt_cons, tt_cons, tt_cons, tt_cons, tt_cons]
    have e : (fun l b => F (l + 1 + 1) (b + 2 ^ x + 2 ^ y)) = fun l b => F (l + 1 + 1) (b + 2 ^ y + 2 ^ x) := by
      funext l b
      rw [Nat.add_right_comm b]
    rw [e]
    omega
  | trans _ _ ih1 ih2 => intro F; rw [ih1, ih2]
theorem tt_congr {R : List Nat} {F F' : Nat → Nat → Nat} (h : ∀ S : List Nat, S.Sublist R → F S.length (bits S) = F' S.length (bits S)) : TT R F = TT R F' := by
  unfold TT
  congr 1
  exact List.map_congr_left fun S hS => h S (subl_sub hS)
theorem map_plus {α : Type} (f g : α → Nat) : ∀ l : List α, (l.map fun x => f x + g x).sum = (l.map f).sum + (l.map g).sum
  | [] => rfl
  | a :: l => by rw [List.map_cons, List.sum_cons, List.map_cons, List.sum_cons, List.map_cons, List.sum_cons, map_plus f g l]; omega
theorem map_zero {α : Type} : ∀ l : List α, (l.map fun _ => 0).sum = 0
  | [] => rfl
  | a :: l => by rw [List.map_cons, List.sum_cons, map_zero l]
theorem map_swap {α β : Type} (f : α → β → Nat) (bs : List β) : ∀ as : List α, (as.map fun a => (bs.map fun b => f a b).sum).sum = (bs.map fun b => (as.map fun a => f a b).sum).sum
  | [] => (map_zero bs).symm
  | a :: as => by
    rw [List.map_cons, List.sum_cons, map_swap f bs as, ← map_plus]
    rfl
theorem tt_zero (R : List Nat) : TT R (fun _ _ => 0) = 0 := map_zero _
/-- one page taken out -/
theorem tt_out {R : List Nat} (nd : R.Nodup) {q : Nat} (hq : q ∈ R) (F : Nat → Nat → Nat) : TT R (fun l b => if hb b q = true then F (l - 1) (b - 2 ^ q) else 0) = TT (R.erase q) F := by
  rw [tt_perm (List.perm_cons_erase hq), tt_cons]
  have n1 : q ∉ R.erase q := List.Nodup.not_mem_erase nd
  have nd1 := nd.erase q
  have z : ∀ S : List Nat, S.Sublist (R.erase q) → hb (bits S) q = false := fun S hS => by
    rw [hb_of (nd1.sublist hS), decide_eq_false fun m => n1 (hS.subset m)]
  have a : TT (R.erase q) (fun l b => if hb b q = true then F (l - 1) (b - 2 ^ q) else 0) = 0 := by
    rw [tt_congr (F' := fun _ _ => 0) fun S hS => if_neg (by rw [z S hS]; decide), tt_zero]
  rw [a, Nat.zero_add]
  refine tt_congr fun S hS => ?_
  rw [hb_add (z S hS), decide_eq_true rfl]
  show F (S.length + 1 - 1) (bits S + 2 ^ q - 2 ^ q) = _
  rw [Nat.add_sub_cancel, Nat.add_sub_cancel]
theorem tt_none {R : List Nat} (nd : R.Nodup) {q : Nat} (hq : q ∉ R) (F : Nat → Nat → Nat) : TT R (fun l b => if hb b q = true then F (l - 1) (b - 2 ^ q) else 0) = 0 := by
  rw [tt_congr (F' := fun _ _ => 0) fun S hS => if_neg (by rw [hb_of (nd.sublist hS), decide_eq_false fun m => hq (hS.subset m)]; decide), tt_zero]
theorem tt_plus (R : List Nat) (F F' : Nat → Nat → Nat) : TT R (fun l b => F l b + F' l b) = TT R F + TT R F' := map_plus _ _ _
theorem tt_one (R : List Nat) : TT R (fun l _ => if l = 0 then 1 else 0) = 1 := by
  induction R with
  | nil => rfl
  | cons x R ih =>
    rw [tt_cons, ih, tt_congr (F' := fun _ _ => 0) fun S _ => if_neg (by omega), tt_zero]
theorem tt_sum {α : Type} (R : List Nat) (qs : List α) (F : α → Nat → Nat → Nat) : TT R (fun l b => (qs.map fun q => F q l b).sum) = (qs.map fun q => TT R (F q)).sum := by
  unfold TT
  rw [← map_swap (fun S q => F q S.length (bits S)) qs (subl R)]
theorem filt_sum (P : Nat → Bool) (f : Nat → Nat) : ∀ l : List Nat, ((l.filter P).map f).sum = (l.map fun x => if P x = true then f x else 0).sum
  | [] => rfl
  | a :: l => by
    cases c : P a with
    | true => rw [List.filter_cons_of_pos c, List.map_cons, List.sum_cons, List.map_cons, List.sum_cons, if_pos c, filt_sum P f l]
    | false => rw [List.filter_cons_of_neg (by rw [c]; decide), List.map_cons, List.sum_cons, if_neg (by rw [c]; decide), filt_sum P f l, Nat.zero_add]
/-- all ways on -/
theorem tt_step {G : Grid} (asc : Asc G) {R : List Nat} (nd : R.Nodup) (f : Nat) : TT R (fun l b => wy G l b f) = 1 + (((row G f).filter fun q => decide (q ∈ R)).map fun q => TT (R.erase q) fun l b => wy G l b q).sum := by
  have e : TT R (fun l b => wy G l b f) = TT R (fun l b => (if l = 0 then 1 else 0) + ((row G f).map fun q => if hb b q = true then wy G (l - 1) (b - 2 ^ q) q else 0).sum) := by
    refine tt_congr fun S hS => ?_
    cases S with
    | nil =>
      show 1 = _
      have z : ((row G f).map fun q => if hb (bits []) q = true then wy G (([] : List Nat).length - 1) (bits [] - 2 ^ q) q else 0).sum = 0 := by
        refine (congrArg List.sum (List.map_congr_left (g := fun _ => 0) fun q _ => ?_)).trans (map_zero (row G f))
        show (if hb 0 q = true then _ else 0) = 0
        rw [hb_zero]
        rfl
      rw [z]
      rfl
    | cons x S =>
      show (((row G f).filter (hb (bits (x :: S)))).map fun q => wy G S.length (bits (x :: S) - 2 ^ q) q).sum = _
      rw [filt_sum]
      show _ = 0 + _
      rw [Nat.zero_add]
      rfl
  rw [e, tt_plus, tt_one, tt_sum, filt_sum]
  congr 2
  refine List.map_congr_left fun q _ => ?_
  by_cases c : q ∈ R
  · rw [if_pos (decide_eq_true c)]
    exact tt_out nd c fun l b => wy G l b q
  · rw [if_neg (by rw [decide_eq_false c]; decide)]
    exact tt_none nd c fun l b => wy G l b q
theorem tt_big {G : Grid} (ok : SiteOk G) (asc : Asc G) : ∀ (n : Nat) {R t : List Nat}, R.length ≤ n → R.Nodup → TrOk G t → (∀ x, x ∈ R ↔ x < G.length ∧ x ∉ t) → TT R (fun l b => wy G l b (lst t)) = big G t
  | n, R, t, hn, nd, okt, hR => by
    rw [tt_step asc nd, big_eq ok okt]
    congr 2
    have e : (row G (lst t)).filter (fun q => decide (q ∈ R)) = kids G t := by
      unfold kids
      refine List.filter_congr fun x hx => decide_eq_decide.mpr ?_
      rw [hR]
      exact ⟨fun h => h.2, fun h => ⟨ok.rlt hx, h⟩⟩
    rw [e]
    refine List.map_congr_left fun q hq => ?_
    obtain ⟨h1, h2⟩ := List.mem_filter.mp hq
    have h2 := of_decide_eq_true h2
    have qR : q ∈ R := (hR q).mpr ⟨ok.rlt h1, h2⟩
    have lR := List.length_pos_of_mem qR
    match n, hn with
    | 0, hn => omega
    | n + 1, hn =>
      have ih := tt_big ok asc n (R := R.erase q) (t := t ++ [q]) (by rw [List.length_erase_of_mem qR]; omega) (nd.erase q) (okt.kid ok hq) fun x => by
        rw [nd.mem_erase_iff, hR, List.mem_append, List.mem_singleton]
        constructor
        · rintro ⟨a, b, c⟩
          exact ⟨b, fun m => m.elim c a⟩
        · rintro ⟨a, b⟩
          exact ⟨fun z => b (.inr z), a, fun m => b (.inl m)⟩
      rw [lst_snoc] at ih
      exact ih
/-- the number of the orders of some pages -/
def cnt (G : Grid) (S : List Nat) : Nat := (S.map fun p => wy G (S.length - 1) (bits S - 2 ^ p) p).sum
theorem subs_tt (n : Nat) : ∀ F : Nat → Nat → Nat, ((subs n).map fun S => F S.length (bits S)).sum = TT (List.range n) F := by
  induction n with
  | zero => exact fun _ => rfl
  | succ n ih =>
    intro F
    have p : (List.range (n + 1)).Perm (n :: List.range n) := by
      rw [List.range_succ]
      exact List.perm_append_singleton _ _
    rw [tt_perm p, tt_cons, ← ih, ← ih]
    show ((subs n ++ (subs n).map (· ++ [n])).map fun S => F S.length (bits S)).sum = _
    rw [List.map_append, List.sum_append, List.map_map]
    congr 2
    refine List.map_congr_left fun S _ => ?_
    show F (S ++ [n]).length (bits (S ++ [n])) = _
    rw [List.length_append, bits_snoc]
    rfl
theorem subs_ok : ∀ {n : Nat} {S : List Nat}, S ∈ subs n → S.Pairwise (· < ·) ∧ ∀ x ∈ S, x < n
  | 0, S, h => by
    rw [List.mem_singleton.mp h]
    exact ⟨.nil, fun x hx => by cases hx⟩
  | n + 1, S, h => by
    rcases List.mem_append.mp h with h | h
    · obtain ⟨a, b⟩ := subs_ok h
      exact ⟨a, fun x hx => Nat.lt_succ_of_lt (b x hx)⟩
    · obtain ⟨s, hs, rfl⟩ := List.mem_map.mp h
      obtain ⟨a, b⟩ := subs_ok hs
      refine ⟨?_, fun x hx => ?_⟩
      · rw [List.pairwise_append]
        exact ⟨a, List.pairwise_singleton _ _, fun x hx y hy => by rw [List.mem_singleton.mp hy]; exact b x hx⟩
      · rcases List.mem_append.mp hx with hx | hx
        · exact Nat.lt_succ_of_lt (b x hx)
        · rw [List.mem_singleton.mp hx]; exact Nat.lt_succ_self n
theorem cnt_range {G : Grid} {n : Nat} {S : List Nat} (nd : S.Nodup) (h : ∀ x ∈ S, x < n) : cnt G S = ((List.range n).map fun p => if hb (bits S) p = true then wy G (S.length - 1) (bits S - 2 ^ p) p else 0).sum := by
  unfold cnt
  have p : S.Perm ((List.range n).filter (hb (bits S))) := by
    rw [List.perm_ext_iff_of_nodup nd (List.nodup_range.filter _)]
    intro x
    rw [List.mem_filter, hb_of nd, decide_eq_true_eq, List.mem_range]
    exact ⟨fun m => ⟨h x m, m⟩, fun m => m.2⟩
  rw [(p.map _).sum_nat, filt_sum]
/-- all sets together -/
theorem all_sets {G : Grid} (ok : SiteOk G) (asc : Asc G) : ((subs G.length).map (cnt G)).sum = ((List.range G.length).map fun p => (all G p).length).sum := by
  have e : (subs G.length).map (cnt G) = (subs G.length).map fun S => ((List.range G.length).map fun p => if hb (bits S) p = true then wy G (S.length - 1) (bits S - 2 ^ p) p else 0).sum := List.map_congr_left fun S hS => by
    obtain ⟨a, b⟩ := subs_ok hS
    exact cnt_range (asc_nodup a) b
  rw [e, subs_tt G.length fun l b => ((List.range G.length).map fun p => if hb b p = true then wy G (l - 1) (b - 2 ^ p) p else 0).sum, tt_sum]
  congr 1
  refine List.map_congr_left fun p hp => ?_
  have hp' := List.mem_range.mp hp
  rw [tt_out List.nodup_range hp fun l b => wy G l b p, all_len ok asc hp']
  refine tt_big ok asc _ (Nat.le_refl _) (List.nodup_range.erase p) (one_ok hp') fun x => ?_
  rw [List.nodup_range.mem_erase_iff, List.mem_range, List.mem_singleton]
  exact ⟨fun h => ⟨h.2, h.1⟩, fun h => ⟨h.2, h.1⟩⟩
end OR

set_option Elab.async false
set_option linter.all false
set_option maxRecDepth 100000
set_option maxHeartbeats 4000000
/-! plain law: the loop numbers of pages do not depend on the order of the pages -/
namespace BC
/-- the product of two sequences -/
def cv : (Nat → Nat) → (Nat → Nat) → Nat → Nat
  | f, g, 0 => f 0 * g 0
  | f, g, t + 1 => f 0 * g (t + 1) + cv (fun i => f (i + 1)) g t
theorem cv_sum (g : Nat → Nat) : ∀ (k : Nat) (f : Nat → Nat), ((List.range (k + 1)).map fun i => f i * g (k - i)).sum = cv f g k
  | 0, f => by simp [cv]
  | k + 1, f => by
    rw [List.range_succ_eq_map, List.map_cons, List.sum_cons, List.map_map]
    have ih := cv_sum g k fun i => f (i + 1)
    show f 0 * g (k + 1) + ((List.range (k + 1)).map fun i => f (i + 1) * g (k + 1 - (i + 1))).sum = f 0 * g (k + 1) + cv (fun i => f (i + 1)) g k
    rw [← ih]
    simp only [Nat.add_sub_add_right]
theorem cv_snoc (g : Nat → Nat) : ∀ (t : Nat) (f : Nat → Nat), cv f g (t + 1) = cv f (fun i => g (i + 1)) t + f (t + 1) * g 0
  | 0, f => rfl
  | t + 1, f => by
    have ih := cv_snoc g t fun i => f (i + 1)
    show f 0 * g (t + 2) + cv (fun i => f (i + 1)) g (t + 1) = f 0 * g (t + 2) + cv (fun i => f (i + 1)) (fun i => g (i + 1)) t + f (t + 2) * g 0
    rw [ih]
    exact (Nat.add_assoc _ _ _).symm
theorem cv_comm : ∀ (t : Nat) (f g : Nat → Nat), cv f g t = cv g f t
  | 0, f, g => Nat.mul_comm _ _
  | t + 1, f, g => by
    rw [cv_snoc f t g, ← cv_comm t (fun i => f (i + 1)) g, Nat.mul_comm (g (t + 1))]
    show f 0 * g (t + 1) + _ = _
    omega
theorem cv_add (h : Nat → Nat) : ∀ (t : Nat) (f g : Nat → Nat), cv (fun i => f i + g i) h t = cv f h t + cv g h t
  | 0, f, g => Nat.add_mul _ _ _
  | t + 1, f, g => by
    have ih := cv_add h t (fun i => f (i + 1)) fun i => g (i + 1)
    show (f 0 + g 0) * h (t + 1) + cv (fun i => f (i + 1) + g (i + 1)) h t = f 0 * h (t + 1) + cv (fun i => f (i + 1)) h t + (g 0 * h (t + 1) + cv (fun i => g (i + 1)) h t)
    rw [ih, Nat.add_mul]
    omega
theorem cv_smul (h : Nat → Nat) (c : Nat) : ∀ (t : Nat) (f : Nat → Nat), cv (fun i => c * f i) h t = c * cv f h t
  | 0, f => Nat.mul_assoc _ _ _
  | t + 1, f => by
    have ih := cv_smul h c t fun i => f (i + 1)
    show c * f 0 * h (t + 1) + cv (fun i => c * f (i + 1)) h t = c * (f 0 * h (t + 1) + cv (fun i => f (i + 1)) h t)
    rw [ih, Nat.mul_add, Nat.mul_assoc]
theorem cv_assoc (g h : Nat → Nat) : ∀ (t : Nat) (f : Nat → Nat), cv (cv f g) h t = cv f (cv g h) t
  | 0, f => Nat.mul_assoc _ _ _
  | t + 1, f => by
    have ih := cv_assoc g h t fun i => f (i + 1)
    show f 0 * g 0 * h (t + 1) + cv (fun i => f 0 * g (i + 1) + cv (fun i => f (i + 1)) g i) h t = f 0 * (g 0 * h (t + 1) + cv (fun i => g (i + 1)) h t) + cv (fun i => f (i + 1)) (cv g h) t
    rw [cv_add, cv_smul h (f 0) t fun i => g (i + 1), Nat.mul_add, Nat.mul_assoc, ← ih]
    show _ + (_ + cv (cv (fun i => f (i + 1)) g) h t) = _
    omega
theorem cv_zero (h : Nat → Nat) : ∀ (t : Nat) (f : Nat → Nat), (∀ i, f i = 0) → cv f h t = 0
  | 0, f, z => by show f 0 * h 0 = 0; rw [z, Nat.zero_mul]
  | t + 1, f, z => by
    show f 0 * h (t + 1) + cv (fun i => f (i + 1)) h t = 0
    rw [z, Nat.zero_mul, cv_zero h t _ fun i => z (i + 1)]
theorem cv_sums (h : Nat → Nat) (t : Nat) (F : Nat → Nat → Nat) : ∀ l : List Nat, cv (fun i => (l.map fun u => F u i).sum) h t = (l.map fun u => cv (F u) h t).sum
  | [] => cv_zero h t _ fun _ => rfl
  | u :: l => by
    rw [List.map_cons, List.sum_cons, ← cv_sums h t F l]
    exact cv_add h t (F u) fun i => (l.map fun u => F u i).sum
def one : Nat → Nat
  | 0 => 1
  | _ + 1 => 0
theorem one_cv (g : Nat → Nat) : ∀ t, cv one g t = g t
  | 0 => Nat.one_mul _
  | t + 1 => by
    show 1 * g (t + 1) + cv (fun i => one (i + 1)) g t = g (t + 1)
    have z : cv (fun i => one (i + 1)) g t = 0 := cv_zero g t _ fun _ => rfl
    rw [z]
    omega
theorem cv_one (g : Nat → Nat) (t : Nat) : cv g one t = g t := by rw [cv_comm, one_cv]
/-! ### walks by their last visit of a page -/
theorem fw_in {G : Grid} {out : List Nat} {p v : Nat} (h : v ∈ out) : ∀ t, fw G out p t v = 0
  | 0 => by
    unfold fw
    rw [if_neg (by simp [h])]
  | t + 1 => by
    unfold fw
    rw [if_neg (by simp [h])]
theorem fw_congr (G : Grid) {S T : List Nat} (h : ∀ x, x ∈ S ↔ x ∈ T) (p : Nat) : ∀ t v, fw G S p t v = fw G T p t v
  | 0, v => by
    unfold fw
    simp only [h]
  | t + 1, v => by
    unfold fw
    simp only [h, fw_congr G h p t]
/-- from a page to another, never back at the first -/
def off (G : Grid) (S : List Nat) (a p : Nat) : Nat → Nat
  | 0 => 0
  | t + 1 => ((row G a).map fun u => fw G (S ++ [a]) p t u).sum
theorem sum_add (f g : Nat → Nat) : ∀ l : List Nat, (l.map fun u => f u + g u).sum = (l.map f).sum + (l.map g).sum
  | [] => rfl
  | u :: l => by
    rw [List.map_cons, List.sum_cons, sum_add f g l, List.map_cons, List.sum_cons, List.map_cons, List.sum_cons]
    omega
theorem fw_last (G : Grid) (S : List Nat) {a p : Nat} (ne : p ≠ a) : ∀ t v, fw G S p t v = fw G (S ++ [a]) p t v + cv (fun i => fw G S a i v) (off G S a p) t
  | 0, v => by
    show (if v = p ∧ v ∉ S then 1 else 0) = (if v = p ∧ v ∉ S ++ [a] then 1 else 0) + _ * 0
    rw [Nat.mul_zero, Nat.add_zero]
    by_cases c : v = p
    · subst c
      have : v ∉ S ↔ v ∉ S ++ [a] := by simp [ne]
      simp only [this]
    · rw [if_neg (by simp [c]), if_neg (by simp [c])]
  | t + 1, v => by
    by_cases hS : v ∈ S
    · rw [fw_in hS, fw_in (List.mem_append_left _ hS), cv_zero _ _ _ fun i => fw_in hS i]
    · have e1 : fw G S p (t + 1) v = ((row G v).map fun u => fw G S p t u).sum := by
        show (if v ∉ S then _ else 0) = _
        rw [if_pos hS]
      have e2 : ∀ i, fw G S a (i + 1) v = ((row G v).map fun u => fw G S a i u).sum := fun i => by
        show (if v ∉ S then _ else 0) = _
        rw [if_pos hS]
      have e3 : ((row G v).map fun u => fw G S p t u).sum = ((row G v).map fun u => fw G (S ++ [a]) p t u).sum + cv (fun i => fw G S a (i + 1) v) (off G S a p) t := by
        simp only [e2]
        rw [cv_sums (off G S a p) t (fun u i => fw G S a i u), ← sum_add]
        congr 1
        exact List.map_congr_left fun u _ => fw_last G S ne t u
      rw [e1, e3]
      show _ = _ + (fw G S a 0 v * off G S a p (t + 1) + cv (fun i => fw G S a (i + 1) v) (off G S a p) t)
      by_cases c : v = a
      · subst c
        have z : fw G S v 0 v = 1 := by
          show (if v = v ∧ v ∉ S then 1 else 0) = 1
          rw [if_pos ⟨rfl, hS⟩]
        rw [z, Nat.one_mul, fw_in (by simp : v ∈ S ++ [v]), Nat.zero_add]
        rfl
      · have z : fw G S a 0 v = 0 := by
          show (if v = a ∧ v ∉ S then 1 else 0) = 0
          rw [if_neg (by simp [c])]
        have z2 : fw G (S ++ [a]) p (t + 1) v = ((row G v).map fun u => fw G (S ++ [a]) p t u).sum := by
          show (if v ∉ S ++ [a] then _ else 0) = _
          rw [if_pos (by simp [hS, c])]
        rw [z, z2, Nat.zero_mul, Nat.zero_add]
/-- the closed walks by steps -/
def cs (G : Grid) (S : List Nat) (a : Nat) : Nat → Nat := fun t => fw G S a t a
theorem cs_congr (G : Grid) {S T : List Nat} (h : ∀ x, x ∈ S ↔ x ∈ T) (p : Nat) : cs G S p = cs G T p := funext fun t => fw_congr G h p t p
theorem cs_two (G : Grid) (S : List Nat) {a b : Nat} (ne : b ≠ a) (t : Nat) :
    cv (cs G S a) (cs G (S ++ [a]) b) t + cv (fun i => fw G S a i b) (fun i => fw G S b i a) t = cv (cs G S a) (cs G S b) t := by
  have e1 : cs G S b = fun i => cs G (S ++ [a]) b i + cv (fun i => fw G S a i b) (off G S a b) i := funext fun i => fw_last G S ne i b
  have e2 : (fun i => fw G S b i a) = cv (cs G S a) (off G S a b) := funext fun i => by
    rw [fw_last G S ne i a, fw_in (by simp : a ∈ S ++ [a]), Nat.zero_add]
    rfl
  have e3 : cv (fun i => fw G S a i b) (fun i => fw G S b i a) t = cv (cs G S a) (cv (fun i => fw G S a i b) (off G S a b)) t := by
    rw [e2, cv_comm, cv_assoc]
    have : cv (off G S a b) (fun i => fw G S a i b) = cv (fun i => fw G S a i b) (off G S a b) := funext fun i => cv_comm i _ _
    rw [this]
  rw [e3]
  have e4 : cv (cs G S a) (cs G S b) t = cv (fun i => cs G (S ++ [a]) b i + cv (fun i => fw G S a i b) (off G S a b) i) (cs G S a) t := by rw [← e1]; exact cv_comm t _ _
  have e5 := cv_add (cs G S a) t (cs G (S ++ [a]) b) (cv (fun i => fw G S a i b) (off G S a b))
  rw [e4, e5, cv_comm t (cs G S a), cv_comm t (cs G S a)]
theorem cs_swap (G : Grid) (S : List Nat) (a b : Nat) : cv (cs G S a) (cs G (S ++ [a]) b) = cv (cs G S b) (cs G (S ++ [b]) a) := funext fun t => by
  by_cases ne : b = a
  · subst ne; rfl
  · have x := cs_two G S ne t
    have y := cs_two G S (a := b) (b := a) (fun e => ne e.symm) t
    rw [cv_comm t (fun i => fw G S b i a)] at y
    rw [cv_comm t (cs G S b) (cs G S a)] at y
    omega
/-! ### the loop numbers -/
def lp (G : Grid) : List Nat → List Nat → Nat → Nat
  | _, [] => one
  | S, a :: L => cv (cs G S a) (lp G (S ++ [a]) L)
theorem lp_congr (G : Grid) : ∀ (L : List Nat) {S T : List Nat}, (∀ x, x ∈ S ↔ x ∈ T) → lp G S L = lp G T L
  | [], S, T, h => rfl
  | a :: L, S, T, h => by
    show cv (cs G S a) (lp G (S ++ [a]) L) = cv (cs G T a) (lp G (T ++ [a]) L)
    rw [cs_congr G h, lp_congr G L (S := S ++ [a]) (T := T ++ [a]) fun x => by simp [h]]
theorem lp_perm (G : Grid) {L M : List Nat} (h : L.Perm M) : ∀ S, lp G S L = lp G S M := by
  induction h with
  | nil => intro S; rfl
  | cons a _ ih =>
    intro S
    show cv (cs G S a) (lp G (S ++ [a]) _) = cv (cs G S a) (lp G (S ++ [a]) _)
    rw [ih]
  | swap a b l =>
    intro S
    show cv (cs G S b) (cv (cs G (S ++ [b]) a) (lp G (S ++ [b] ++ [a]) l)) = cv (cs G S a) (cv (cs G (S ++ [a]) b) (lp G (S ++ [a] ++ [b]) l))
    rw [lp_congr G l (S := S ++ [b] ++ [a]) (T := S ++ [a] ++ [b]) fun x => by
      simp only [List.mem_append, List.mem_singleton]
      constructor <;> (rintro ((h | h) | h) <;> simp [h])]
    apply funext
    intro t
    rw [← cv_assoc, ← cv_assoc, cs_swap]
  | trans _ _ i1 i2 =>
    intro S
    exact (i1 S).trans (i2 S)
theorem lp_snoc (G : Grid) (x : Nat) : ∀ (L S : List Nat), lp G S (L ++ [x]) = cv (lp G S L) (cs G (S ++ L) x)
  | [], S => funext fun t => by
    show cv (cs G S x) one t = cv one (cs G (S ++ []) x) t
    rw [cv_one, one_cv, List.append_nil]
  | a :: L, S => funext fun t => by
    show cv (cs G S a) (lp G (S ++ [a]) (L ++ [x])) t = cv (cv (cs G S a) (lp G (S ++ [a]) L)) _ t
    rw [lp_snoc G x L (S ++ [a]), cv_assoc, List.append_assoc]
    rfl
theorem getD_seq (f : Nat → Nat) {n k : Nat} (h : k ≤ n) : ((List.range (n + 1)).map f).getD k 0 = f k := by
  rw [List.getD_eq_getElem?_getD, List.getElem?_map, List.getElem?_range (by omega)]
  rfl
theorem cnv_seq (f g : Nat → Nat) {n k : Nat} (h : k ≤ n) : cnv ((List.range (n + 1)).map f) ((List.range (n + 1)).map g) k = cv f g k := by
  rw [← cv_sum]
  unfold cnv
  congr 1
  apply List.map_congr_left
  intro i hi
  rw [List.mem_range] at hi
  rw [getD_seq f (by omega), getD_seq g (by omega)]
/-- the loop numbers, as the program finds them -/
theorem fold_lp (G : Grid) (L : List Nat) (n : Nat) : fold n (prs G L n) = (List.range (n + 1)).map (lp G [] L) := by
  have key : ∀ i, i ≤ L.length → fold n ((prs G L n).take i) = (List.range (n + 1)).map (lp G [] (L.take i)) := fun i => by
    induction i with
    | zero =>
      intro _
      show 1 :: List.replicate n 0 = (List.range (n + 1)).map one
      rw [List.range_succ_eq_map, List.map_cons, List.map_map]
      congr 1
      apply List.ext_getElem?
      intro j
      rw [List.getElem?_replicate, List.getElem?_map]
      by_cases h : j < n
      · rw [if_pos h, List.getElem?_range h]; rfl
      · rw [if_neg h, List.getElem?_eq_none (by rw [List.length_range]; omega)]; rfl
    | succ i ih =>
      intro hi
      have hx : L[i]? = some L[i] := List.getElem?_eq_getElem (by omega)
      have hr := prs_row (G := G) (L := L) (n := n) (i := i) (by omega)
      have e : (prs G L n)[i]? = some (row (prs G L n) i) := at_row (by rw [prs_len]; omega)
      rw [fold_snoc e, hr, ih (by omega), List.take_add_one, hx]
      have gd : L.getD i 0 = L[i] := by rw [List.getD_eq_getElem?_getD, hx]; rfl
      rw [gd]
      show conv _ _ n = (List.range (n + 1)).map (lp G [] (L.take i ++ [L[i]]))
      rw [lp_snoc, List.nil_append]
      unfold conv
      apply List.map_congr_left
      intro k hk
      rw [List.mem_range] at hk
      exact cnv_seq _ (cs G (L.take i) L[i]) (by omega)
  have := key L.length (Nat.le_refl _)
  rw [List.take_length] at this
  rw [← this, List.take_of_length_le (by rw [prs_len]; omega)]
end BC

set_option Elab.async false
set_option linter.all false
set_option maxRecDepth 100000
set_option maxHeartbeats 4000000
/-! plain law: loop numbers of reversed sites, without links, with one page more, and the first ones -/
namespace BC
theorem sum_comm (f : Nat → Nat → Nat) (l : List Nat) : ∀ m : List Nat, (l.map fun u => (m.map fun w => f u w).sum).sum = (m.map fun w => (l.map fun u => f u w).sum).sum
  | [] => sum_zeros l
  | w :: m => by
    rw [List.map_cons, List.sum_cons, ← sum_comm f l m, ← sum_add]
    rfl
theorem sum_ind (P : Nat → Bool) (c p : Nat) : ∀ {l : List Nat}, l.Nodup → (l.map fun u => if u = p ∧ P u = true then c else 0).sum = if p ∈ l ∧ P p = true then c else 0
  | [], _ => by simp
  | u :: l, nd => by
    obtain ⟨n1, n2⟩ := List.nodup_cons.mp nd
    rw [List.map_cons, List.sum_cons, sum_ind P c p n2]
    by_cases e : u = p
    · subst e
      rw [if_neg (show ¬(u ∈ l ∧ P u = true) from fun h => n1 h.1), Nat.add_zero]
      by_cases q : P u = true
      · rw [if_pos ⟨rfl, q⟩, if_pos ⟨List.mem_cons_self, q⟩]
      · rw [if_neg (fun h => q h.2), if_neg (fun h => q h.2)]
    · rw [if_neg (fun h => e h.1), Nat.zero_add]
      have : (p ∈ u :: l) ↔ p ∈ l := by
        rw [List.mem_cons]
        exact ⟨fun h => h.resolve_left (fun z => e z.symm), .inr⟩
      simp only [this]
/-- the pages that link to a page -/
def bk (G : Grid) (p : Nat) : List Nat := (List.range G.length).filter fun w => decide (p ∈ row G w)
def Bk (G : Grid) : Grid := (List.range G.length).map (bk G)
theorem Bk_len (G : Grid) : (Bk G).length = G.length := by unfold Bk; rw [List.length_map, List.length_range]
theorem Bk_row {G : Grid} {p : Nat} (h : p < G.length) : row (Bk G) p = bk G p := by
  unfold row Bk
  rw [List.getD_eq_getElem?_getD, List.getElem?_map, List.getElem?_range h]
  rfl
theorem row_nodup {G : Grid} (ok : SiteOk G) {v : Nat} (h : v < G.length) : (row G v).Nodup := asc_nodup (ok.asc v _ (at_row h))
theorem Bk_ok {G : Grid} (ok : SiteOk G) : SiteOk (Bk G) := by
  have key : ∀ (i : Nat) (r : List Nat), (Bk G)[i]? = some r → i < G.length ∧ r = bk G i := fun i r e => by
    have hi := (List.getElem?_eq_some_iff.mp e).1
    rw [Bk_len] at hi
    have a := at_row (G := Bk G) (i := i) (by rw [Bk_len]; exact hi)
    rw [Bk_row hi, e] at a
    exact ⟨hi, Option.some.inj a⟩
  refine ⟨by rw [Bk_len]; exact ok.n1, by rw [Bk_len]; exact ok.n2, fun i r e => ?_, fun i r e x hx => ?_, fun i r e hx => ?_⟩
  · obtain ⟨_, rfl⟩ := key i r e
    exact List.pairwise_lt_range.sublist List.filter_sublist
  · obtain ⟨_, rfl⟩ := key i r e
    rw [Bk_len]
    exact List.mem_range.mp (List.mem_filter.mp hx).1
  · obtain ⟨hi, rfl⟩ := key i r e
    have := (List.mem_filter.mp hx).2
    exact ok.no i _ (at_row hi) (of_decide_eq_true this)
theorem fw_peel {G : Grid} (ok : SiteOk G) (out : List Nat) : ∀ (t p v : Nat), v < G.length → fw G out p (t + 1) v = if p ∉ out then ((bk G p).map fun w => fw G out w t v).sum else 0
  | 0, p, v, hv => by
    show (if v ∉ out then ((row G v).map fun u => if u = p ∧ u ∉ out then 1 else 0).sum else 0) = if p ∉ out then ((bk G p).map fun w => if v = w ∧ v ∉ out then 1 else 0).sum else 0
    have a := sum_ind (fun u => decide (u ∉ out)) 1 p (row_nodup ok hv)
    have nb : (bk G p).Nodup := List.nodup_range.sublist List.filter_sublist
    have b := sum_ind (fun u => decide (u ∉ out)) 1 v nb
    have eb : ((bk G p).map fun w => if v = w ∧ v ∉ out then 1 else 0) = (bk G p).map fun w => if w = v ∧ decide (w ∉ out) = true then 1 else 0 := List.map_congr_left fun w _ => by
      by_cases e : v = w
      · subst e; simp
      · rw [if_neg (fun h => e h.1), if_neg (fun h => e h.1.symm)]
    have ea : ((row G v).map fun u => if u = p ∧ u ∉ out then 1 else 0) = (row G v).map fun u => if u = p ∧ decide (u ∉ out) = true then 1 else 0 := List.map_congr_left fun w _ => by simp only [decide_eq_true_eq]
    have mb : v ∈ bk G p ↔ p ∈ row G v := by
      unfold bk
      rw [List.mem_filter, List.mem_range, decide_eq_true_eq]
      exact ⟨fun h => h.2, fun h => ⟨hv, h⟩⟩
    rw [ea, eb, a, b]
    simp only [mb, decide_eq_true_eq]
    by_cases c : v ∈ out <;> by_cases d : p ∈ out <;> simp [c, d]
  | t + 1, p, v, hv => by
    show (if v ∉ out then ((row G v).map fun u => fw G out p (t + 1) u).sum else 0) = if p ∉ out then ((bk G p).map fun w => if v ∉ out then ((row G v).map fun u => fw G out w t u).sum else 0).sum else 0
    have ih : ((row G v).map fun u => fw G out p (t + 1) u) = (row G v).map fun u => if p ∉ out then ((bk G p).map fun w => fw G out w t u).sum else 0 := List.map_congr_left fun u hu => fw_peel ok out t p u (ok.rlt hu)
    rw [ih]
    by_cases c : v ∉ out
    · simp only [if_pos c]
      by_cases d : p ∉ out
      · simp only [if_pos d]
        exact sum_comm (fun u w => fw G out w t u) _ _
      · simp only [if_neg d]
        exact sum_zeros _
    · simp only [if_neg c]
      rw [sum_zeros]
      split <;> rfl
theorem fw_rev {G : Grid} (ok : SiteOk G) (out : List Nat) : ∀ (t p v : Nat), v < G.length → p < G.length → fw (Bk G) out v t p = fw G out p t v
  | 0, p, v, hv, hp => by
    show (if p = v ∧ p ∉ out then 1 else 0) = if v = p ∧ v ∉ out then 1 else 0
    by_cases e : p = v
    · subst e; rfl
    · rw [if_neg (fun h => e h.1), if_neg (fun h => e h.1.symm)]
  | t + 1, p, v, hv, hp => by
    rw [fw_peel ok out t p v hv]
    show (if p ∉ out then ((row (Bk G) p).map fun u => fw (Bk G) out v t u).sum else 0) = _
    rw [Bk_row hp]
    have : ((bk G p).map fun u => fw (Bk G) out v t u) = (bk G p).map fun w => fw G out w t v := List.map_congr_left fun u hu => fw_rev ok out t u v hv (List.mem_range.mp (List.mem_filter.mp hu).1)
    rw [this]
theorem lp_rev {G : Grid} (ok : SiteOk G) : ∀ (L S : List Nat), (∀ x ∈ L, x < G.length) → lp (Bk G) S L = lp G S L
  | [], S, _ => rfl
  | a :: L, S, h => by
    have ha := h a List.mem_cons_self
    have e : cs (Bk G) S a = cs G S a := funext fun t => fw_rev ok S t a a ha ha
    show cv (cs (Bk G) S a) (lp (Bk G) (S ++ [a]) L) = cv (cs G S a) (lp G (S ++ [a]) L)
    rw [e, lp_rev ok L _ fun x hx => h x (List.mem_cons_of_mem _ hx)]
/-- no links at all -/
theorem lp_none {G : Grid} (h : ∀ v, row G v = []) : ∀ (L S : List Nat), L.Nodup → (∀ x ∈ L, x ∉ S) → lp G S L = one
  | [], S, _, _ => rfl
  | a :: L, S, nd, no => by
    obtain ⟨n1, n2⟩ := List.nodup_cons.mp nd
    have e : cs G S a = one := funext fun t => by
      cases t with
      | zero =>
        show (if a = a ∧ a ∉ S then 1 else 0) = 1
        rw [if_pos ⟨rfl, no a List.mem_cons_self⟩]
      | succ t =>
        show (if a ∉ S then ((row G a).map fun u => fw G S a t u).sum else 0) = 0
        rw [h a]
        split <;> rfl
    show cv (cs G S a) (lp G (S ++ [a]) L) = one
    rw [e, lp_none h L (S ++ [a]) n2 fun x hx m => by
      rcases List.mem_append.mp m with m | m
      · exact no x (List.mem_cons_of_mem _ hx) m
      · rw [List.mem_singleton.mp m] at hx
        exact n1 hx]
    exact funext fun t => one_cv _ t
theorem cv_ge {f g : Nat → Nat} (h : g 0 = 1) : ∀ t, f t ≤ cv f g t
  | 0 => by show f 0 ≤ f 0 * g 0; rw [h]; omega
  | t + 1 => by rw [cv_snoc, h]; omega
theorem lp_more (G : Grid) {x : Nat} {L : List Nat} (h : x ∉ L) (t : Nat) : lp G [] L t ≤ lp G [] (L ++ [x]) t := by
  rw [lp_snoc]
  refine cv_ge ?_ t
  show (if x = x ∧ x ∉ [] ++ L then 1 else 0) = 1
  rw [if_pos ⟨rfl, by simpa using h⟩]
/-! ### the first numbers -/
def Fst (f : Nat → Nat) (n : Nat) : Prop := f 0 = 1 ∧ f 1 = 0 ∧ f 2 = n
theorem fst_one : Fst one 0 := ⟨rfl, rfl, rfl⟩
theorem fst_cv {f g : Nat → Nat} {m n : Nat} (a : Fst f m) (b : Fst g n) : Fst (cv f g) (m + n) := by
  obtain ⟨a0, a1, a2⟩ := a
  obtain ⟨b0, b1, b2⟩ := b
  refine ⟨?_, ?_, ?_⟩
  · show f 0 * g 0 = 1
    rw [a0, b0]
  · show f 0 * g 1 + f 1 * g 0 = 0
    rw [a1, b1]; simp
  · show f 0 * g 2 + (f 1 * g 1 + f 2 * g 0) = m + n
    rw [a0, a1, a2, b0, b1, b2]; omega
/-- pages that are linked both ways with a page, if so -/
def mtl (G : Grid) (P : Nat → Bool) (a : Nat) : Nat := ((row G a).filter fun u => decide (a ∈ row G u) && P u).length
theorem sum_len (P : Nat → Bool) : ∀ l : List Nat, (l.map fun u => if P u = true then 1 else 0).sum = (l.filter P).length
  | [] => rfl
  | u :: l => by
    rw [List.map_cons, List.sum_cons, sum_len P l, List.filter_cons]
    split
    · rw [List.length_cons]; omega
    · omega
theorem cs_fst {G : Grid} (ok : SiteOk G) {S : List Nat} {a : Nat} (ha : a < G.length) (h : a ∉ S) : Fst (cs G S a) (mtl G (fun u => !decide (u ∈ S)) a) := by
  refine ⟨?_, ?_, ?_⟩
  · show (if a = a ∧ a ∉ S then 1 else 0) = 1
    rw [if_pos ⟨rfl, h⟩]
  · show (if a ∉ S then ((row G a).map fun u => if u = a ∧ u ∉ S then 1 else 0).sum else 0) = 0
    rw [if_pos h]
    have : ((row G a).map fun u => if u = a ∧ u ∉ S then 1 else 0) = (row G a).map fun _ => 0 := List.map_congr_left fun u hu => by
      rw [if_neg]
      rintro ⟨rfl, _⟩
      exact ok.no u _ (at_row ha) hu
    rw [this, sum_zeros]
  · show (if a ∉ S then ((row G a).map fun u => if u ∉ S then ((row G u).map fun w => if w = a ∧ w ∉ S then 1 else 0).sum else 0).sum else 0) = _
    rw [if_pos h]
    unfold mtl
    rw [← sum_len]
    congr 1
    apply List.map_congr_left
    intro u hu
    have hul := ok.rlt hu
    have x := sum_ind (fun u => decide (u ∉ S)) 1 a (row_nodup ok hul)
    simp only [decide_eq_true_eq] at x
    rw [x]
    by_cases c : u ∈ S
    · simp [c]
    · simp [c, h]
/-- for pages in ascending order -/
theorem lp_fst {G : Grid} (ok : SiteOk G) (K : List Nat) : ∀ (T S : List Nat), (S ++ T).Pairwise (· < ·) → (∀ x, x ∈ S ++ T ↔ x ∈ K) → (∀ x ∈ T, x < G.length) → Fst (lp G S T) (T.map fun a => mtl G (fun u => !decide (u ∈ K) || decide (a < u)) a).sum
  | [], S, _, _, _ => fst_one
  | a :: T, S, pw, hK, lt => by
    obtain ⟨_, p2, p3⟩ := List.pairwise_append.mp pw
    have aS : a ∉ S := fun m => Nat.lt_irrefl a (p3 a m a List.mem_cons_self)
    have ha := lt a List.mem_cons_self
    have e : S ++ [a] ++ T = S ++ a :: T := by simp
    have ih := lp_fst ok K T (S ++ [a]) (by rw [e]; exact pw) (by rw [e]; exact hK) fun x hx => lt x (List.mem_cons_of_mem _ hx)
    have c := fst_cv (cs_fst ok ha aS) ih
    rw [List.map_cons, List.sum_cons]
    have em : mtl G (fun u => !decide (u ∈ S)) a = mtl G (fun u => !decide (u ∈ K) || decide (a < u)) a := by
      unfold mtl
      congr 1
      apply List.filter_congr
      intro u hu
      have ne : u ≠ a := fun z => ok.no a _ (at_row ha) (z ▸ hu)
      congr 1
      have k := hK u
      by_cases s : u ∈ S
      · have uK := k.mp (List.mem_append_left _ s)
        have ul := p3 u s a List.mem_cons_self
        simp [s, uK]
        omega
      · by_cases t : u ∈ T
        · have ul := (List.pairwise_cons.mp p2).1 u t
          simp [s, ul]
        · have : u ∉ K := fun m => by
            have := k.mpr m
            simp [s, t, ne] at this
          simp [s, this]
    rw [← em]
    exact c
/-- the number of links from one of some pages to a page that links back -/
def prc (G : Grid) (L : List Nat) : Nat := (L.map fun a => mtl G (fun u => !decide (u ∈ L) || decide (a < u)) a).sum
theorem lp_first {G : Grid} (ok : SiteOk G) {L : List Nat} (nd : L.Nodup) (lt : ∀ x ∈ L, x < G.length) : Fst (lp G [] L) (prc G L) := by
  have pm : ((List.range G.length).filter fun x => decide (x ∈ L)).Perm L := by
    rw [List.perm_ext_iff_of_nodup (List.nodup_range.sublist List.filter_sublist) nd]
    intro x
    rw [List.mem_filter, List.mem_range, decide_eq_true_eq]
    exact ⟨fun h => h.2, fun h => ⟨lt x h, h⟩⟩
  have a := lp_fst ok L ((List.range G.length).filter fun x => decide (x ∈ L)) [] (List.pairwise_lt_range.sublist List.filter_sublist) (fun x => by rw [List.nil_append]; exact pm.mem_iff) (fun x hx => lt x (pm.mem_iff.mp hx))
  rw [lp_perm G pm] at a
  unfold prc
  rw [← (pm.map fun a => mtl G (fun u => !decide (u ∈ L) || decide (a < u)) a).sum_nat]
  exact a
/-! ### for the lists that the program finds -/
def lnn (G : Grid) (L : List Nat) (n : Nat) : List Nat := fold n (prs G L n)
theorem lnn_len (G : Grid) (L : List Nat) (n : Nat) : (lnn G L n).length = n + 1 := fold_len _ _
theorem lnn_perm (G : Grid) {L M : List Nat} (h : L.Perm M) (n : Nat) : lnn G L n = lnn G M n := by unfold lnn; rw [fold_lp, fold_lp, lp_perm G h]
theorem lnn_rev {G : Grid} (ok : SiteOk G) {L : List Nat} (lt : ∀ x ∈ L, x < G.length) (n : Nat) : lnn (Bk G) L n = lnn G L n := by unfold lnn; rw [fold_lp, fold_lp, lp_rev ok L [] lt]
theorem lnn_none {G : Grid} (h : ∀ v, row G v = []) {L : List Nat} (nd : L.Nodup) (n : Nat) : lnn G L n = 1 :: List.replicate n 0 := by
  unfold lnn
  rw [fold_lp, lp_none h L [] nd fun x _ => List.not_mem_nil]
  have := fold_lp G [] n
  exact this.symm
theorem lnn_more (G : Grid) {x : Nat} {L : List Nat} (h : x ∉ L) {n i a b : Nat} (ea : (lnn G L n)[i]? = some a) (eb : (lnn G (L ++ [x]) n)[i]? = some b) : a ≤ b := by
  unfold lnn at ea eb
  rw [fold_lp, List.getElem?_map] at ea eb
  cases q : (List.range (n + 1))[i]? with
  | none => rw [q] at ea; cases ea
  | some j =>
    rw [q] at ea eb
    cases ea; cases eb
    exact lp_more G h j
theorem lnn_first {G : Grid} (ok : SiteOk G) {L : List Nat} (nd : L.Nodup) (lt : ∀ x ∈ L, x < G.length) {n : Nat} (hn : 2 ≤ n) : (lnn G L n).take 3 = [1, 0, prc G L] := by
  obtain ⟨a, b, c⟩ := lp_first ok nd lt
  unfold lnn
  rw [fold_lp]
  obtain ⟨m, rfl⟩ : ∃ m, n = m + 2 := ⟨n - 2, by omega⟩
  rw [List.range_succ_eq_map, List.range_succ_eq_map, List.range_succ_eq_map]
  simp only [List.map_cons, List.take_succ_cons, List.take_zero, List.map_map]
  rw [a, show lp G [] L (Nat.succ 0) = 0 from b, show lp G [] L (Nat.succ 0).succ = prc G L from c]
end BC

set_option Elab.async false
set_option linter.all false
set_option maxRecDepth 100000
set_option maxHeartbeats 4000000
/-! plain law: walks counted from the other end -/
namespace BC
/-- what is added to the numbers of the next step, while the rows before i are done, and j pages of row i -/
def acc (G : Grid) (out : List Nat) (old : Nat → Nat) (i j : Nat) (q : Nat) : Nat := if q ∉ out then (((List.range i).filter fun w => decide (q ∈ row G w)).map old).sum + (if q ∈ (row G i).take j then old i else 0) else 0
def accs (G : Grid) (out : List Nat) (old : Nat → Nat) (i j : Nat) : List Nat := (List.range G.length).map (acc G out old i j)
theorem accs_len (G : Grid) (out : List Nat) (old : Nat → Nat) (i j : Nat) : (accs G out old i j).length = G.length := by unfold accs; rw [List.length_map, List.length_range]
theorem accs_at {G : Grid} {out : List Nat} {old : Nat → Nat} {i j q : Nat} (h : q < G.length) : (accs G out old i j)[q]? = some (acc G out old i j q) := by
  unfold accs
  rw [List.getElem?_map, List.getElem?_range h]
  rfl
theorem accs_zero (G : Grid) (out : List Nat) (old : Nat → Nat) : accs G out old 0 0 = List.replicate G.length 0 := by
  have e : ∀ q, acc G out old 0 0 q = 0 := fun q => by
    unfold acc
    simp
  apply List.ext_getElem?
  intro q
  by_cases h : q < G.length
  · rw [accs_at h, e, List.getElem?_replicate, if_pos h]
  · rw [List.getElem?_eq_none (by rw [accs_len]; omega), List.getElem?_eq_none (by rw [List.length_replicate]; omega)]
theorem accs_out {G : Grid} {out : List Nat} {old : Nat → Nat} {i j x : Nat} (hx : (row G i)[j]? = some x) (h : x ∈ out) : accs G out old i (j + 1) = accs G out old i j := by
  unfold accs
  apply List.map_congr_left
  intro q _
  unfold acc
  by_cases c : q ∈ out
  · rw [if_neg (by simpa using c), if_neg (by simpa using c)]
  · rw [if_pos c, if_pos c, List.take_add_one, hx]
    have : q ≠ x := fun e => c (e ▸ h)
    simp [this]
theorem take_no {l : List Nat} (nd : l.Nodup) {j x : Nat} (hx : l[j]? = some x) : x ∉ l.take j := fun m => by
  obtain ⟨i, hi, e⟩ := List.getElem_of_mem m
  rw [List.length_take] at hi
  have a : l[i]? = some x := by
    rw [← e, List.getElem_take]
    exact List.getElem?_eq_getElem (by omega)
  have := nd_at nd a hx
  omega
theorem accs_in {G : Grid} (ok : SiteOk G) {out : List Nat} {old : Nat → Nat} {i j x : Nat} (hi : i < G.length) (hx : (row G i)[j]? = some x) (h : x ∉ out) : (accs G out old i j).set x (acc G out old i j x + old i) = accs G out old i (j + 1) := by
  have xl : x < G.length := ok.rlt (List.mem_of_getElem? hx)
  apply List.ext_getElem?
  intro q
  by_cases hq : q < G.length
  · rw [accs_at hq, List.getElem?_set]
    by_cases e : x = q
    · subst e
      rw [if_pos rfl, if_pos (by rw [accs_len]; exact hq)]
      congr 1
      unfold acc
      rw [if_pos h, if_pos h, if_neg (take_no (row_nodup ok hi) hx), List.take_add_one, hx, if_pos (by simp)]
      omega
    · rw [if_neg e, accs_at hq]
      congr 1
      unfold acc
      rw [List.take_add_one, hx]
      have : q ≠ x := fun z => e z.symm
      simp [this]
  · rw [List.getElem?_eq_none (by rw [List.length_set, accs_len]; omega), List.getElem?_eq_none (by rw [accs_len]; omega)]
theorem accs_next (G : Grid) (out : List Nat) (old : Nat → Nat) (i : Nat) : accs G out old i (row G i).length = accs G out old (i + 1) 0 := by
  unfold accs
  apply List.map_congr_left
  intro q _
  unfold acc
  rw [List.take_length, List.take_zero, List.range_succ, List.filter_append, List.map_append, List.sum_append]
  by_cases c : q ∈ row G i
  · rw [if_pos c, List.filter_cons_of_pos (by simpa using c)]
    simp
  · rw [if_neg c, List.filter_cons_of_neg (by simpa using c)]
    simp
/-- the walks of so many steps from p to each page -/
def ends (G : Grid) (out : List Nat) (p t : Nat) : List Nat := (List.range G.length).map fun q => fw G out q t p
theorem ends_len (G : Grid) (out : List Nat) (p t : Nat) : (ends G out p t).length = G.length := by unfold ends; rw [List.length_map, List.length_range]
theorem ends_at {G : Grid} {out : List Nat} {p t q : Nat} (h : q < G.length) : (ends G out p t)[q]? = some (fw G out q t p) := by
  unfold ends
  rw [List.getElem?_map, List.getElem?_range h]
  rfl
theorem ends_next {G : Grid} (ok : SiteOk G) {out : List Nat} {p t : Nat} (hp : p < G.length) : accs G out (fun w => fw G out w t p) G.length 0 = ends G out p (t + 1) := by
  unfold accs ends
  apply List.map_congr_left
  intro q _
  rw [fw_peel ok out t q p hp]
  unfold acc bk
  rw [List.take_zero]
  simp
theorem ends_zero {G : Grid} {out : List Nat} {p : Nat} (h : p ∉ out) : ends G out p 0 = (List.range G.length).map fun q => if q = p then 1 else 0 := by
  unfold ends
  apply List.map_congr_left
  intro q _
  show (if p = q ∧ p ∉ out then 1 else 0) = _
  by_cases c : p = q
  · rw [if_pos ⟨c, h⟩, if_pos c.symm]
  · rw [if_neg (fun z => c z.1), if_neg (fun z => c z.symm)]
end BC

set_option Elab.async false
set_option linter.all false
set_option maxRecDepth 100000
set_option maxHeartbeats 4000000
/-! a row of a site put anew; comprehensions whose tests change what stands; the site of all links -/
namespace BC
open PySem PySem.Spec PyProof.Rows L2 Evl
theorem lc_listT {K : PySem.W.Frag} {σ : L2.St} {H1 : Hp} {g : TG} {tt : TT} {te : TE} {vs : List Nat} {Dl : Addr} {Q : VK} {a : Addr} {xs : List V} (Pv : Nat → Hp → Prop) (h0 : Pv 0 (upd H1 Dl (.lst []))) (hl : ∀ i H, i ≤ xs.length → Pv i H → SqL K H a xs)
    (hs : ∀ i x H, xs[i]? = some x → Pv i H → g x (wipe σ vs) H fun σ2 H2 => wipe σ2 vs = wipe σ vs ∧ tt σ2 H2 fun b H3 => if b = true then te σ2 H3 fun y H4 => ∃ acc, H4 Dl = some (.lst acc) ∧ acc.length < sizeLine ∧ Pv (i + 1) (upd H4 Dl (.lst (acc ++ [y]))) else Pv (i + 1) H3)
    (hd : ∀ H, Pv xs.length H → Q (.ref Dl) H) : LcG (Itl K a) g tt te vs σ Dl H1 Q := by
  refine lc_g xs.length Pv h0 (fun H h => ⟨xs, hl _ H (Nat.le_refl _) h, Nat.le_refl _⟩) (fun i H hi h => ⟨xs, xs[i], hl i H (by omega) h, List.getElem?_eq_getElem hi⟩) (fun i H x H' hi h y => ?_) hd
  obtain ⟨rfl, hf⟩ := y
  exact hs i x _ (hf xs (hl i _ (by omega) h)) h
theorem nodup_set {α : Type} : ∀ {ps : List α} {j : Nat} {p : α}, ps.Nodup → p ∉ ps → (ps.set j p).Nodup
  | [], _, _, h, _ => h
  | x :: ps, 0, p, h, n => by
    obtain ⟨_, h2⟩ := List.nodup_cons.mp h
    exact List.nodup_cons.mpr ⟨fun m => n (List.mem_cons_of_mem _ m), h2⟩
  | x :: ps, j + 1, p, h, n => by
    obtain ⟨h1, h2⟩ := List.nodup_cons.mp h
    refine List.nodup_cons.mpr ⟨fun m => ?_, nodup_set h2 fun m => n (List.mem_cons_of_mem _ m)⟩
    rcases List.mem_or_eq_of_mem_set m with m | e
    · exact h1 m
    · exact n (e ▸ List.mem_cons_self)
/-- another row in the place of one -/
theorem GridN.put {H H0 H1 : Hp} {s p : Addr} {G : Grid} {r : List Nat} {j : Nat} (h : GridN H H0 s G) (hj : j < G.length) (nH : H p = none) (n0 : H0 p = none) (e : Nw H H0 H1) (hp : H1 p = some (.lst ((nz r).map V.int))) :
    ∃ xs, H1 s = some (.lst xs) ∧ xs.length = G.length ∧ GridN H (upd H1 s (.lst (xs.set j (.ref p)))) s (G.set j r) := by
  obtain ⟨h0, ps, h1, h2, h4, h5, h3⟩ := h
  have hs1 := e _ _ h0 h1
  have np : p ∉ ps := fun m => by
    obtain ⟨i, hi, ei⟩ := List.getElem_of_mem m
    have := (h3 i p (List.getElem?_eq_some_iff.mpr ⟨hi, ei⟩)).2
    rw [n0] at this
    cases this
  have nsp : s ≠ p := fun z => by
    rw [z, n0] at h1
    cases h1
  refine ⟨_, hs1, by rw [List.length_map, h2], h0, ps.set j p, by rw [upd_same, List.map_set], by rw [List.length_set, List.length_set, h2], nodup_set h4 np, fun m => ?_, fun i q z => ?_⟩
  · rcases List.mem_or_eq_of_mem_set m with m | e
    · exact h5 m
    · exact nsp e
  · rw [List.getElem?_set] at z
    by_cases c : j = i
    · subst c
      rw [if_pos rfl, if_pos (by omega)] at z
      obtain rfl := Option.some.inj z
      refine ⟨nH, ?_⟩
      rw [upd_ne (Ne.symm nsp), hp]
      unfold row
      rw [List.getD_eq_getElem?_getD, List.getElem?_set, if_pos rfl, if_pos hj]
      rfl
    · rw [if_neg c] at z
      obtain ⟨y1, y2⟩ := h3 i q z
      have nqs : q ≠ s := fun y => h5 (y ▸ List.mem_of_getElem? z)
      refine ⟨y1, ?_⟩
      rw [upd_ne nqs, e _ _ y1 y2]
      unfold row
      rw [List.getD_eq_getElem?_getD, List.getD_eq_getElem?_getD, List.getElem?_set, if_neg c]
theorem SiteOk.set {G : Grid} (ok : SiteOk G) {j : Nat} {r : List Nat} (hj : j < G.length) (h : r.Sublist (row G j)) : SiteOk (G.set j r) := by
  have key : ∀ (i : Nat) (x : List Nat), (G.set j r)[i]? = some x → i < G.length ∧ x.Sublist (row G i) := fun i x e => by
    rw [List.getElem?_set] at e
    by_cases c : j = i
    · subst c
      rw [if_pos rfl, if_pos hj] at e
      obtain rfl := Option.some.inj e
      exact ⟨hj, h⟩
    · rw [if_neg c] at e
      have hi := (List.getElem?_eq_some_iff.mp e).1
      have := at_row hi
      rw [e] at this
      obtain rfl := Option.some.inj this
      exact ⟨hi, List.Sublist.refl _⟩
  refine ⟨by rw [List.length_set]; exact ok.n1, by rw [List.length_set]; exact ok.n2, fun i x e => ?_, fun i x e y hy => ?_, fun i x e hy => ?_⟩
  · obtain ⟨hi, sl⟩ := key i x e
    exact (ok.asc i _ (at_row hi)).sublist sl
  · obtain ⟨hi, sl⟩ := key i x e
    rw [List.length_set]
    exact ok.lt i _ (at_row hi) y (sl.subset hy)
  · obtain ⟨hi, sl⟩ := key i x e
    exact ok.no i _ (at_row hi) (sl.subset hy)
/-- all links of twelve pages -/
def allG : Grid := (List.range 12).map fun p => (List.range 12).filter fun u => !decide (u = p)
theorem allG_len : allG.length = 12 := by unfold allG; rw [List.length_map, List.length_range]
theorem allG_row {p : Nat} (h : p < 12) : row allG p = (List.range 12).filter fun u => !decide (u = p) := by
  unfold row allG
  rw [List.getD_eq_getElem?_getD, List.getElem?_map, List.getElem?_range h]
  rfl
theorem allG_ok : SiteOk allG := by
  have key : ∀ (i : Nat) (r : List Nat), allG[i]? = some r → i < 12 ∧ r = (List.range 12).filter fun u => !decide (u = i) := fun i r e => by
    have hi := (List.getElem?_eq_some_iff.mp e).1
    have a := at_row hi
    rw [allG_len] at hi
    rw [allG_row hi, e] at a
    exact ⟨hi, Option.some.inj a⟩
  refine ⟨by rw [allG_len]; omega, by rw [allG_len]; omega, fun i r e => ?_, fun i r e x hx => ?_, fun i r e hx => ?_⟩
  · obtain ⟨_, rfl⟩ := key i r e
    exact List.pairwise_lt_range.sublist List.filter_sublist
  · obtain ⟨_, rfl⟩ := key i r e
    rw [allG_len]
    exact List.mem_range.mp (List.mem_filter.mp hx).1
  · obtain ⟨_, rfl⟩ := key i r e
    have := (List.mem_filter.mp hx).2
    simp at this
theorem allG_lnn : lnn allG (List.range 12) 0 = [1] ∧ lnn allG (List.range 12) 1 = [1, 0] ∧ lnn allG (List.range 12) 2 = [1, 0, 66] := by
  have f := lnn_first allG_ok List.nodup_range (fun x hx => by rw [allG_len]; exact List.mem_range.mp hx) (Nat.le_refl 2)
  rw [List.take_of_length_le (by rw [lnn_len]; omega)] at f
  have p66 : prc allG (List.range 12) = 66 := by decide +kernel
  rw [p66] at f
  refine ⟨?_, ?_, f⟩
  · unfold lnn at f ⊢
    rw [fold_lp] at f ⊢
    have := congrArg (List.take 1) f
    rw [← List.map_take] at this
    exact this
  · unfold lnn at f ⊢
    rw [fold_lp] at f ⊢
    have := congrArg (List.take 2) f
    rw [← List.map_take] at this
    exact this
end BC

set_option Elab.async false
set_option linter.all false
set_option maxRecDepth 100000
set_option maxHeartbeats 4000000
namespace LW
open PySem PySem.Spec PyProof.Rows L2 BC Evl TR
local macro_rules | `(tactic| walk_at "sx") => `(tactic| try simp only [x_dcT, x_dc, x_updT, x_iitemsT, x_dispT1, x_valsT, x_lockT, SL.x_yfor, SL.x_yplain, SL.x_ythen, SL.x_y0, SL.x_yyield, SL.x_ywhile, SL.x_callY, SL.x_callYK, x_gwhile, x_callG, x_g0, x_gfor, x_gplain, x_gthen, x_gyield, x_listG, x_dnewT, x_dget, x_dget2, x_dput, x_seq, x_next, x_brk, x_cnt, x_nev, x_ret, x_retN, x_drop, x_ifS, x_asg, x_gn, x_gsub, x_par, x_par3, x_aug, x_for, x_lc, x_rng1, x_rng2, x_rng3, x_ilist, x_itup, x_ienum, x_izip, x_izipA, x_istr, x_var, x_c, x_op, x_un, x_test, x_b, x_chain, x_and, x_or, x_not, x_andV, x_orV, x_notV, x_ife, x_nil, x_cons, x_lst, x_tup, x_cb, x_call, x_callK, x_bm, x_bm0, x_tru, x_sl, x_nopart, x_part, x_revL, x_I0, x_I, x_U, x_ip, x_ipC, x_eqI, x_neI, x_eqB, x_neB, x_eqS, x_neS, x_isB, x_isNB, x_lrg, x_gall, x_lenSet, x_augS, x_sortSet, x_rg1, x_rg2,
  L2.start, List.map_cons, List.map_nil, List.length_cons, List.length_nil, Nat.reduceAdd, Nat.reduceSub, Nat.sub_self, Nat.zero_add, List.replicate, List.replicate_succ, List.replicate_zero, List.append_nil, List.cons_append, List.nil_append, List.set_cons_zero, List.set_cons_succ, List.getElem?_cons_zero, List.getElem?_cons_succ, Option.some.injEq, V.int.injEq, V.bl.injEq, V.ref.injEq, V.str.injEq, List.cons.injEq, and_true, true_and, exists_eq_left', exists_eq_left, exists_and_left, exists_eq, if_true, if_false, ite_true, ite_false, Bool.true_eq_false, Bool.false_eq_true, reduceIte, reduceCtorEq, Bool.not_true, Bool.not_false, decide_true, decide_false, decide_eq_true_eq, Bool.and_true, Bool.true_and, Bool.and_self, Bool.and_false, Bool.false_and, Bool.or_self, Bool.or_false, Bool.false_or, Bool.or_true, Bool.true_or, eq_self])
section
variable {P : Program} {w : World} {K : PySem.W.Frag} {mg : Str → Option Value} {base : Heap}
theorem bit_at {x : Nat} (h : x < 12) : (([1, 2, 4, 8, 16, 32, 64, 128, 256, 512, 1024, 2048] : List Int).map V.int)[x]? = some (.int ((2 ^ x : Nat) : Int)) := by
  have : ∀ x : Fin 12, ([1, 2, 4, 8, 16, 32, 64, 128, 256, 512, 1024, 2048] : List Int)[x.val]? = some ((2 ^ x.val : Nat) : Int) := by decide
  rw [List.getElem?_map, this ⟨x, h⟩]
  rfl
theorem ixT {H : Hp} {Q : VK} {p : Addr} {xs : List V} {i : Int} {v : V} (h : SqT K H p xs) (hi : atI xs i = some v) (q : Q v H) : rIxT K (.ref p) (.int i) H Q := ⟨p, xs, i, v, rfl, rfl, h, hi, q⟩
theorem g_nest {i j k : Nat} {σ : L2.St} {H : Hp} {T q : Addr} {x y z : V} {QG : L2.St → Hp → Prop} (h : H T = some (.tup [.ref q, z])) (hq : H q = some (.tup [x, y])) (r : QG (((σ.set i (some x)).set j (some y)).set k (some z)) H) :
    gTup K 2 (gCons (gTup K 2 (gCons (gName i) (gCons (gName j) gNil))) (gCons (gName k) gNil)) (.ref T) σ H QG :=
  ⟨T, [.ref q, z], rfl, .inl (.inl h), rfl, .ref q, [z], rfl, q, [x, y], rfl, .inl (.inl hq), rfl, x, [y], rfl, y, [], rfl, rfl, z, [], rfl, rfl, r⟩
def spHas : Sp := fun vs H Q _ => ∃ (b x : Nat), vs = [.int b, .int x] ∧ x < 12 ∧ Q (.bl (TF.hb b x)) H
theorem ok_has_bit (T : Txt K mg) : FnOk P w K mg base CX0 1 T.f_has_bit T.fd_has_bit ["bits", "page"] spHas := by
  refine T.F_has_bit.ok sc_has_bit (fun vs H Q E h => ?_) (fun cdv A outer s H vs Q E hr h => ?_)
  · obtain ⟨b, x, rfl, _⟩ := h
    rfl
  · obtain ⟨b, x, rfl, hx, k⟩ := h
    apply Exists.intro
    apply And.intro
    · apply pss_one
      exact (ps_ret (pe_cmpR op_eq (pe_op op_modX (pe_op op_fdivX (pv 0) (pe_ix (k_ix_tup (K := K) rfl) (pe_glob (v := V.ref T.a_BITS) (by rfl) T.c_BITS rfl) (pv 1) (fun _ _ => rfl))) pe_int) pe_int (by rfl)))
    walk_at "sx"
    refine ixT (T.s_BITS.at H) (atI_n (j := x) (by rfl) (bit_at hx)) ?_
    walk_at "sx"
    have hp := Nat.two_pow_pos x
    have hp2 : 2 ^ x ≤ 2 ^ 11 := Nat.pow_le_pow_right (by decide) (by omega)
    refine ⟨⟨by omega, Nat.lt_of_le_of_lt (Nat.log2_le_self _) (by omega)⟩, by decide, ?_⟩
    have e : (((b : Nat) : Int) / ((2 ^ x : Nat) : Int)) % 2 = ((b / 2 ^ x % 2 : Nat) : Int) := by rw [Int.natCast_emod, Int.natCast_ediv]; rfl
    have e2 : decide (((b / 2 ^ x % 2 : Nat) : Int) = 1) = TF.hb b x := by
      unfold TF.hb
      exact decide_eq_decide.mpr (by omega)
    rw [e, e2]
    exact k
theorem nat_sum : ∀ l : List Nat, (l.map fun n : Nat => (n : Int)).sum = ((l.sum : Nat) : Int)
  | [] => rfl
  | a :: l => by rw [List.map_cons, List.sum_cons, List.sum_cons, nat_sum l, Int.natCast_add]
theorem last_nz {t : List Nat} (h : t ≠ []) : ((nz t).map V.int)[((nz t).map V.int).length - 1]? = some (.int (lst t : Nat)) := by
  rw [List.length_map, nz_len]
  refine nz_at ?_
  rw [← List.getLast?_eq_getElem?]
  unfold lst
  cases c : t.getLast? with
  | none => exact absurd (List.getLast?_eq_none_iff.mp c) h
  | some y => rfl
theorem put2_len (L : TF.KD) (k : Nat × Nat) (n : Nat) : (TF.put2 L k n).length ≤ L.length + 1 := by
  unfold TF.put2
  split
  · rw [List.length_map]; omega
  · rw [List.length_append, List.length_singleton]; exact Nat.le_refl _
theorem asc_of {G : Grid} (ok : SiteOk G) : TF.Asc G := fun i => by
  unfold row
  rw [List.getD_eq_getElem?_getD]
  cases e : G[i]? with
  | none => exact List.Pairwise.nil
  | some r => exact ok.asc i r e
end
section
variable {P : Program} {w : World} {K : PySem.W.Frag} {mg : Str → Option Value} {base : Heap}
theorem g_pr {i j : Nat} {σ : L2.St} {H : Hp} {T : Addr} {x y : V} {QG : L2.St → Hp → Prop} (h : SqT K H T [x, y]) (r : QG ((σ.set i (some x)).set j (some y)) H) :
    gTup K 2 (gCons (gName i) (gCons (gName j) gNil)) (.ref T) σ H QG := ⟨T, [x, y], rfl, h, rfl, x, [y], rfl, y, [], rfl, rfl, r⟩
/-- a set of pages as a number -/
def spBits (K : PySem.W.Frag) : Sp := fun vs H Q _ => ∃ (a : Addr) (L : List Nat), vs = [.ref a] ∧ SqL K H a ((nz L).map V.int) ∧ (∀ x ∈ L, x < 12) ∧ ∀ H', Ex H H' → Q (.int (TF.bits L : Nat)) H'
theorem bits_take {L : List Nat} {i x : Nat} (h : L[i]? = some x) : TF.bits (L.take (i + 1)) = TF.bits (L.take i) + 2 ^ x := by
  rw [List.take_add_one, h]
  exact TF.bits_snoc _ _
theorem ok_bits_of (T : Txt K mg) : FnOk P w K mg base CX0 1 T.f_bits_of T.fd_bits_of ["pages"] (spBits K) := by
  refine T.F_bits_of.ok sc_bits_of (fun vs H Q E h => ?_) (fun cdv A outer s H vs Q E hr h => ?_)
  · obtain ⟨a, L, rfl, _⟩ := h
    rfl
  · obtain ⟨a, L, rfl, hA, h12, k⟩ := h
    apply Exists.intro
    apply And.intro
    · apply pss_cons
      · exact (ps_set (i := 1) sc_bits_of.nd rfl (.inl rfl) pe_int)
      apply pss_cons
      · apply ps_for PassesOwn.never rfl
        · exact (k_pi_list (K := K) rfl (pv 0))
        · exact (pg_name (i := 2) sc_bits_of.nd rfl (.inl rfl))
        · apply pss_one
          exact (ps_aug (i := 1) sc_bits_of.nd rfl (.inl rfl) (pe_ix (k_ix_tup (K := K) rfl) (pe_glob (v := V.ref T.a_BITS) (by rfl) T.c_BITS rfl) (pv 2) (fun _ _ => rfl)) ip_add)
      apply pss_one
      exact (ps_ret (pv 1))
    walk_at "sx"
    refine ⟨⟨_, hA⟩, ?_⟩
    refine lg_list (xs := (nz L).map V.int) (fun i σ' H' => ∃ l2, σ' = [some (.ref a), some (.int (TF.bits (L.take i) : Nat)), l2] ∧ H' = H) ⟨none, rfl, rfl⟩ (fun i σ' H' _ hP => by obtain ⟨_, _, rfl⟩ := hP; exact hA) (fun i v σ' H' hv hP => ?_) (fun σ' H' hP => ?_)
    · obtain ⟨l2, rfl, rfl⟩ := hP
      obtain ⟨x, hx, rfl⟩ := at_nz hv
      have x12 := h12 x (List.mem_of_getElem? hx)
      walk_at "sx"
      refine ixT (T.s_BITS.at H') (atI_n (j := x) (by rfl) (bit_at x12)) ?_
      walk_at "sx"
      exact ⟨by rw [bits_take hx, Int.natCast_add], _, rfl⟩
    · obtain ⟨l2, rfl, rfl⟩ := hP
      walk_at "sx"
      rw [List.length_map, nz_len, List.take_of_length_le (Nat.le_refl _)]
      exact k _ (Ex.refl _)
/-- .. of the orders that begin with a page -/
def spBehind : Sp := fun vs H Q _ => ∃ (d : Addr) (D : TF.KD) (b x : Nat), vs = [.ref d, .int b, .int x] ∧ H d = some (.dT (renP D)) ∧ x < 12 ∧ 2 ^ x ≤ b ∧ ∀ H', Ex H H' → Q (.int (TF.get2 D (b - 2 ^ x, x) : Nat)) H'
theorem ok_number_behind (T : Txt K mg) : FnOk P w K mg base CX0 1 T.f_number_behind T.fd_number_behind ["ways", "bits", "page"] spBehind := by
  refine T.F_number_behind.ok sc_number_behind (fun vs H Q E h => ?_) (fun cdv A outer s H vs Q E hr h => ?_)
  · obtain ⟨d, D, b, x, rfl, _⟩ := h
    rfl
  · obtain ⟨d, D, b, x, rfl, hd, x12, hb, k⟩ := h
    apply Exists.intro
    apply And.intro
    · apply pss_one
      exact (ps_ret (pe_dget2 (hu_of hr) (pv 0) (pe_tup (pa_cons (pe_op op_sub (pv 1) (pe_ix (k_ix_tup (K := K) rfl) (pe_glob (v := V.ref T.a_BITS) (by rfl) T.c_BITS rfl) (pv 2) (fun _ _ => rfl))) (pa_cons (pv 2) pa_nil))) pe_int ⟨rfl, rfl, rfl, rfl⟩))
    walk_at "sx"
    have hp := Nat.two_pow_pos x
    refine ⟨.inr ⟨_, .inl hd⟩, ?_⟩
    refine ixT (T.s_BITS.at H) (atI_n (j := x) (by rfl) (bit_at x12)) ?_
    walk_at "sx"
    rw [show ((b : Nat) : Int) - ((2 ^ x : Nat) : Int) = ((b - 2 ^ x : Nat) : Int) from (Int.ofNat_sub hb).symm]
    refine ⟨by decide, fun w1 nw => ?_⟩
    have ew := Ex.new nw (o := .tup [V.int ((b - 2 ^ x : Nat) : Int), V.int (x : Nat)])
    have hw : (upd H w1 (.tup [V.int ((b - 2 ^ x : Nat) : Int), V.int (x : Nat)])) w1 = some (.tup ((ky (b - 2 ^ x, x)).map kV)) := upd_same
    refine ⟨_, DGet.t (k := ky (b - 2 ^ x, x)) (ew _ _ hd) hw, ?_⟩
    rw [renP_get]
    exact k _ ew
/-- of the orders of pages -/
def spNumOrd (K : PySem.W.Frag) : Sp := fun vs H Q _ => ∃ (a d : Addr) (D : TF.KD) (L : List Nat), vs = [.ref a, .ref d] ∧ SqL K H a ((nz L).map V.int) ∧ H d = some (.dT (renP D)) ∧ (∀ x ∈ L, x < 12) ∧ L.length ≤ 12 ∧ ∀ H', Ex H H' → Q (.int ((L.map fun x => TF.get2 D (TF.bits L - 2 ^ x, x)).sum : Nat)) H'
theorem le_bits {x : Nat} : ∀ {L : List Nat}, x ∈ L → 2 ^ x ≤ TF.bits L
  | y :: L, h => by
    rw [OR.bits_cons]
    rcases List.mem_cons.mp h with rfl | h
    · exact Nat.le_add_right _ _
    · exact Nat.le_trans (le_bits h) (Nat.le_add_left _ _)
theorem ok_number_of_orders (T : Txt K mg) : FnOk P w K mg base CX0 2 T.f_number_of_orders T.fd_number_of_orders ["pages", "ways"] (spNumOrd K) := by
  refine T.F_number_of_orders.ok sc_number_of_orders (fun vs H Q E h => ?_) (fun cdv A outer s H vs Q E hr h => ?_)
  · obtain ⟨a, d, D, L, rfl, _⟩ := h
    rfl
  · obtain ⟨a, d, D, L, rfl, hA, hd, h12, hl, k⟩ := h
    apply Exists.intro
    apply And.intro
    · apply pss_cons
      · exact (ps_set (i := 2) sc_number_of_orders.nd rfl (.inr rfl) (pe_call (ok_bits_of T) (hr.mono (by decide)) (by rfl) T.m_bits_of T.F_bits_of.kp T.b_bits_of .nil pass0 (pa_cons (pv 0) pa_nil)))
      apply pss_one
      exact (ps_ret (pe_callB (k_sum (K := K) rfl rfl) (by rfl) T.n_sum (by decide +kernel) (pa_cons (pe_lc (own := [("page", 3)]) rfl sc_number_of_orders.nd (k_pi_list (K := K) rfl (pv 0)) (blkOk_by (own := [("page", 3)]) (N := ["pages", "ways", "bits", "page"]) (sc := defScope s_number_of_orders) (by decide +kernel)) (fun _ _ _ _ _ => by exact (pg_name (i := 3) sc_number_of_orders.nd rfl (.inl rfl))) (fun _ _ _ _ _ => by exact pts_nil) (fun _ _ _ _ _ => by exact (pe_call (ok_number_behind T) (hr.mono (by decide)) (by rfl) T.m_number_behind T.F_number_behind.kp T.b_number_behind .nil pass0 (pa_cons (pv 1) (pa_cons (pv 2) (pa_cons (pv 3) pa_nil)))))) pa_nil)))
    walk_at "sx"
    refine ⟨a, L, rfl, hA, h12, fun H1 e1 => ?_⟩
    walk_at "sx"
    refine ⟨⟨_, ex_l e1 hA⟩, fun Dl nD => ?_⟩
    refine lc_listE (xs := (nz L).map V.int) (fun i H' => Ex H1 H' ∧ H' Dl = some (.lst ((nz ((L.take i).map fun x => TF.get2 D (TF.bits L - 2 ^ x, x))).map V.int))) ⟨Ex.new nD, upd_same⟩ (fun i H' _ hP => ex_l (e1.trans hP.1) hA) (fun i v H' hv hP => ?_) (fun H' hP => ?_)
    · obtain ⟨e, hD⟩ := hP
      obtain ⟨x, hx, rfl⟩ := at_nz hv
      have hm := List.mem_of_getElem? hx
      have x12 := h12 x hm
      refine ⟨rfl, ?_⟩
      simp only [wipe, List.set_cons_zero, List.set_cons_succ]
      walk_at "sx"
      refine ⟨d, D, _, x, rfl, (e1.trans e) _ _ hd, x12, le_bits hm, fun H4 e4 => ?_⟩
      have hD4 := e4 _ _ hD
      refine ⟨_, hD4, BC.sz_lt (by rw [List.length_map, nz_len, List.length_map, List.length_take]; omega), (e.trans e4).mut nD, ?_⟩
      rw [upd_same, List.take_add_one, hx, Option.toList_some, List.map_append]
      unfold nz
      rw [List.map_append, List.map_append]
      rfl
    · obtain ⟨e, hD⟩ := hP
      rw [List.length_map, nz_len, List.take_of_length_le (Nat.le_refl _)] at hD
      refine sumL (ns := (L.map fun x => TF.get2 D (TF.bits L - 2 ^ x, x)).map fun n : Nat => (n : Int)) (.inl (.inl hD)) ?_
      rw [nat_sum]
      exact k _ (e1.trans e)
/-- the pages that can come next -/
def able (G : Grid) (U : List Nat) (b : Nat) : List Nat := (if U = [] then List.range G.length else row G (lst U)).filter (TF.hb b)
def spNext (K : PySem.W.Frag) : Sp := fun vs H Q _ => ∃ (s t : Addr) (G : Grid) (U : List Nat) (b : Nat), vs = [.ref s, .int b, .ref t] ∧ GridAt H s G ∧ SiteOk G ∧ SqL K H t ((nz U).map V.int) ∧ U.length ≤ 12 ∧ (∀ x ∈ U, x < G.length) ∧ ∀ f H', H f = none → Ex H H' → H' f = some (.lst ((nz (able G U b)).map V.int)) → Q (.ref f) H'
theorem ok_next_pages (T : Txt K mg) : FnOk P w K mg base CX0 2 T.f_next_pages T.fd_next_pages ["site", "bits", "trail"] (spNext K) := by
  refine T.F_next_pages.ok sc_next_pages (fun vs H Q E h => ?_) (fun cdv A outer s H vs Q E hr h => ?_)
  · obtain ⟨s, t, G, U, b, rfl, _⟩ := h
    rfl
  · obtain ⟨s, t, G, U, b, rfl, hS, ok, hT, hl, hlt, k⟩ := h
    apply Exists.intro
    apply And.intro
    · apply pss_cons
      · exact (ps_set (i := 3) sc_next_pages.nd rfl (.inl rfl) (pe_ifExp (pt_cmpR (k_eqD (K := K) rfl hr.units) (pv 2) (pe_lst pa_nil) (by rfl)) (pe_listRg rfl (by rfl) T.n_list (prg_1 (by rfl) T.n_range (pe_callB (k_len (K := K) rfl) (by rfl) T.n_len PySem.boot_len (pa_cons (pv 0) pa_nil)))) (pe_ix (k_ix_list (K := K) rfl) (pv 0) (pe_ix (k_ix_list (K := K) rfl) (pv 2) (pe_un un_neg pe_int) (fun _ _ => rfl)) (fun _ _ => rfl))))
      apply pss_one
      exact (ps_ret (pe_lc (own := [("page", 4)]) rfl sc_next_pages.nd (k_pi_list (K := K) rfl (pv 3)) (blkOk_by (own := [("page", 4)]) (N := ["site", "bits", "trail", "able", "page"]) (sc := defScope s_next_pages) (by decide +kernel)) (fun _ _ _ _ _ => by exact (pg_name (i := 4) sc_next_pages.nd rfl (.inl rfl))) (fun _ _ _ _ _ => by exact (pts_one (pt_val (pe_call (ok_has_bit T) (hr.mono (by decide)) (by rfl) T.m_has_bit T.F_has_bit.kp T.b_has_bit .nil pass0 (pa_cons (pv 1) (pa_cons (pv 4) pa_nil)))))) (fun _ _ _ _ _ => by exact (pv 4))))
    walk_at "sx"
    have fin : ∀ (q : Addr) (A : List Nat) (H1 : Hp), Ex H H1 → SqL K H1 q ((nz A).map V.int) → (∀ x ∈ A, x < 12) → A.length ≤ 12 → A.filter (TF.hb b) = able G U b → ∀ Dl, H1 Dl = none →
        LcG (Itl K q) (gName 4) (tB (tCall spHas [] E0 (tCons (tVar 1) (tCons (tVar 4) tNil)))) (tVar 4) [4] [some (V.ref s), some (V.int b), some (V.ref t), some (V.ref q), none] Dl H1 Q := by
      intro q A H1 e1 hq h12 hl2 hA Dl nD
      refine lc_listT (xs := (nz A).map V.int) (fun i H' => Ex H1 H' ∧ H' Dl = some (.lst ((nz ((A.take i).filter (TF.hb b))).map V.int))) ⟨Ex.new nD, upd_same⟩ (fun i H' _ hP => ex_l hP.1 hq) (fun i v H' hv hP => ?_) (fun H' hP => ?_)
      · obtain ⟨e, hD⟩ := hP
        obtain ⟨x, hx, rfl⟩ := at_nz hv
        have hm := List.mem_of_getElem? hx
        refine ⟨rfl, ?_⟩
        simp only [wipe, List.set_cons_zero, List.set_cons_succ]
        walk_at "sx"
        refine ⟨b, x, rfl, h12 x hm, ?_⟩
        walk_at "sx"
        have st : (A.take (i + 1)).filter (TF.hb b) = (A.take i).filter (TF.hb b) ++ (if TF.hb b x = true then [x] else []) := by
          rw [List.take_add_one, hx, Option.toList_some, List.filter_append]
          congr 1
          cases c : TF.hb b x with
          | true => rw [List.filter_cons_of_pos c, if_pos rfl]; rfl
          | false => rw [List.filter_cons_of_neg (by rw [c]; decide), if_neg (by decide)]; rfl
        cases c : TF.hb b x with
        | true =>
          walk_at "sx"
          rw [c, if_pos rfl] at st
          refine ⟨_, hD, BC.sz_lt ?_, e.mut nD, ?_⟩
          · have f1 := List.length_filter_le (TF.hb b) (A.take i)
            rw [List.length_take] at f1
            rw [List.length_map, nz_len]
            omega
          · rw [upd_same, st]
            unfold nz
            rw [List.map_append, List.map_append]
            rfl
        | false =>
          walk_at "sx"
          rw [c, if_neg (by decide), List.append_nil] at st
          exact ⟨e, by rw [hD, st]⟩
      · obtain ⟨e, hD⟩ := hP
        rw [List.length_map, nz_len, List.take_of_length_le (Nat.le_refl _), hA] at hD
        exact k Dl H' (fresh_back e1 nD) (e1.trans e) hD
    refine ⟨by decide, fun e0 ne0 => ?_⟩
    have ee := Ex.new ne0 (o := .lst [])
    refine eqInts (ms := []) (ex_l ee hT) (.inl (.inl upd_same)) ?_
    generalize (upd H e0 (.lst [])) = H1 at ee ⊢
    have n2 := ok.n2
    by_cases c : U = []
    · subst c
      rw [decide_eq_true (show nz [] = [] from rfl)]
      walk_at "sx"
      obtain ⟨xs, hs, hlx, hrow⟩ := (hS.ex ee).lst
      refine lenL (.inl (.inl hs)) ?_
      rw [hlx]
      walk_at "sx"
      refine ⟨by unfold RgOk; omega, fun q nq => ?_⟩
      have eq1 := Ex.new nq (o := .lst (rgV 0 (G.length : Nat)))
      have hr : rgV 0 ((G.length : Nat) : Int) = (nz (List.range G.length)).map V.int := by
        rw [rgV_ints]
        unfold nz
        congr 1
        rw [show (((G.length : Nat) : Int) - 0).toNat = G.length by omega]
        exact List.map_congr_left fun i _ => by omega
      have hq : (upd H1 q (.lst (rgV 0 (G.length : Nat)))) q = some (.lst ((nz (List.range G.length)).map V.int)) := by rw [upd_same, hr]
      generalize (upd H1 q (.lst (rgV 0 (G.length : Nat)))) = H2 at eq1 hq ⊢
      exact ⟨⟨_, .inl (.inl hq)⟩, fin q _ H2 (ee.trans eq1) (.inl (.inl hq)) (fun x hx => by have := List.mem_range.mp hx; omega) (by rw [List.length_range]; omega) rfl⟩
    · rw [show decide (nz U = []) = false from decide_eq_false fun z => c (List.map_eq_nil_iff.mp z)]
      walk_at "sx"
      have hi := last_nz c
      refine ixL (ex_l ee hT) (BC.atI_last hi) ?_
      have hlU : lst U < G.length := by
        unfold lst
        cases e : U.getLast? with
        | none => exact absurd (List.getLast?_eq_none_iff.mp e) c
        | some y => exact hlt y (List.mem_of_getLast? e)
      obtain ⟨ps, hs, hps, hrow⟩ := hS.ex ee
      obtain ⟨r, hr⟩ : ∃ r, ps[lst U]? = some r := ⟨_, List.getElem?_eq_getElem (by omega)⟩
      have hrr := hrow _ _ hr
      refine ixL (.inl (.inl hs)) (atI_n (j := lst U) (by rfl) (by rw [List.getElem?_map, hr]; rfl)) ?_
      refine ⟨r, rfl, ⟨_, .inl (.inl hrr)⟩, ?_⟩
      exact fin r _ H1 ee (.inl (.inl hrr)) (fun x hx => by have := ok.rlt hx; omega) (ok.rlen _) (by unfold able; rw [if_neg c])
end
end LW

set_option Elab.async false
set_option linter.all false
set_option maxRecDepth 100000
set_option maxHeartbeats 4000000
namespace LW
open PySem PySem.Spec PyProof.Rows L2 BC Evl TR
local macro_rules | `(tactic| walk_at "sx") => `(tactic| try simp only [x_dcT, x_dc, x_updT, x_iitemsT, x_dispT1, x_valsT, x_lockT, SL.x_yfor, SL.x_yplain, SL.x_ythen, SL.x_y0, SL.x_yyield, SL.x_ywhile, SL.x_callY, SL.x_callYK, x_gwhile, x_callG, x_g0, x_gfor, x_gplain, x_gthen, x_gyield, x_listG, x_dnewT, x_dget, x_dget2, x_dput, x_seq, x_next, x_brk, x_cnt, x_nev, x_ret, x_retN, x_drop, x_ifS, x_asg, x_gn, x_gsub, x_par, x_par3, x_aug, x_for, x_lc, x_rng1, x_rng2, x_rng3, x_ilist, x_itup, x_ienum, x_izip, x_izipA, x_istr, x_var, x_c, x_op, x_un, x_test, x_b, x_chain, x_and, x_or, x_not, x_andV, x_orV, x_notV, x_ife, x_nil, x_cons, x_lst, x_tup, x_cb, x_call, x_callK, x_bm, x_bm0, x_tru, x_sl, x_nopart, x_part, x_revL, x_I0, x_I, x_U, x_ip, x_ipC, x_eqI, x_neI, x_eqB, x_neB, x_eqS, x_neS, x_isB, x_isNB, x_lrg, x_gall, x_lenSet, x_augS, x_sortSet, x_rg1, x_rg2,
  L2.start, List.map_cons, List.map_nil, List.length_cons, List.length_nil, Nat.reduceAdd, Nat.reduceSub, Nat.sub_self, Nat.zero_add, List.replicate, List.replicate_succ, List.replicate_zero, List.append_nil, List.cons_append, List.nil_append, List.set_cons_zero, List.set_cons_succ, List.getElem?_cons_zero, List.getElem?_cons_succ, Option.some.injEq, V.int.injEq, V.bl.injEq, V.ref.injEq, V.str.injEq, List.cons.injEq, and_true, true_and, exists_eq_left', exists_eq_left, exists_and_left, exists_eq, if_true, if_false, ite_true, ite_false, Bool.true_eq_false, Bool.false_eq_true, reduceIte, reduceCtorEq, Bool.not_true, Bool.not_false, decide_true, decide_false, decide_eq_true_eq, Bool.and_true, Bool.true_and, Bool.and_self, Bool.and_false, Bool.false_and, Bool.or_self, Bool.or_false, Bool.false_or, Bool.or_true, Bool.true_or, eq_self])
section
variable {P : Program} {w : World} {K : PySem.W.Frag} {mg : Str → Option Value} {base : Heap}
def ahK (xs : List Nat) (rs : List Addr) : List (Key × V) := (xs.zip rs).map fun p => (Sum.inl (p.1 : Int), V.ref p.2)
theorem ahK_put {xs : List Nat} {rs : List Addr} {x : Nat} {r : Addr} (hl : xs.length = rs.length) (hx : x ∉ xs) : putK (ahK xs rs) (Sum.inl (x : Int)) (.ref r) = ahK (xs ++ [x]) (rs ++ [r]) := by
  unfold putK ahK
  rw [if_neg, List.zip_append hl, List.map_append]
  · rfl
  · rw [List.any_eq_true]
    rintro ⟨kv, hk, e⟩
    obtain ⟨p, hp, rfl⟩ := List.mem_map.mp hk
    have e := Sum.inl.inj (of_decide_eq_true e)
    exact hx (by rw [← Int.ofNat_inj.mp e]; exact (List.of_mem_zip hp).1)
theorem ahK_get : ∀ {xs : List Nat} {rs : List Addr} {i x : Nat} {r : Addr}, xs.Nodup → xs[i]? = some x → rs[i]? = some r → valV (ahK xs rs) (Sum.inl (x : Int)) = some (.ref r)
  | [], _, _, _, _, _, h, _ => by simp at h
  | _ :: _, [], _, _, _, _, _, h => by simp at h
  | y :: xs, q :: rs, 0, x, r, _, h1, h2 => by
    cases Option.some.inj h1
    cases Option.some.inj h2
    exact valV_pos rfl
  | y :: xs, q :: rs, i + 1, x, r, nd, h1, h2 => by
    rw [List.nodup_cons] at nd
    have h1 : xs[i]? = some x := h1
    have ih := ahK_get nd.2 h1 (show rs[i]? = some r from h2)
    refine (valV_neg fun e => ?_).trans ih
    have e := Sum.inl.inj e
    exact nd.1 (by rw [show y = x from Int.ofNat_inj.mp e]; exact List.mem_of_getElem? h1)
theorem ahK_len (xs : List Nat) (rs : List Addr) : (ahK xs rs).length ≤ xs.length := by
  unfold ahK
  rw [List.length_map, List.length_zip]
  omega
/-- pages with their bits -/
def RowA (H : Hp) (r : Addr) (xs : List Nat) : Prop := ∃ ts : List Addr, H r = some (.lst (ts.map V.ref)) ∧ ts.length = xs.length ∧ ∀ (j : Nat) u y, ts[j]? = some u → xs[j]? = some y → H u = some (.tup [V.int (y : Nat), V.int ((2 ^ y : Nat) : Int)])
theorem RowA.ex {H H' : Hp} {r : Addr} {xs : List Nat} (h : RowA H r xs) (e : Ex H H') : RowA H' r xs := by
  obtain ⟨ts, a, b, c⟩ := h
  exact ⟨ts, e _ _ a, b, fun j u y h1 h2 => e _ _ (c j u y h1 h2)⟩
theorem RowA.mut {H : Hp} {D r : Addr} {xs : List Nat} {o : HO} {kvs : List (Key × V)} (h : RowA H r xs) (hD : H D = some (.dK kvs)) : RowA (upd H D o) r xs := by
  obtain ⟨ts, a, b, c⟩ := h
  refine ⟨ts, ?_, b, fun j u y h1 h2 => ?_⟩
  · rw [upd_ne fun z => by rw [z, hD] at a; cases a]; exact a
  · have c := c j u y h1 h2
    rw [upd_ne fun z => by rw [z, hD] at c; cases c]; exact c
theorem RowA.push {H H' : Hp} {r u : Addr} {xs : List Nat} {y : Nat} {ts : List Addr} (ht : H r = some (.lst (ts.map V.ref))) (hl : ts.length = xs.length) (hc : ∀ (j : Nat) u y, ts[j]? = some u → xs[j]? = some y → H u = some (.tup [V.int (y : Nat), V.int ((2 ^ y : Nat) : Int)])) (e : Ex H H') (hu : H' u = some (.tup [V.int (y : Nat), V.int ((2 ^ y : Nat) : Int)])) :
    RowA (upd H' r (.lst (ts.map V.ref ++ [V.ref u]))) r (xs ++ [y]) := by
  refine ⟨ts ++ [u], by rw [upd_same, List.map_append]; rfl, by rw [List.length_append, List.length_append, hl]; rfl, fun j v z h1 h2 => ?_⟩
  have hr := e _ _ ht
  have go : ∀ {v : Addr} {z : Nat}, H' v = some (.tup [V.int (z : Nat), V.int ((2 ^ z : Nat) : Int)]) → (upd H' r (.lst (ts.map V.ref ++ [V.ref u]))) v = some (.tup [V.int (z : Nat), V.int ((2 ^ z : Nat) : Int)]) := fun {v z} h => by
    rw [upd_ne fun q => by rw [q, hr] at h; cases h]; exact h
  by_cases c : j < ts.length
  · rw [List.getElem?_append_left c] at h1
    rw [List.getElem?_append_left (by omega)] at h2
    exact go (e _ _ (hc j v z h1 h2))
  · have := (List.getElem?_eq_some_iff.mp h1).1
    rw [List.length_append] at this
    have hj : j = ts.length := by
      have : j < ts.length + 1 := this
      omega
    subst hj
    rw [List.getElem?_append_right (Nat.le_refl _), Nat.sub_self] at h1
    rw [hl, List.getElem?_append_right (Nat.le_refl _), Nat.sub_self] at h2
    cases Option.some.inj h1
    cases Option.some.inj h2
    exact go hu
theorem hk_tab : (List.range 12).map (fun x : Nat => hkI [0, (x : Int)]) = [-8458139203682520985, -1950498447580522560, 7204814214171964562, -4734289103435588629, 1773351652666409796, -3119722376306286570, -1010439003188656273, -5903513032161352639, 604127723940645786, -4288946305032050580, -2179662931914420283, 4327977824187578142] := by decide +kernel
theorem hk_at {x : Nat} (h : x < 12) : ([-8458139203682520985, -1950498447580522560, 7204814214171964562, -4734289103435588629, 1773351652666409796, -3119722376306286570, -1010439003188656273, -5903513032161352639, 604127723940645786, -4288946305032050580, -2179662931914420283, 4327977824187578142] : List Int)[x]? = some (hkI [0, (x : Int)]) := by
  rw [← hk_tab, List.getElem?_map, List.getElem?_range h]
  rfl
theorem hk_two {x y : Nat} (h1 : x < 12) (h2 : y < 12) (e : hkI [0, (x : Int)] = hkI [0, (y : Int)]) : x = y :=
  (List.getElem?_inj h1 (by decide)).mp ((hk_at h1).trans ((congrArg some e).trans (hk_at h2).symm))
theorem hk_nodup {L : List Nat} (nd : L.Nodup) (h : ∀ x ∈ L, x < 12) : ((L.map fun x : Nat => [(0 : Int), (x : Int)]).map hkI).Nodup := by
  rw [List.nodup_iff_pairwise_ne, List.pairwise_map, List.pairwise_map]
  refine List.Pairwise.imp_of_mem (R := fun a b => a ≠ b) (fun {a b} ha hb ne e => ?_) (List.nodup_iff_pairwise_ne.mp nd)
  exact ne (hk_two (h a ha) (h b hb) e)
/-! the layers, item by item -/
def Ws (G : Grid) (L : List Nat) (Y : TF.KD) (i : Nat) : TF.KD := OR.step1 G L [] (Y.take i)
def Wi (G : Grid) (L : List Nat) (Y : TF.KD) (i : Nat) (e : (Nat × Nat) × Nat) (j : Nat) : TF.KD := OR.ext1 (Ws G L Y i) e ((OR.ahead G L e.1.2).take j)
theorem Wi_succ {G : Grid} {L : List Nat} {Y : TF.KD} {i : Nat} {e : (Nat × Nat) × Nat} {j x : Nat} (h : (OR.ahead G L e.1.2)[j]? = some x) : Wi G L Y i e (j + 1) = if TF.hb e.1.1 x then Wi G L Y i e j else TF.add2 (Wi G L Y i e j) (e.1.1 + 2 ^ e.1.2, x) e.2 := by
  unfold Wi OR.ext1
  rw [List.take_add_one, h, List.foldl_append]
  rfl
theorem Ws_succ {G : Grid} {L : List Nat} {Y : TF.KD} {i : Nat} {e : (Nat × Nat) × Nat} (h : Y[i]? = some e) : Ws G L Y (i + 1) = Wi G L Y i e (OR.ahead G L e.1.2).length := by
  unfold Wi Ws OR.step1
  rw [List.take_add_one, h, List.foldl_append, List.take_of_length_le (Nat.le_refl _)]
  rfl
theorem fnd_len {G : Grid} (ok : SiteOk G) {L : List Nat} (nd : L.Nodup) (hlt : ∀ x ∈ L, x < G.length) (h7 : G.length ≤ 7) : ∀ n, (OR.fnd G L n).length ≤ 896 * (n + 1)
  | 0 => OR.ly_len (OR.lay_ly ok nd 0) hlt h7
  | n + 1 => by
    show (OR.fnd G L n ++ OR.lay G L (n + 1)).length ≤ _
    rw [List.length_append]
    have h1 := fnd_len ok nd hlt h7 n
    have h2 := OR.ly_len (OR.lay_ly ok nd (n + 1)) hlt h7
    omega
theorem nd_len {n : Nat} {L : List Nat} (nd : L.Nodup) (h : ∀ x ∈ L, x < n) : L.length ≤ n := by
  have := OR.sub_le nd (m := List.range n) fun x hx => List.mem_range.mpr (h x hx)
  rwa [List.length_range] at this
/-- the ways on by (set, last page) -/
def spWays (K : PySem.W.Frag) : Sp := fun vs H Q _ => ∃ (s a : Addr) (G : Grid) (L : List Nat), vs = [.ref s, .ref a] ∧ GridAt H s G ∧ SiteOk G ∧ G.length ≤ 7 ∧ SqL K H a ((nz L).map V.int) ∧ L.Nodup ∧ (∀ x ∈ L, x < G.length) ∧
  ∀ f H', H f = none → Ex H H' → H' f = some (.dT (renP (OR.fnd G L (L.length - 1)))) → Q (.ref f) H'
def JAh (H : Hp) (D : Addr) (G : Grid) (L : List Nat) (i : Nat) (H' : Hp) : Prop := Ex H H' ∧ ∃ rs : List Addr, rs.length = i ∧ H' D = some (.dK (ahK (L.take i) rs)) ∧ ∀ (j : Nat) r x, rs[j]? = some r → L[j]? = some x → RowA H' r (OR.ahead G L x)
def JWo (H1 : Hp) (s a D F Y0 : Addr) (G : Grid) (L : List Nat) (i : Nat) (σ' : L2.St) (H' : Hp) : Prop := ∃ l5 l6 l7 l8 l9 l11 l12 l13 Y, σ' = [some (.ref s), some (.ref a), some (.ref D), some (.ref F), some (.ref Y), l5, l6, l7, l8, l9, none, l11, l12, l13] ∧
  Ex H1 H' ∧ H1 F = none ∧ H1 Y = none ∧ F ≠ Y ∧ H' F = some (.dT (renP (OR.fnd G L i))) ∧ H' Y = some (.dT (renP (OR.lay G L i)))
def JLw (HF : Hp) (s a D F Y p : Addr) (li : Int) (G : Grid) (L : List Nat) (M : TF.KD) (u : Nat) (σ' : L2.St) (H' : Hp) : Prop := ∃ l7 l8 l9 l11 l12 l13, σ' = [some (.ref s), some (.ref a), some (.ref D), some (.ref F), some (.ref Y), some (.int li), some (.ref p), l7, l8, l9, none, l11, l12, l13] ∧ Fx p HF H' ∧ H' p = some (.dT (renP (Ws G L M u))) ∧ (Ws G L M u).length ≤ 7 * u
def JLv (HF : Hp) (s a D F Y p : Addr) (li : Int) (G : Grid) (L : List Nat) (M : TF.KD) (u : Nat) (e : (Nat × Nat) × Nat) (j : Nat) (σ' : L2.St) (H' : Hp) : Prop := ∃ l7 l13, σ' = [some (.ref s), some (.ref a), some (.ref D), some (.ref F), some (.ref Y), some (.int li), some (.ref p), l7, some (.int e.2), some (.int ((e.1.1 + 2 ^ e.1.2 : Nat) : Int)), none, some (.int e.1.1), some (.int e.1.2), l13] ∧ Fx p HF H' ∧ H' p = some (.dT (renP (Wi G L M u e j))) ∧ (Wi G L M u e j).length ≤ 7 * u + j
theorem ok_ways_on (T : Txt K mg) : FnOk P w K mg base CX0 1 T.f_ways_on T.fd_ways_on ["site", "pages"] (spWays K) := by
  refine T.F_ways_on.ok sc_ways_on (fun vs H Q E h => ?_) (fun cdv A outer s H vs Q E hr h => ?_)
  · obtain ⟨s, a, G, L, rfl, _⟩ := h
    rfl
  · obtain ⟨s, a, G, L, rfl, hS, ok, h7, hA, nd, hlt, k⟩ := h
    apply Exists.intro
    apply And.intro
    · apply pss_cons
      · exact (ps_setDc (i := 2) (own := [("page", 7)]) rfl sc_ways_on.nd rfl rfl (sw_trueD rfl rfl rfl (by decide +kernel)) (k_pi_list (K := K) rfl (pv 1)) (blkOk_by (own := [("page", 7)]) (N := ["site", "pages", "ahead", "found", "layer", "left", "longer", "page", "number", "more", "other", "bits", "first", "bit"]) (sc := defScope s_ways_on) (by decide +kernel)) (fun _ _ _ _ _ => by exact (pg_name (i := 7) sc_ways_on.nd rfl (by first | exact .inl rfl | exact .inr rfl))) (fun _ _ _ _ _ => by exact pts_nil) (fun _ _ _ _ _ => by exact (pv 7)) (fun _ _ _ _ _ => by exact (pe_lc (own := [("other", 10)]) rfl sc_ways_on.nd (k_pi_list (K := K) rfl (pv 1)) (blkOk_by (own := [("other", 10)]) (N := ["site", "pages", "ahead", "found", "layer", "left", "longer", "page", "number", "more", "other", "bits", "first", "bit"]) (by kernel_rfl)) (fun _ _ _ _ _ => by exact (pg_name (i := 10) sc_ways_on.nd rfl (.inl rfl))) (fun _ _ _ _ _ => by exact (pts_one (pt_cmpR (k_in (K := K) rfl) (pv 7) (pe_ix (k_ix_list (K := K) rfl) (pv 0) (pv 10) (fun _ _ => rfl)) (by rfl)))) (fun _ _ _ _ _ => by exact (pe_tup (pa_cons (pv 10) (pa_cons (pe_ix (k_ix_tup (K := K) rfl) (pe_glob (v := V.ref T.a_BITS) (by rfl) T.c_BITS rfl) (pv 10) (fun _ _ => rfl)) pa_nil)))))))
      apply pss_cons
      · exact (ps_setDcT (i := 3) (own := [("page", 7)]) rfl hr.units0 sc_ways_on.nd rfl rfl (sw_trueD rfl rfl rfl (by decide +kernel)) (k_pi_list (K := K) rfl (pv 1)) (blkOk_by (own := [("page", 7)]) (N := ["site", "pages", "ahead", "found", "layer", "left", "longer", "page", "number", "more", "other", "bits", "first", "bit"]) (sc := defScope s_ways_on) (by decide +kernel)) (fun _ _ _ _ _ => by exact (pg_name (i := 7) sc_ways_on.nd rfl (.inl rfl))) (fun _ _ _ _ _ => by exact pts_nil) (fun _ _ _ _ _ => by exact (pe_tup (pa_cons pe_int (pa_cons (pv 7) pa_nil)))) (fun _ _ _ _ _ => by exact pe_int))
      apply pss_cons
      · exact (ps_set (i := 4) sc_ways_on.nd rfl (.inl rfl) (pe_callTy (k_dictT hr.units) (by rfl) T.n_dict (by decide +kernel) (pa_cons (pv 3) pa_nil)))
      apply pss_cons
      · apply ps_for PassesOwn.never rfl
        · exact (pi_range1 (by rfl) T.n_range (pa_cons (pe_op op_sub (pe_callB (k_len (K := K) rfl) (by rfl) T.n_len PySem.boot_len (pa_cons (pv 1) pa_nil)) pe_int) pa_nil))
        · exact (pg_name (i := 5) sc_ways_on.nd rfl (.inl rfl))
        · apply pss_cons
          · exact (ps_set (i := 6) sc_ways_on.nd rfl (.inl rfl) pe_dnewT)
          apply pss_cons
          · apply ps_lock
            apply ps_for PassesOwn.never rfl
            · exact (pi_itemsT (pv 4))
            · exact (k_tup (K := K) (n := 2) rfl rfl (pgs_cons (k_tup (K := K) (n := 2) rfl rfl (pgs_cons (pg_name (i := 11) sc_ways_on.nd rfl (.inl rfl)) (pgs_cons (pg_name (i := 12) sc_ways_on.nd rfl (.inl rfl)) pgs_nil))) (pgs_cons (pg_name (i := 8) sc_ways_on.nd rfl (.inl rfl)) pgs_nil)))
            · apply pss_cons
              · exact (ps_set (i := 9) sc_ways_on.nd rfl (.inl rfl) (pe_op op_add (pv 11) (pe_ix (k_ix_tup (K := K) rfl) (pe_glob (v := V.ref T.a_BITS) (by rfl) T.c_BITS rfl) (pv 12) (fun _ _ => rfl))))
              apply pss_one
              apply ps_for PassesOwn.never rfl
              · exact (k_pi_list (K := K) rfl (pe_dget (hu_of hr) (pv 2) (pv 12) (fun _ _ => rfl)))
              · exact (k_tup (K := K) (n := 2) rfl rfl (pgs_cons (pg_name (i := 7) sc_ways_on.nd rfl (.inl rfl)) (pgs_cons (pg_name (i := 13) sc_ways_on.nd rfl (.inl rfl)) pgs_nil)))
              · apply pss_one
                apply ps_if
                · exact (pt_cmpR op_eq (pe_op op_modX (pe_op op_fdivX (pv 11) (pv 13)) pe_int) pe_int (by rfl))
                · apply pss_one
                  exact (ps_dput (hu_of hr) (pv 6) (pe_tup (pa_cons (pv 9) (pa_cons (pv 7) pa_nil))) (pe_op op_add (pe_dget2 (hu_of hr) (pv 6) (pe_tup (pa_cons (pv 9) (pa_cons (pv 7) pa_nil))) pe_int ⟨rfl, rfl, rfl, rfl⟩) (pv 8)) rfl)
                · exact pss_nil
          apply pss_cons
          · exact (ps_expr (pe_updT (hu_of hr) (pv 3) (pv 6) ⟨rfl, rfl, rfl, rfl⟩))
          apply pss_one
          exact (ps_set (i := 4) sc_ways_on.nd rfl (.inl rfl) (pv 6))
      apply pss_one
      exact (ps_ret (pv 3))
    walk_at "sx"
    have hl7 := nd_len nd hlt
    refine ⟨⟨_, hA⟩, fun D nD => ?_⟩
    refine dcg_list (xs := (nz L).map V.int) (JAh H D G L) ⟨Ex.new nD, [], rfl, upd_same, fun j r x h => by simp at h⟩ (fun i H' _ hP => ex_l hP.1 hA) (fun i v H' hv hP => ?_) (fun H1 hP => ?_)
    · obtain ⟨e, rs, hrl, hD, hrow⟩ := hP
      obtain ⟨x, hx, rfl⟩ := at_nz hv
      have hm := List.mem_of_getElem? hx
      have hi := (List.getElem?_eq_some_iff.mp hx).1
      refine ⟨rfl, ?_⟩
      simp only [wipe, List.set_cons_zero, List.set_cons_succ]
      walk_at "sx"
      refine ⟨⟨_, ex_l e hA⟩, fun Dl nDl => ?_⟩
      refine lc_listT (xs := (nz L).map V.int) (fun j H2 => Ex H' H2 ∧ RowA H2 Dl ((L.take j).filter fun p => decide (x ∈ row G p))) ⟨Ex.new nDl, [], upd_same, rfl, fun j r x h => by simp at h⟩ (fun j H2 _ hQ => ex_l (e.trans hQ.1) hA) (fun j v H2 hv hQ => ?_) (fun H2 hQ => ?_)
      · obtain ⟨e2, ts, ht, htl, htc⟩ := hQ
        obtain ⟨y, hy, rfl⟩ := at_nz hv
        have hym := List.mem_of_getElem? hy
        have yG := hlt y hym
        refine ⟨rfl, ?_⟩
        simp only [wipe, List.set_cons_zero, List.set_cons_succ]
        walk_at "sx"
        obtain ⟨ps, hs, hps, hrw⟩ := (hS.ex e).ex e2
        obtain ⟨r, hr⟩ : ∃ r, ps[y]? = some r := ⟨_, List.getElem?_eq_getElem (by omega)⟩
        have hrr := hrw _ _ hr
        refine ixL (.inl (.inl hs)) (atI_n (j := y) (by rfl) (by rw [List.getElem?_map, hr]; rfl)) ?_
        refine inL (.inl (.inl hrr)) ?_
        have eq1 : decide (((x : Nat) : Int) ∈ nz (row G y)) = decide (x ∈ row G y) := by
          by_cases z : x ∈ row G y
          · rw [decide_eq_true z, decide_eq_true (nz_mem.mpr z)]
          · rw [decide_eq_false z, decide_eq_false (fun m => z (nz_mem.mp m))]
        rw [eq1]
        have st : (L.take (j + 1)).filter (fun p => decide (x ∈ row G p)) = (L.take j).filter (fun p => decide (x ∈ row G p)) ++ (if x ∈ row G y then [y] else []) := by
          rw [List.take_add_one, hy, Option.toList_some, List.filter_append]
          congr 1
          by_cases z : x ∈ row G y
          · rw [List.filter_cons_of_pos (p := fun p => decide (x ∈ row G p)) (decide_eq_true z), if_pos z]; rfl
          · rw [List.filter_cons_of_neg (p := fun p => decide (x ∈ row G p)) (by rw [decide_eq_false z]; decide), if_neg z]; rfl
        by_cases z : x ∈ row G y
        · rw [decide_eq_true z]
          rw [if_pos z] at st
          walk_at "sx"
          refine ixT (T.s_BITS.at H2) (atI_n (j := y) (by rfl) (bit_at (by omega))) ?_
          refine ⟨by decide, fun u nu => ?_⟩
          have eu := Ex.new nu (o := .tup [V.int (y : Nat), V.int ((2 ^ y : Nat) : Int)])
          refine ⟨_, eu _ _ ht, BC.sz_lt (by rw [List.length_map, htl]; have := List.length_filter_le (fun p => decide (x ∈ row G p)) (L.take j); rw [List.length_take] at this; omega), (e2.trans eu).mut nDl, ?_⟩
          rw [st]
          exact RowA.push ht htl htc eu upd_same
        · rw [decide_eq_false z]
          rw [if_neg z, List.append_nil] at st
          walk_at "sx"
          exact ⟨e2, by rw [st]; exact ⟨ts, ht, htl, htc⟩⟩
      · obtain ⟨e2, hR⟩ := hQ
        rw [List.length_map, nz_len, List.take_of_length_le (Nat.le_refl _)] at hR
        have hD2 := e2 _ _ hD
        have hz := ahK_len (L.take i) rs
        rw [List.length_take] at hz
        refine ⟨_, Sum.inl (x : Int), rfl, hD2, BC.sz_lt (by omega), (e.trans e2).mut nD, rs ++ [Dl], by rw [List.length_append, hrl]; rfl, ?_, fun j r z h1 h2 => ?_⟩
        · rw [upd_same, ahK_put (by rw [List.length_take, hrl]; omega) (fun m => ?_), List.take_add_one, hx]
          · rfl
          · obtain ⟨j, hj, hjx⟩ := List.mem_iff_getElem.mp m
            rw [List.length_take] at hj
            rw [List.getElem_take] at hjx
            have h2 : L[j]? = some x := by rw [List.getElem?_eq_getElem (by omega), hjx]
            have := (List.getElem?_inj hi nd).mp (hx.trans h2.symm)
            omega
        · refine RowA.mut ?_ hD2
          by_cases c : j < rs.length
          · rw [List.getElem?_append_left c] at h1
            exact (hrow j r z h1 h2).ex e2
          · have := (List.getElem?_eq_some_iff.mp h1).1
            rw [List.length_append] at this
            have hj : j = rs.length := by
              have : j < rs.length + 1 := this
              omega
            subst hj
            rw [List.getElem?_append_right (Nat.le_refl _), Nat.sub_self] at h1
            cases Option.some.inj h1
            rw [hrl, hx] at h2
            cases Option.some.inj h2
            exact hR
    · obtain ⟨e1, rs, hrl, hD, hrow⟩ := hP
      rw [List.length_map, nz_len] at hrl hD
      rw [List.take_of_length_le (Nat.le_refl _)] at hD
      refine ⟨⟨_, ex_l e1 hA⟩, fun F nF => ?_⟩
      refine dct_list (xs := (nz L).map V.int) (fun i H' => Ex H1 H' ∧ H' F = some (.dT (renP ((L.take i).map fun p => ((0, p), 1))))) ⟨Ex.new nF, upd_same⟩ (fun i H' _ hP => ex_l (e1.trans hP.1) hA) (fun i v H' hv hP => ?_) (fun H2 hP => ?_)
      · obtain ⟨e, hF⟩ := hP
        obtain ⟨x, hx, rfl⟩ := at_nz hv
        have hi := (List.getElem?_eq_some_iff.mp hx).1
        refine ⟨rfl, ?_⟩
        simp only [wipe, List.set_cons_zero, List.set_cons_succ]
        walk_at "sx"
        refine ⟨by decide, fun u nu => ?_⟩
        have eu := Ex.new nu (o := .tup [V.int 0, V.int (x : Nat)])
        refine ⟨_, ky (0, x), upd_same, eu _ _ hF, BC.sz_lt (by rw [renP_len, List.length_map, List.length_take]; omega), (e.trans eu).mut nF, ?_⟩
        have hp := renP_put ((L.take i).map fun p => ((0, p), 1)) (0, x) 1
        rw [upd_same]
        refine congrArg (fun z => some (HO.dT z)) (hp.trans ?_)
        congr 1
        unfold TF.put2
        rw [if_neg, List.take_add_one, hx, List.map_append]
        · rfl
        · rw [List.any_eq_true]
          rintro ⟨p, hp, q⟩
          obtain ⟨y, hy, rfl⟩ := List.mem_map.mp hp
          have q : y = x := (Prod.mk.inj (of_decide_eq_true q)).2
          subst q
          obtain ⟨j, hj, hjx⟩ := List.mem_iff_getElem.mp hy
          rw [List.length_take] at hj
          rw [List.getElem_take] at hjx
          have h2 : L[j]? = some y := by rw [List.getElem?_eq_getElem (by omega), hjx]
          have := (List.getElem?_inj hi nd).mp (hx.trans h2.symm)
          omega
      · obtain ⟨e2, hF⟩ := hP
        rw [List.length_map, nz_len, List.take_of_length_le (Nat.le_refl _)] at hF
        refine ⟨F, _, L.map fun x : Nat => [(0 : Int), (x : Int)], rfl, hF, ?_, hk_nodup nd (fun x hx => by have := hlt x hx; omega), fun Y nY => ?_⟩
        · unfold renP
          rw [List.map_map, List.map_map, List.map_map]
          rfl
        have eY := Ex.new nY (o := .dT (renP (L.map fun p => ((0, p), 1))))
        have hF2 := eY _ _ hF
        have hY2 : (upd H2 Y (.dT (renP (L.map fun p => ((0, p), 1))))) Y = some (.dT (renP (OR.lay G L 0))) := upd_same
        have nYF : F ≠ Y := ne_of_none hF nY
        have hF2 : (upd H2 Y (.dT (renP (L.map fun p => ((0, p), 1))))) F = some (.dT (renP (OR.fnd G L 0))) := hF2
        have e3 : Ex H1 (upd H2 Y (.dT (renP (L.map fun p => ((0, p), 1))))) := e2.trans eY
        have nY1 : H1 Y = none := fresh_back e2 nY
        generalize (upd H2 Y (.dT (renP (L.map fun p => ((0, p), 1))))) = H3 at hF2 hY2 e3 ⊢
        refine lenL (ex_l (e1.trans e3) hA) ?_
        rw [List.length_map, nz_len]
        walk_at "sx"
        refine ⟨by omega, by omega, ?_⟩
        rw [show (((L.length : Nat) : Int) - 1).toNat = L.length - 1 by omega]
        refine lg_rng (JWo H1 s a D F Y G L) ⟨none, none, none, none, none, none, none, none, Y, rfl, e3, nF, nY1, nYF, hF2, hY2⟩ (fun i σ' H' hi hP => ?_) (fun σ' H' hP => ?_)
        · obtain ⟨l5, l6, l7, l8, l9, l11, l12, l13, Y, rfl, e4, nF1, nY1, nFY, hF, hY⟩ := hP
          walk_at "sx"
          intro p np
          have e5 := Ex.new np (o := .dT [])
          have npY : p ≠ Y := Ne.symm (ne_of_none hY np)
          have npF : p ≠ F := Ne.symm (ne_of_none hF np)
          have np1 : H1 p = none := fresh_back e4 np
          refine ⟨Y, _, e5 _ _ hY, trivial, fun od => ⟨od, _, upd_same, ?_⟩⟩
          have hFp : (upd (upd H' p (HO.dT [])) Y (HO.frz od (.dT (renP (OR.lay G L i))))) p = some (.dT (renP (Ws G L (OR.lay G L i) 0))) := by rw [upd_ne npY, upd_same]; rfl
          have hFd : (upd (upd H' p (HO.dT [])) Y (HO.frz od (.dT (renP (OR.lay G L i))))) Y = some (HO.frz od (.dT (renP (OR.lay G L i)))) := upd_same
          have hFo : ∀ b o, b ≠ Y → H' b = some o → (upd (upd H' p (HO.dT [])) Y (HO.frz od (.dT (renP (OR.lay G L i))))) b = some o := fun b o n h => by rw [upd_ne n]; exact e5 _ _ h
          generalize hHF : (upd (upd H' p (HO.dT [])) Y (HO.frz od (.dT (renP (OR.lay G L i))))) = HF at hFp hFd hFo ⊢
          have ly := OR.lay_ly ok nd i
          have lyl := OR.ly_len ly hlt h7
          have eH1 : Ex H1 HF := fun b o h => hFo b o (ne_of_none h nY1) (e4 _ _ h)
          refine lg_itemsT (JLw HF s a D F Y p (0 + (i : Nat)) G L (OR.lay G L i)) ⟨l7, l8, l9, l11, l12, l13, rfl, Fx.refl _ _, hFp, Nat.le_refl _⟩ (fun u σ' H' _ hP => ?_) (fun u kk v σ' H' T1 q hkv hP nT hq => ?_) (fun σ' H' hP => ?_)
          · obtain ⟨_, _, _, _, _, _, _, fx, _, _⟩ := hP
            exact fx _ _ (Ne.symm npY) hFd
          · obtain ⟨l7, l8, l9, l11, l12, l13, rfl, fx, hp, hln⟩ := hP
            obtain ⟨e, he⟩ : ∃ e, (OR.lay G L i)[u]? = some e := by
              have := (List.getElem?_eq_some_iff.mp hkv).1
              rw [renP_len] at this
              exact ⟨_, List.getElem?_eq_getElem this⟩
            have := renP_at he
            rw [hkv] at this
            obtain ⟨rfl, rfl⟩ := Prod.mk.inj (Option.some.inj this)
            have hme := List.mem_of_getElem? he
            obtain ⟨hfP, _⟩ := ly.keys e hme
            have f7 := hlt _ hfP
            have nTp : T1 ≠ p := Ne.symm (ne_of_none hp nT)
            have nqT : q ≠ T1 := ne_of_none hq nT
            refine g_nest (x := .int (e.1.1 : Nat)) (y := .int (e.1.2 : Nat)) upd_same (by rw [upd_ne nqT]; exact hq) ?_
            simp only [List.set_cons_zero, List.set_cons_succ]
            have eT := Ex.new nT (o := .tup [.ref q, .int (e.2 : Nat)])
            have fxT := fx.trans (Fx.of (b := p) eT)
            have hpT := eT _ _ hp
            generalize upd H' T1 (.tup [.ref q, .int (e.2 : Nat)]) = H2 at eT fxT hpT ⊢
            walk_at "sx"
            refine ixT (T.s_BITS.at H2) (atI_n (j := e.1.2) (by rfl) (bit_at (by omega))) ?_
            walk_at "sx"
            rw [show ((e.1.1 : Nat) : Int) + ((2 ^ e.1.2 : Nat) : Int) = ((e.1.1 + 2 ^ e.1.2 : Nat) : Int) from (Int.natCast_add _ _).symm]
            obtain ⟨jx, hjx⟩ := List.getElem?_of_mem hfP
            obtain ⟨r, hr⟩ : ∃ r, rs[jx]? = some r := ⟨_, List.getElem?_eq_getElem (by have := (List.getElem?_eq_some_iff.mp hjx).1; omega)⟩
            have eHp : ∀ {H9 : Hp}, Fx p HF H9 → Ex H1 H9 := fun {H9} f b o h => f b o (ne_of_none h np1) (eH1 _ _ h)
            have hD9 := eHp fxT _ _ hD
            refine ⟨V.ref r, .inl ⟨_, Sum.inl (e.1.2 : Int), .inl hD9, rfl, (ahK_get nd hjx hr).symm⟩, ?_⟩
            obtain ⟨ts, ht, htl, htc⟩ := hrow jx r _ hr hjx
            refine ⟨r, rfl, ⟨_, .inl (.inl (eHp fxT _ _ ht))⟩, ?_⟩
            refine lg_list (xs := ts.map V.ref) (JLv HF s a D F Y p (0 + (i : Nat)) G L (OR.lay G L i) u e) ⟨l7, l13, rfl, fxT, hpT, hln⟩ (fun j σ' H' _ hP => ?_) (fun j x σ' H' hx hP => ?_) (fun σ' H' hP => ?_)
            · obtain ⟨_, _, _, fx, _, _⟩ := hP
              exact .inl (.inl (eHp fx _ _ ht))
            · obtain ⟨l7, l13, rfl, fx, hp2, hl2⟩ := hP
              obtain ⟨t, ht', rfl⟩ := refs_at hx
              obtain ⟨x, hx'⟩ : ∃ x, (OR.ahead G L e.1.2)[j]? = some x := ⟨_, List.getElem?_eq_getElem (by have := (List.getElem?_eq_some_iff.mp ht').1; omega)⟩
              have htt := eHp fx _ _ (htc j t x ht' hx')
              have x12 : x < 12 := by
                have := hlt x (List.mem_filter.mp (List.mem_of_getElem? hx')).1
                omega
              have hsucc := Wi_succ (Y := OR.lay G L i) (i := u) hx'
              refine g_pr (.inl (.inl htt)) ?_
              simp only [List.set_cons_zero, List.set_cons_succ]
              walk_at "sx"
              have hpp := Nat.two_pow_pos x
              have hp11 : 2 ^ x ≤ 2 ^ 11 := Nat.pow_le_pow_right (by decide) (by omega)
              refine ⟨⟨by omega, Nat.lt_of_le_of_lt (Nat.log2_le_self _) (by omega)⟩, by decide, ?_⟩
              have ee : ((e.1.1 : Nat) : Int) / ((2 ^ x : Nat) : Int) % 2 = ((e.1.1 / 2 ^ x % 2 : Nat) : Int) := by rw [Int.natCast_emod, Int.natCast_ediv]; rfl
              cases c : TF.hb e.1.1 x with
              | true =>
                rw [if_pos c] at hsucc
                have c := of_decide_eq_true c
                rw [if_neg (by rw [ee, c]; decide)]
                exact ⟨_, _, rfl, fx, by rw [hsucc]; exact hp2, by rw [hsucc]; omega⟩
              | false =>
                rw [if_neg (by rw [c]; decide)] at hsucc
                have c := of_decide_eq_false c
                rw [if_pos (by rw [ee]; omega)]
                have hu := (List.getElem?_eq_some_iff.mp he).1
                have hj := (List.getElem?_eq_some_iff.mp hx').1
                have h77 := Nat.le_trans (List.length_filter_le (fun p => decide (e.1.2 ∈ row G p)) L) hl7
                have h77 : (OR.ahead G L e.1.2).length ≤ G.length := h77
                refine ⟨.inr ⟨_, .inl hp2⟩, by decide, fun w1 nw => ?_⟩
                have ew := Ex.new nw (o := .tup [V.int ((e.1.1 + 2 ^ e.1.2 : Nat) : Int), V.int (x : Nat)])
                have hw : (upd H' w1 (.tup [V.int ((e.1.1 + 2 ^ e.1.2 : Nat) : Int), V.int (x : Nat)])) w1 = some (.tup ((ky (e.1.1 + 2 ^ e.1.2, x)).map kV)) := upd_same
                have hp3 := ew _ _ hp2
                generalize (upd H' w1 (.tup [V.int ((e.1.1 + 2 ^ e.1.2 : Nat) : Int), V.int (x : Nat)])) = H3 at ew hw hp3 ⊢
                refine ⟨_, DGet.t (k := ky (e.1.1 + 2 ^ e.1.2, x)) hp3 hw, ?_⟩
                rw [renP_get]
                walk_at "sx"
                rw [show ((TF.get2 (Wi G L (OR.lay G L i) u e j) (e.1.1 + 2 ^ e.1.2, x) : Nat) : Int) + ((e.2 : Nat) : Int) = ((TF.get2 (Wi G L (OR.lay G L i) u e j) (e.1.1 + 2 ^ e.1.2, x) + e.2 : Nat) : Int) from (Int.natCast_add _ _).symm]
                refine ⟨by decide, fun w2 nw2 => ?_⟩
                have ew2 := Ex.new nw2 (o := .tup [V.int ((e.1.1 + 2 ^ e.1.2 : Nat) : Int), V.int (x : Nat)])
                have hw2 : (upd H3 w2 (.tup [V.int ((e.1.1 + 2 ^ e.1.2 : Nat) : Int), V.int (x : Nat)])) w2 = some (.tup ((ky (e.1.1 + 2 ^ e.1.2, x)).map kV)) := upd_same
                have hp4 := ew2 _ _ hp3
                refine ⟨_, DPut.t (k := ky (e.1.1 + 2 ^ e.1.2, x)) hp4 hw2 (BC.sz_lt (by rw [renP_len]; omega)), ?_⟩
                refine ⟨_, _, rfl, (fx.trans (Fx.of (ew.trans ew2))).trans Fx.put, ?_, ?_⟩
                · rw [upd_same, renP_put, hsucc]
                  rfl
                · rw [hsucc]
                  exact Nat.le_trans (put2_len _ _ _) (by omega)
            · obtain ⟨l7, l13, rfl, fx, hp2, hl2⟩ := hP
              rw [List.length_map, htl] at hp2 hl2
              rw [← Ws_succ he] at hp2 hl2
              have := Nat.le_trans (List.length_filter_le (fun p => decide (e.1.2 ∈ row G p)) L) hl7
              have : (OR.ahead G L e.1.2).length ≤ G.length := this
              exact ⟨_, _, _, _, _, _, rfl, fx, hp2, by omega⟩
          · obtain ⟨l7, l8, l9, l11, l12, l13, rfl, fx, hp, hln⟩ := hP
            rw [renP_len] at hp hln
            have hY9 := fx _ _ (Ne.symm npY) hFd
            refine ⟨hY9, _, rfl, _, rfl, ?_⟩
            have hF9 := fx _ _ (Ne.symm npF) (hFo _ _ nFY hF)
            have hp9 : (upd H' Y (.dT (renP (OR.lay G L i)))) p = some (.dT (renP (OR.lay G L (i + 1)))) := by
              rw [upd_ne npY, hp]
              unfold Ws
              rw [List.take_of_length_le (Nat.le_refl _)]
              rfl
            have hF10 : (upd H' Y (.dT (renP (OR.lay G L i)))) F = some (.dT (renP (OR.fnd G L i))) := by rw [upd_ne nFY]; exact hF9
            have e10 : Ex H1 (upd H' Y (.dT (renP (OR.lay G L i)))) := fun b o h => by
              have nb := ne_of_none h nY1
              rw [upd_ne nb]
              exact fx _ _ (ne_of_none h np1) (hFo _ _ nb (e4 _ _ h))
            generalize (upd H' Y (.dT (renP (OR.lay G L i)))) = H5 at hp9 hF10 e10 ⊢
            have hnl := fnd_len ok nd hlt h7 i
            have lyl1 := OR.ly_len (OR.lay_ly ok nd (i + 1)) hlt h7
            have ne0 : renP (OR.fnd G L i) ≠ [] := fun z => by
              have z1 := congrArg List.length z
              rw [renP_len] at z1
              have : ∀ i, 0 < (OR.fnd G L i).length := fun i => by
                induction i with
                | zero => show 0 < (L.map fun p => ((0, p), 1)).length; rw [List.length_map]; omega
                | succ i ih => show 0 < (OR.fnd G L i ++ OR.lay G L (i + 1)).length; rw [List.length_append]; omega
              have := this i
              rw [z1] at this
              exact absurd this (by decide)
            have dis : ∀ q ∈ renP (OR.lay G L (i + 1)), q.1 ∉ (renP (OR.fnd G L i)).map (·.1) := fun q hq m => by
              obtain ⟨e, he, rfl⟩ := List.mem_map.mp hq
              obtain ⟨q2, hq2, e2⟩ := List.mem_map.mp m
              obtain ⟨e', he', rfl⟩ := List.mem_map.mp hq2
              exact OR.fnd_apart ok nd i e he (by rw [← ky_inj.mp e2]; exact List.mem_map.mpr ⟨e', he', rfl⟩)
            refine ⟨.inr ⟨_, .inl hF10⟩, _, rfl, F, p, _, _, rfl, rfl, hF10, hp9, Ne.symm npF, ne0, dis, ?_, _, rfl, ?_⟩
            · rw [renP_len, renP_len]
              have hs : (7000 : Nat) < sizeLine := BC.sz_lt (by omega)
              omega
            · refine ⟨_, _, l7, l8, l9, l11, l12, l13, p, rfl, e10.mut nF1, nF1, np1, Ne.symm npF, ?_, ?_⟩
              · rw [upd_same]
                unfold renP
                rw [← List.map_append]
                rfl
              · rw [upd_ne npF]; exact hp9
        · obtain ⟨l5, l6, l7, l8, l9, l11, l12, l13, Y, rfl, e4, nF1, nY1, nFY, hF, hY⟩ := hP
          walk_at "sx"
          exact k F H' (fresh_back e1 nF1) (e1.trans e4) hF
end
end LW

set_option Elab.async false
set_option linter.all false
set_option maxRecDepth 100000
set_option maxHeartbeats 4000000
/-! walks with a given trail, counted step by step (class Goal) -/
namespace BC
/-- one step later -/
def sh (f : Nat → Nat) : Nat → Nat
  | 0 => 0
  | n + 1 => f n
/-- walks from v that keep out of S and end with the trail x :: xs behind S -/
def tb (G : Grid) : List Nat → List Nat → Nat → Nat → Nat
  | _, [], _, _ => 0
  | S, x :: xs, v, n => cv (fun i => fw G S x i v) (match xs with
    | [] => one
    | y :: ys => sh (tb G (S ++ [x]) (y :: ys) y)) n
def rs (G : Grid) (S : List Nat) (x : Nat) : List Nat → Nat → Nat
  | [] => one
  | y :: ys => sh (tb G (S ++ [x]) (y :: ys) y)
theorem tb_eq (G : Grid) (S : List Nat) (x : Nat) (xs : List Nat) (v n : Nat) : tb G S (x :: xs) v n = cv (fun i => fw G S x i v) (rs G S x xs) n := by
  cases xs <;> rw [tb] <;> rfl
theorem tb_in (G : Grid) {S : List Nat} {v : Nat} (h : v ∈ S) : ∀ (gs : List Nat) (n : Nat), tb G S gs v n = 0
  | [], _ => by rw [tb]
  | x :: xs, n => by
    rw [tb_eq]
    exact cv_zero _ _ _ fun i => fw_in h i
theorem cv_zero_left (f g : Nat → Nat) : cv f g 0 = f 0 * g 0 := rfl
theorem cv_step (f g : Nat → Nat) (n : Nat) : cv f g (n + 1) = f 0 * g (n + 1) + cv (fun i => f (i + 1)) g n := rfl
theorem tb_zero (G : Grid) {S : List Nat} (g v : Nat) (gs : List Nat) (hv : v ∉ S) : tb G S (g :: gs) v 0 = if v = g ∧ gs = [] then 1 else 0 := by
  rw [tb_eq, cv_zero_left]
  have f0 : fw G S g 0 v = if v = g then 1 else 0 := by
    show (if v = g ∧ v ∉ S then 1 else 0) = _
    by_cases c : v = g <;> simp [c, hv]
    subst c
    exact hv
  rw [f0]
  cases gs with
  | nil => by_cases c : v = g <;> simp [c, rs, one]
  | cons y ys => simp [rs, sh]
theorem tb_succ (G : Grid) {S : List Nat} (g v : Nat) (gs : List Nat) (n : Nat) (hv : v ∉ S) : tb G S (g :: gs) v (n + 1) = ((row G v).map fun y => tb G S (g :: gs) y n).sum + if v = g then rs G S g gs (n + 1) else 0 := by
  rw [tb_eq, cv_step]
  have f0 : fw G S g 0 v = if v = g then 1 else 0 := by
    show (if v = g ∧ v ∉ S then 1 else 0) = _
    by_cases c : v = g <;> simp [c, hv]
    subst c
    exact hv
  have f1 : (fun i => fw G S g (i + 1) v) = fun i => ((row G v).map fun u => fw G S g i u).sum := funext fun i => by
    show (if v ∉ S then _ else 0) = _
    rw [if_pos hv]
  rw [f0, f1, cv_sums (rs G S g gs) n (fun u i => fw G S g i u) (row G v)]
  have e : (fun u => cv ((fun u i => fw G S g i u) u) (rs G S g gs) n) = fun y => tb G S (g :: gs) y n := funext fun y => (tb_eq G S g gs y n).symm
  rw [e]
  by_cases c : v = g
  · rw [if_pos c, if_pos c, Nat.one_mul, Nat.add_comm]
  · rw [if_neg c, if_neg c, Nat.zero_mul, Nat.zero_add, Nat.add_zero]
/-- a product with a series that begins k places later -/
theorem cv_late (k : Nat) (g : Nat → Nat) : ∀ (n : Nat) (f : Nat → Nat), cv f (fun n => if k ≤ n then g (n - k) else 0) n = if k ≤ n then cv f g (n - k) else 0
  | 0, f => by
    rw [cv_zero_left]
    by_cases c : k ≤ 0
    · rw [if_pos c, if_pos c, show 0 - k = 0 by omega, cv_zero_left]
    · rw [if_neg c, if_neg c, Nat.mul_zero]
  | n + 1, f => by
    rw [cv_step, cv_late k g n]
    by_cases c : k ≤ n
    · rw [if_pos (by omega), if_pos c, if_pos (by omega), show n + 1 - k = n - k + 1 by omega, cv_step]
    · rw [if_neg c, Nat.add_zero]
      by_cases d : k ≤ n + 1
      · rw [if_pos d, if_pos d, show n + 1 - k = 0 by omega, cv_zero_left]
      · rw [if_neg d, if_neg d, Nat.mul_zero]
/-- the number that the goal tells of a trail S ++ ts that ends with x -/
def num (G : Grid) : List Nat → List Nat → List Nat → Nat → Nat → Nat
  | S, g :: gs, t :: ts, x, n => if g = t then tb G S (g :: gs) x n + num G (S ++ [g]) gs ts x n else 0
  | _, _, _, _, _ => 0
theorem num_nil (G : Grid) (S gs : List Nat) (x n : Nat) : num G S gs [] x n = 0 := by cases gs <;> rfl
theorem num_nilG (G : Grid) (S ts : List Nat) (x n : Nat) : num G S [] ts x n = 0 := by cases ts <;> rfl
theorem num_cons (G : Grid) (S : List Nat) (g : Nat) (gs : List Nat) (t : Nat) (ts : List Nat) (x n : Nat) : num G S (g :: gs) (t :: ts) x n = if g = t then tb G S (g :: gs) x n + num G (S ++ [g]) gs ts x n else 0 := rfl
/-- the trail after a visit -/
def cutN (p : List Nat) (y : Nat) : List Nat := if y ∈ p then p.take (p.idxOf y + 1) else p ++ [y]
theorem cut_same (t : Nat) (ts : List Nat) : cutN (t :: ts) t = [t] := by
  unfold cutN
  rw [if_pos List.mem_cons_self, List.idxOf_cons_self]
  rfl
theorem cut_other {t y : Nat} (ts : List Nat) (h : y ≠ t) : cutN (t :: ts) y = t :: cutN ts y := by
  unfold cutN
  by_cases c : y ∈ ts
  · rw [if_pos (List.mem_cons_of_mem _ c), if_pos c]
    have e : (t :: ts).idxOf y = ts.idxOf y + 1 := by
      rw [List.idxOf_cons]
      have : (t == y) = false := by simpa using fun z : t = y => h z.symm
      rw [this]
      rfl
    rw [e]
    rfl
  · rw [if_neg (by rw [List.mem_cons]; intro z; rcases z with z | z; exact h z; exact c z), if_neg c]
    rfl
def Lnk (G : Grid) : List Nat → Prop
  | p :: q :: l => q ∈ row G p ∧ Lnk G (q :: l)
  | _ => True
theorem sum_if_eq {l : List Nat} (nd : l.Nodup) {h : Nat} (hm : h ∈ l) (c : Nat) : (l.map fun y => if h = y then c else 0).sum = c := by
  have := sum_ind (fun _ => true) c h nd
  simp only [and_true] at this
  rw [if_pos hm] at this
  refine Eq.trans ?_ this
  congr 1
  refine List.map_congr_left fun y _ => ?_
  by_cases e : h = y
  · rw [if_pos e, if_pos e.symm]
  · rw [if_neg e, if_neg (fun z => e z.symm)]
/-- one step of all walks -/
theorem num_step {G : Grid} (ok : SiteOk G) (n : Nat) : ∀ (gs ts S : List Nat) (x : Nat), ts ≠ [] → ts.getLast? = some x → x < G.length → (S ++ ts).Nodup → (S ++ gs).Nodup → Lnk G gs →
    num G S gs ts x (n + 1) = ((row G x).map fun y => if y ∈ S then 0 else num G S gs (cutN ts y) y n).sum
  | [], ts, S, x, _, _, _, _, _, _ => by
    rw [num_nilG]
    have : (fun y => if y ∈ S then 0 else num G S [] (cutN ts y) y n) = fun _ => 0 := funext fun y => by rw [num_nilG]; split <;> rfl
    rw [this]
    induction row G x with
    | nil => rfl
    | cons a l ih => rw [List.map_cons, List.sum_cons, ← ih]
  | g :: gs, [], S, x, h, _, _, _, _, _ => absurd rfl h
  | g :: gs, t :: ts, S, x, _, hx, hxl, nt, ng, lk => by
    have hxm : x ∈ t :: ts := List.mem_of_getLast? hx
    have hxS : x ∉ S := fun z => (List.nodup_append.mp nt).2.2 x z x hxm rfl
    have nts : (t :: ts).Nodup := (List.nodup_append.mp nt).2.1
    have hirr : x ∉ row G x := ok.no x _ (at_row hxl)
    by_cases e : g = t
    · subst e
      rw [num_cons, if_pos rfl, tb_succ G g x gs n hxS]
      cases ts with
      | nil =>
        obtain rfl : g = x := by simpa using hx
        rw [if_pos rfl, num_nil, Nat.add_zero]
        have ey : ∀ y ∈ row G g, (if y ∈ S then 0 else num G S (g :: gs) (cutN [g] y) y n) = tb G S (g :: gs) y n + (match gs with
          | [] => 0
          | h :: hs => if h = y then tb G (S ++ [g]) (h :: hs) h n else 0) := fun y hy => by
          have nyg : y ≠ g := fun z => hirr (by rw [← z]; rw [z] at hy ⊢; exact hy)
          by_cases c : y ∈ S
          · rw [if_pos c, tb_in G c]
            cases gs with
            | nil => rfl
            | cons h hs =>
              have : h ≠ y := fun z => by
                have q := (List.nodup_append.mp ng).2.2 y c h (List.mem_cons_of_mem _ List.mem_cons_self)
                exact q z.symm
              show 0 = 0 + if h = y then _ else 0
              rw [if_neg this]
          · rw [if_neg c, cut_other [] nyg]
            have e1 : cutN [] y = [y] := by unfold cutN; rw [if_neg (List.not_mem_nil)]; rfl
            rw [e1, num_cons, if_pos rfl]
            cases gs with
            | nil => rw [num_nilG]
            | cons h hs =>
              rw [num_cons]
              show _ = _ + if h = y then _ else 0
              by_cases q : h = y
              · subst q
                rw [if_pos rfl, if_pos rfl, num_nil, Nat.add_zero]
              · rw [if_neg q, if_neg q]
        rw [List.map_congr_left ey, sum_add]
        congr 1
        cases gs with
        | nil =>
          show one (n + 1) = _
          show 0 = _
          induction row G g with
          | nil => rfl
          | cons a l ih => rw [List.map_cons, List.sum_cons, ← ih]
        | cons h hs =>
          show tb G (S ++ [g]) (h :: hs) h n = _
          have hm : h ∈ row G g := lk.1
          exact (sum_if_eq (row_nodup ok hxl) hm _).symm
      | cons u us =>
        have hx2 : (u :: us).getLast? = some x := by simpa using hx
        have nxg : x ≠ g := fun z => (List.nodup_cons.mp nts).1 (by rw [← z]; exact List.mem_of_getLast? hx2)
        have ih := num_step ok n gs (u :: us) (S ++ [g]) x (by simp) hx2 hxl (by rw [List.append_assoc]; exact nt) (by rw [List.append_assoc]; exact ng) (by cases gs with
          | nil => exact True.intro
          | cons h hs => exact lk.2)
        rw [if_neg nxg, Nat.add_zero, ih, ← sum_add]
        congr 1
        refine List.map_congr_left fun y _ => ?_
        by_cases c : y ∈ S
        · rw [if_pos c, if_pos (List.mem_append_left _ c), tb_in G c]
        · rw [if_neg c]
          by_cases q : y = g
          · subst q
            rw [if_pos (List.mem_append_right _ List.mem_cons_self), cut_same, num_cons, if_pos rfl, num_nil]
          · rw [if_neg (by rw [List.mem_append, List.mem_singleton]; intro z; rcases z with z | z; exact c z; exact q z), cut_other _ q, num_cons, if_pos rfl]
    · rw [num_cons, if_neg e]
      have : ∀ y ∈ row G x, (if y ∈ S then 0 else num G S (g :: gs) (cutN (t :: ts) y) y n) = 0 := fun y _ => by
        by_cases c : y ∈ S
        · rw [if_pos c]
        · rw [if_neg c]
          by_cases q : y = t
          · subst q
            rw [cut_same, num_cons, if_neg e]
          · rw [cut_other _ q, num_cons, if_neg e]
      rw [List.map_congr_left this]
      induction row G x with
      | nil => rfl
      | cons a l ih => rw [List.map_cons, List.sum_cons, ← ih]
theorem num_zero (G : Grid) : ∀ (gs ts S : List Nat) (x : Nat), ts ≠ [] → ts.getLast? = some x → (S ++ ts).Nodup → num G S gs ts x 0 = if ts = gs then 1 else 0
  | [], ts, S, x, h, _, _ => by rw [num_nilG, if_neg h]
  | g :: gs, [], S, x, h, _, _ => absurd rfl h
  | g :: gs, t :: ts, S, x, _, hx, nt => by
    have hxm : x ∈ t :: ts := List.mem_of_getLast? hx
    have hxS : x ∉ S := fun z => (List.nodup_append.mp nt).2.2 x z x hxm rfl
    have nts : (t :: ts).Nodup := (List.nodup_append.mp nt).2.1
    by_cases e : g = t
    · subst e
      rw [num_cons, if_pos rfl, tb_zero G g x gs hxS]
      cases ts with
      | nil =>
        obtain rfl : g = x := by simpa using hx
        rw [num_nil, Nat.add_zero]
        by_cases c : gs = []
        · subst c; simp
        · rw [if_neg (fun z => c z.2), if_neg (fun z => c (List.cons.inj z).2.symm)]
      | cons u us =>
        have hx2 : (u :: us).getLast? = some x := by simpa using hx
        have nxg : x ≠ g := fun z => (List.nodup_cons.mp nts).1 (by rw [← z]; exact List.mem_of_getLast? hx2)
        rw [if_neg (fun z => nxg z.1), Nat.zero_add, num_zero G gs (u :: us) (S ++ [g]) x (by simp) hx2 (by rw [List.append_assoc]; exact nt)]
        by_cases c : u :: us = gs
        · rw [if_pos c, if_pos (by rw [c])]
        · rw [if_neg c, if_neg (fun z => c (List.cons.inj z).2)]
    · rw [num_cons, if_neg e, if_neg (fun z => e (List.cons.inj z).1.symm)]
/-- walks of n steps behind the trail p that end with the trail goal -/
def fol (G : Grid) (goal : List Nat) : Nat → List Nat → Nat
  | 0, p => if p = goal then 1 else 0
  | n + 1, p => ((row G (p.getLast?.getD 0)).map fun y => fol G goal n (cutN p y)).sum
theorem cut_last (p : List Nat) (y : Nat) : (cutN p y).getLast? = some y := by
  unfold cutN
  split
  · rename_i h
    have hl := List.idxOf_lt_length_of_mem h
    rw [List.getLast?_eq_getElem?, List.length_take, List.getElem?_take, Nat.min_eq_left (by omega), if_pos (by omega), Nat.add_sub_cancel, List.getElem?_eq_getElem hl, List.getElem_idxOf hl]
  · simp
theorem cut_ne (p : List Nat) (y : Nat) : cutN p y ≠ [] := fun z => by
  have := cut_last p y
  rw [z] at this
  cases this
theorem cut_nodup {p : List Nat} (h : p.Nodup) (y : Nat) : (cutN p y).Nodup := by
  unfold cutN
  split
  · exact h.sublist (List.take_sublist _ _)
  · rename_i c
    rw [List.nodup_append]
    exact ⟨h, by simp, fun a ha b hb z => by
      obtain rfl := List.mem_singleton.mp hb
      exact c (z ▸ ha)⟩
/-- what the goal tells is the number of the walks -/
theorem num_fol {G : Grid} (ok : SiteOk G) {goal : List Nat} (ng : goal.Nodup) (lk : Lnk G goal) : ∀ (n : Nat) (p : List Nat) (x : Nat), p.getLast? = some x → x < G.length → p.Nodup → num G [] goal p x n = fol G goal n p
  | 0, p, x, hx, _, np => by
    have ne : p ≠ [] := fun z => by rw [z] at hx; cases hx
    rw [num_zero G goal p [] x ne hx np]
    rfl
  | n + 1, p, x, hx, hl, np => by
    have ne : p ≠ [] := fun z => by rw [z] at hx; cases hx
    rw [num_step ok n goal p [] x ne hx hl np ng lk]
    show _ = ((row G (p.getLast?.getD 0)).map fun y => fol G goal n (cutN p y)).sum
    rw [hx]
    show _ = ((row G x).map fun y => fol G goal n (cutN p y)).sum
    congr 1
    refine List.map_congr_left fun y hy => ?_
    rw [if_neg List.not_mem_nil]
    exact num_fol ok ng lk n (cutN p y) y (cut_last p y) (ok.lt x _ (at_row hl) y hy) (cut_nodup np y)
/-- all walks from the goal's first page -/
theorem tb_lp (G : Grid) : ∀ (xs S : List Nat) (x n : Nat), tb G S (x :: xs) x n = if xs.length ≤ n then lp G S (x :: xs) (n - xs.length) else 0
  | [], S, x, n => by
    rw [tb_eq]
    show cv (fun i => fw G S x i x) one n = if 0 ≤ n then cv (cs G S x) one (n - 0) else 0
    rw [if_pos (Nat.zero_le _)]
    rfl
  | y :: ys, S, x, n => by
    rw [tb_eq]
    show cv (cs G S x) (sh (tb G (S ++ [x]) (y :: ys) y)) n = if ys.length + 1 ≤ n then cv (cs G S x) (lp G (S ++ [x]) (y :: ys)) (n - (ys.length + 1)) else 0
    have es : sh (tb G (S ++ [x]) (y :: ys) y) = fun n => if ys.length + 1 ≤ n then lp G (S ++ [x]) (y :: ys) (n - (ys.length + 1)) else 0 := funext fun n => by
      cases n with
      | zero => rw [if_neg (by omega)]; rfl
      | succ n =>
        show tb G (S ++ [x]) (y :: ys) y n = _
        rw [tb_lp G ys (S ++ [x]) y n]
        by_cases c : ys.length ≤ n
        · rw [if_pos c, if_pos (by omega), Nat.add_sub_add_right]
        · rw [if_neg c, if_neg (by omega)]
    rw [es]
    exact cv_late _ _ n _
end BC

set_option Elab.async false
set_option linter.all false
set_option maxRecDepth 100000
set_option maxHeartbeats 4000000
/-! numbers of walks with a given trail -/
namespace BC
/-- the number of the walk ws behind the trail p -/
def rkW (G : Grid) (goal : List Nat) : List Nat → List Nat → Nat
  | _, [] => 0
  | p, w :: ws => (((row G (p.getLast?.getD 0)).filter fun y => decide (y < w)).map fun y => fol G goal ws.length (cutN p y)).sum + rkW G goal (cutN p w) ws
/-- a walk on from the trail p -/
def Wk (G : Grid) : List Nat → List Nat → Prop
  | _, [] => True
  | p, w :: ws => w ∈ row G (p.getLast?.getD 0) ∧ Wk G (cutN p w) ws
theorem sum_split (f : Nat → Nat) (w : Nat) : ∀ {l : List Nat}, l.Pairwise (· < ·) → w ∈ l → ((l.filter fun y => decide (y < w)).map f).sum + f w ≤ (l.map f).sum
  | [], _, h => (List.not_mem_nil h).elim
  | a :: l, h, hm => by
    rw [List.pairwise_cons] at h
    rw [List.map_cons, List.sum_cons, List.filter_cons]
    rcases List.mem_cons.mp hm with rfl | hm
    · have e : (l.filter fun y => decide (y < w)) = [] := List.filter_eq_nil_iff.mpr fun y hy => by
        have := h.1 y hy
        simp
        omega
      rw [if_neg (by simp), e]
      simp
    · have := h.1 w hm
      rw [if_pos (decide_eq_true this), List.map_cons, List.sum_cons]
      have ih := sum_split f w h.2 hm
      omega
theorem rk_lt {G : Grid} (ok : SiteOk G) (goal : List Nat) : ∀ (ws p : List Nat), (p.getLast?.getD 0) < G.length → Wk G p ws → ws.foldl cutN p = goal → rkW G goal p ws < fol G goal ws.length p
  | [], p, _, _, h => by
    show 0 < if p = goal then 1 else 0
    have h' : p = goal := h
    rw [if_pos h']
    omega
  | w :: ws, p, hl, hw, h => by
    have hwl : w < G.length := ok.lt _ _ (at_row hl) w hw.1
    have hlast : ((cutN p w).getLast?.getD 0) < G.length := by rw [cut_last]; exact hwl
    have ih := rk_lt ok goal ws (cutN p w) hlast hw.2 h
    have s := sum_split (fun y => fol G goal ws.length (cutN p y)) w (ok.asc _ _ (at_row hl)) hw.1
    show (((row G (p.getLast?.getD 0)).filter fun y => decide (y < w)).map fun y => fol G goal ws.length (cutN p y)).sum + rkW G goal (cutN p w) ws < ((row G (p.getLast?.getD 0)).map fun y => fol G goal ws.length (cutN p y)).sum
    omega
/-- the choice that the rest falls to -/
def choose (f : Nat → Nat) : List Nat → Nat → Nat × Nat
  | [], r => (0, r)
  | a :: l, r => if r < f a then (a, r) else choose f l (r - f a)
theorem choose_ok (f : Nat → Nat) (w r : Nat) : ∀ {l : List Nat}, l.Pairwise (· < ·) → w ∈ l → r < f w → choose f l (((l.filter fun y => decide (y < w)).map f).sum + r) = (w, r)
  | [], _, h, _ => (List.not_mem_nil h).elim
  | a :: l, h, hm, hr => by
    rw [List.pairwise_cons] at h
    rw [List.filter_cons]
    rcases List.mem_cons.mp hm with rfl | hm
    · have e : (l.filter fun y => decide (y < w)) = [] := List.filter_eq_nil_iff.mpr fun y hy => by
        have := h.1 y hy
        simp
        omega
      rw [if_neg (by simp), e]
      show (if 0 + r < f w then _ else _) = _
      rw [Nat.zero_add, if_pos hr]
      show (w, 0 + r) = _
      rw [Nat.zero_add]
    · have := h.1 w hm
      rw [if_pos (decide_eq_true this), List.map_cons, List.sum_cons]
      show (if _ < f a then _ else _) = _
      rw [if_neg (by omega), show f a + ((l.filter fun y => decide (y < w)).map f).sum + r - f a = ((l.filter fun y => decide (y < w)).map f).sum + r by omega]
      exact choose_ok f w r h.2 hm hr
end BC

set_option Elab.async false
set_option linter.all false
set_option maxRecDepth 100000
set_option maxHeartbeats 4000000
/-! bounds of the goal's tables; the row that is carried from table to table -/
namespace BC
theorem sum_bd {f : Nat → Nat} {B : Nat} : ∀ l : List Nat, (∀ y ∈ l, f y ≤ B) → (l.map f).sum ≤ l.length * B
  | [], _ => by simp
  | a :: l, h => by
    rw [List.map_cons, List.sum_cons, List.length_cons, Nat.succ_mul]
    have := sum_bd l fun y hy => h y (List.mem_cons_of_mem _ hy)
    have := h a List.mem_cons_self
    omega
theorem row_len12 {G : Grid} (ok : SiteOk G) (v : Nat) : (row G v).length ≤ 12 := by
  by_cases h : v < G.length
  · exact ok.len (at_row h)
  · have : row G v = [] := by
      unfold row
      rw [List.getD_eq_getElem?_getD, List.getElem?_eq_none (by omega)]
      rfl
    rw [this]
    simp
theorem tb_le {G : Grid} (ok : SiteOk G) : ∀ (n : Nat) (S gs : List Nat) (v : Nat), tb G S gs v n ≤ 13 ^ n
  | n, S, [], v => by
    rw [tb]
    exact Nat.zero_le _
  | 0, S, g :: gs, v => by
    by_cases hv : v ∈ S
    · rw [tb_in G hv]
      exact Nat.zero_le _
    · rw [tb_zero G g v gs hv]
      split <;> simp
  | n + 1, S, g :: gs, v => by
    by_cases hv : v ∈ S
    · rw [tb_in G hv]
      exact Nat.zero_le _
    · rw [tb_succ G g v gs n hv]
      have a := sum_bd (f := fun y => tb G S (g :: gs) y n) (B := 13 ^ n) (row G v) fun y _ => tb_le ok n S (g :: gs) y
      have b := row_len12 ok v
      have c : (row G v).length * 13 ^ n ≤ 12 * 13 ^ n := Nat.mul_le_mul_right _ b
      have d : (if v = g then rs G S g gs (n + 1) else 0) ≤ 13 ^ n := by
        split
        · cases gs with
          | nil => exact Nat.zero_le _
          | cons y ys => exact tb_le ok n (S ++ [g]) (y :: ys) y
        · exact Nat.zero_le _
      have e : 13 ^ (n + 1) = 12 * 13 ^ n + 13 ^ n := by rw [Nat.pow_succ]; omega
      omega
/-- the row carried after i tables -/
def rest (G : Grid) (goal : List Nat) (i : Nat) : Nat → Nat := if i = 0 then one else sh (tb G (goal.take (goal.length - i)) (goal.drop (goal.length - i)) (goal.getD (goal.length - i) 0))
theorem tb_rest (G : Grid) {goal : List Nat} {i : Nat} (hi : i < goal.length) (v n : Nat) : tb G (goal.take (goal.length - 1 - i)) (goal.drop (goal.length - 1 - i)) v n = cv (fun j => fw G (goal.take (goal.length - 1 - i)) (goal.getD (goal.length - 1 - i) 0) j v) (rest G goal i) n := by
  have hc : goal.length - 1 - i < goal.length := by omega
  have hd : goal.drop (goal.length - 1 - i) = goal.getD (goal.length - 1 - i) 0 :: goal.drop (goal.length - i) := by
    rw [List.drop_eq_getElem_cons hc, List.getD_eq_getElem?_getD, List.getElem?_eq_getElem hc, show goal.length - 1 - i + 1 = goal.length - i by omega]
    rfl
  rw [hd, tb_eq]
  congr 1
  by_cases h0 : i = 0
  · subst h0
    have z : goal.drop (goal.length - 0) = [] := by
      rw [Nat.sub_zero]
      exact List.drop_length
    rw [z]
    rfl
  · unfold rest
    rw [if_neg h0]
    have hc2 : goal.length - i < goal.length := by omega
    have hd2 : goal.drop (goal.length - i) = goal.getD (goal.length - i) 0 :: goal.drop (goal.length - i + 1) := by
      rw [List.drop_eq_getElem_cons hc2, List.getD_eq_getElem?_getD, List.getElem?_eq_getElem hc2]
      rfl
    have ht : goal.take (goal.length - i) = goal.take (goal.length - 1 - i) ++ [goal.getD (goal.length - 1 - i) 0] := by
      rw [show goal.length - i = goal.length - 1 - i + 1 by omega, List.take_add_one, List.getD_eq_getElem?_getD, List.getElem?_eq_getElem hc]
      rfl
    rw [ht, hd2]
    rfl
theorem rest_le {G : Grid} (ok : SiteOk G) (goal : List Nat) (i n : Nat) : rest G goal i n ≤ 13 ^ n := by
  unfold rest
  split
  · cases n <;> simp [one]
  · cases n with
    | zero => exact Nat.zero_le _
    | succ n =>
      have := tb_le ok n (goal.take (goal.length - i)) (goal.drop (goal.length - i)) (goal.getD (goal.length - i) 0)
      show tb G _ _ _ n ≤ 13 ^ (n + 1)
      rw [Nat.pow_succ]
      omega
end BC

set_option Elab.async false
set_option linter.all false
set_option maxRecDepth 100000
set_option maxHeartbeats 4000000
/-! a memo: a dict by the texts of [trail, steps] -/
namespace BC
open PySem PySem.Spec PyProof.Rows L2 Evl TR
def dPL (p : List Nat) (l : Nat) : PyData := .list [.list ((nz p).map PyData.int), .int (l : Int)]
def key2 (p : List Nat) (l : Nat) : Key := Sum.inr (dPL p l).shown
theorem pl_shown (p : List Nat) (l : Nat) : (dPL p l).shown = (("[" : String) : Str) ++ (shInts (nz p) ++ ", " ++ ((toString (l : Int) : String) : Str)) ++ "]" := by
  unfold dPL shInts
  rw [PyData.shown_list, PyData.shownAll_cons, PyData.shownAll_cons, PyData.shownAll_nil, PyData.shown_int]
  rfl
theorem pl_codes (p : List Nat) (l : Nat) : (dPL p l).shown.cps.toList = (91 :: 91 :: (Str.join ", " ((nz p).map fun n => ((toString n : String) : Str))).cps.toList) ++ (93 :: 44 :: 32 :: ((((toString (l : Int) : String) : Str).cps.toList) ++ [93])) := by
  rw [pl_shown]
  unfold shInts
  rw [PyData.shown_list, PyData.shownAll_ints]
  simp only [cps_toList_append, signs_sep, signs_lbrack, signs_rbrack, List.cons_append, List.nil_append, List.append_assoc]
theorem join_free (p : List Nat) : ∀ c ∈ 91 :: 91 :: (Str.join ", " ((nz p).map fun n => ((toString n : String) : Str))).cps.toList, decide (c ≠ 93) = true := fun c hc => by
  rw [List.mem_cons, List.mem_cons] at hc
  rcases hc with rfl | rfl | hc
  · decide
  · decide
  · refine decide_eq_true fun e => ?_
    subst e
    rw [mem_join] at hc
    rcases hc with ⟨t, ht, hc⟩ | ⟨_, hc⟩
    · obtain ⟨n, _, rfl⟩ := List.mem_map.mp ht
      exact shown_int_free (k := 93) (by omega) n (by rw [PyData.shown_int]; exact hc)
    · rw [signs_sep] at hc
      exact absurd hc (by decide)
theorem pl_take (p : List Nat) (l : Nat) : (dPL p l).shown.cps.toList.takeWhile (fun c => decide (c ≠ 93)) = 91 :: 91 :: (Str.join ", " ((nz p).map fun n => ((toString n : String) : Str))).cps.toList := by
  rw [pl_codes, List.takeWhile_append_of_pos (join_free p)]
  rw [List.takeWhile_cons, if_neg (by decide), List.append_nil]
theorem pl_drop (p : List Nat) (l : Nat) : (dPL p l).shown.cps.toList.dropWhile (fun c => decide (c ≠ 93)) = 93 :: 44 :: 32 :: ((((toString (l : Int) : String) : Str).cps.toList) ++ [93]) := by
  rw [pl_codes, List.dropWhile_append_of_pos (join_free p)]
  rw [List.dropWhile_cons, if_neg (by decide)]
theorem step_one : ∀ a b : Fin 15, (((toString ((a.val : Nat) : Int) : String) : Str).cps.toList) = (((toString ((b.val : Nat) : Int) : String) : Str).cps.toList) → a = b := by decide +kernel
theorem key2_inj {p q : List Nat} {l m : Nat} (hp : ∀ x ∈ p, x < 10) (hq : ∀ x ∈ q, x < 10) (hl : l ≤ 14) (hm : m ≤ 14) (e : key2 p l = key2 q m) : p = q ∧ l = m := by
  have e := congrArg (fun s : Str => s.cps.toList) (Sum.inr.inj e)
  have dg : ∀ {p : List Nat}, (∀ x ∈ p, x < 10) → Dg (nz p) := fun h n hn => by
    obtain ⟨x, hx, rfl⟩ := List.mem_map.mp hn
    have := h x hx
    omega
  have e1 := congrArg (List.takeWhile (fun c => decide (c ≠ 93))) e
  have e2 := congrArg (List.dropWhile (fun c => decide (c ≠ 93))) e
  rw [pl_take, pl_take] at e1
  rw [pl_drop, pl_drop] at e2
  have e1 := congrArg digL (List.tail_eq_of_cons_eq (List.tail_eq_of_cons_eq e1))
  rw [digL_join _ (dg hp), digL_join _ (dg hq)] at e1
  have e2 := List.append_inj_left' (List.tail_eq_of_cons_eq (List.tail_eq_of_cons_eq (List.tail_eq_of_cons_eq e2))) rfl
  refine ⟨?_, ?_⟩
  · unfold nz at e1
    exact (List.map_inj_right (fun a b h => Int.ofNat.inj h)).mp e1
  · have := step_one ⟨l, by omega⟩ ⟨m, by omega⟩ e2
    exact congrArg Fin.val this
/-! ### how many keys there are -/
theorem nodup_le {α : Type} [DecidableEq α] : ∀ {l m : List α}, l.Nodup → (∀ x ∈ l, x ∈ m) → l.length ≤ m.length
  | [], _, _, _ => Nat.zero_le _
  | x :: l, m, hn, h => by
    obtain ⟨h1, h2⟩ := List.nodup_cons.mp hn
    have ih := nodup_le (m := m.erase x) h2 fun y hy => (List.mem_erase_of_ne (fun e => by subst e; exact h1 hy)).mpr (h y (List.mem_cons_of_mem _ hy))
    have hm := h x List.mem_cons_self
    rw [List.length_erase_of_mem hm] at ih
    have := List.length_pos_of_mem hm
    rw [List.length_cons]
    omega
/-- all lists of pages of so many -/
def lsts : Nat → List (List Nat)
  | 0 => [[]]
  | n + 1 => [] :: ((lsts n).map fun l => (List.range 5).map fun x => x :: l).flatten
theorem lsts_mem : ∀ (n : Nat) (p : List Nat), p.length ≤ n → (∀ x ∈ p, x < 5) → p ∈ lsts n
  | 0, [], _, _ => List.mem_cons_self
  | 0, x :: p, h, _ => by rw [List.length_cons] at h; omega
  | n + 1, [], _, _ => List.mem_cons_self
  | n + 1, x :: p, h, hx => by
    rw [List.length_cons] at h
    refine List.mem_cons_of_mem _ (List.mem_flatten.mpr ⟨_, List.mem_map.mpr ⟨p, lsts_mem n p (by omega) fun y hy => hx y (List.mem_cons_of_mem _ hy), rfl⟩, ?_⟩)
    exact List.mem_map.mpr ⟨x, List.mem_range.mpr (hx x List.mem_cons_self), rfl⟩
def keys2 : List Key := ((lsts 5).map fun p => (List.range 15).map fun l => key2 p l).flatten
theorem keys2_mem {p : List Nat} {l : Nat} (h1 : p.length ≤ 5) (h2 : ∀ x ∈ p, x < 5) (hl : l ≤ 14) : key2 p l ∈ keys2 :=
  List.mem_flatten.mpr ⟨_, List.mem_map.mpr ⟨p, lsts_mem 5 p h1 h2, rfl⟩, List.mem_map.mpr ⟨l, List.mem_range.mpr (by omega), rfl⟩⟩
theorem flat_len {α : Type} (k : Nat) : ∀ L : List (List α), (∀ x ∈ L, x.length = k) → L.flatten.length = k * L.length
  | [], _ => rfl
  | x :: L, h => by
    rw [List.flatten_cons, List.length_append, flat_len k L fun y hy => h y (List.mem_cons_of_mem _ hy), h x List.mem_cons_self, List.length_cons, Nat.mul_add, Nat.mul_one, Nat.add_comm]
theorem lsts_len : (lsts 5).length = 3906 := by decide +kernel
theorem keys2_len : keys2.length ≤ 60000 := by
  have e := flat_len 15 ((lsts 5).map fun p => (List.range 15).map fun l => key2 p l) fun x hx => by
    obtain ⟨l, _, rfl⟩ := List.mem_map.mp hx
    rw [List.length_map, List.length_range]
  unfold keys2
  rw [e, List.length_map, lsts_len]
  omega
theorem putK_keys {kvs : List (Key × V)} {k : Key} {v : V} : (putK kvs k v).map (·.1) = kvs.map (·.1) ∨ (k ∉ kvs.map (·.1) ∧ (putK kvs k v).map (·.1) = kvs.map (·.1) ++ [k]) := by
  unfold putK
  by_cases a : (kvs.any fun kv => decide (kv.1 = k)) = true
  · rw [if_pos a, List.map_map]
    refine .inl (List.map_congr_left fun p _ => ?_)
    show (if p.1 = k then (p.1, v) else p).1 = p.1
    split <;> rfl
  · rw [if_neg a, List.map_append]
    refine .inr ⟨fun m => a ?_, rfl⟩
    obtain ⟨p, hp, e⟩ := List.mem_map.mp m
    exact List.any_eq_true.mpr ⟨p, hp, decide_eq_true e⟩
/-- what the memo says is so -/
structure Memo (f : Nat → List Nat → Nat) (kvs : List (Key × V)) : Prop where
  nd : (kvs.map (·.1)).Nodup
  mem : ∀ k ∈ kvs.map (·.1), k ∈ keys2
  ok : ∀ (p : List Nat) (l : Nat) (v : V), (∀ x ∈ p, x < 5) → l ≤ 14 → valV kvs (key2 p l) = some v → v = .int (f l p : Nat)
theorem Memo.nil (f : Nat → List Nat → Nat) : Memo f [] := ⟨List.nodup_nil, fun k h => by simp at h, fun p l v _ _ h => by cases h⟩
theorem Memo.len {f : Nat → List Nat → Nat} {kvs : List (Key × V)} (h : Memo f kvs) : kvs.length ≤ 60000 := by
  have := nodup_le h.nd h.mem
  rw [List.length_map] at this
  exact Nat.le_trans this keys2_len
theorem Memo.put {f : Nat → List Nat → Nat} {kvs : List (Key × V)} (h : Memo f kvs) {p : List Nat} {l : Nat} (h1 : p.length ≤ 5) (h2 : ∀ x ∈ p, x < 5) (hl : l ≤ 14) : Memo f (putK kvs (key2 p l) (.int (f l p : Nat))) := by
  refine ⟨?_, fun k hk => ?_, fun q m v hq hm hv => ?_⟩
  · rcases putK_keys (kvs := kvs) (k := key2 p l) (v := .int (f l p : Nat)) with e | ⟨n, e⟩
    · rw [e]; exact h.nd
    · rw [e]
      refine List.nodup_append.mpr ⟨h.nd, by simp, fun a ha b hb => ?_⟩
      rw [List.mem_singleton] at hb
      rw [hb]
      exact fun z => n (z ▸ ha)
  · rcases putK_keys (kvs := kvs) (k := key2 p l) (v := .int (f l p : Nat)) with e | ⟨n, e⟩
    · rw [e] at hk; exact h.mem k hk
    · rw [e] at hk
      rcases List.mem_append.mp hk with z | z
      · exact h.mem k z
      · rw [List.mem_singleton.mp z]; exact keys2_mem h1 h2 hl
  · rw [valV_put] at hv
    by_cases c : key2 q m = key2 p l
    · rw [if_pos c] at hv
      obtain ⟨rfl, rfl⟩ := key2_inj (fun x hx => by have := hq x hx; omega) (fun x hx => by have := h2 x hx; omega) hm hl c
      exact (Option.some.inj hv).symm
    · rw [if_neg c] at hv
      exact h.ok q m v hq hm hv
end BC

set_option Elab.async false
set_option linter.all false
set_option maxRecDepth 100000
set_option maxHeartbeats 4000000
/-! all walks listed: the walks with one trail, in order, are numbered by walk_rank -/
namespace BC
/-- the walks from a page, without the page itself -/
def wv (G : Grid) : Nat → Nat → List (List Nat)
  | 0, _ => [[]]
  | n + 1, v => ((row G v).map fun y => (wv G n y).map (y :: ·)).flatten
theorem wf_wv (G : Grid) : ∀ (n v : Nat), wf G n v = (wv G n v).map (v :: ·)
  | 0, v => rfl
  | n + 1, v => by
    show ((row G v).map fun u => (wf G n u).map (v :: ·)).flatten = (((row G v).map fun y => (wv G n y).map (y :: ·)).flatten).map (v :: ·)
    rw [List.map_flatten, List.map_map]
    congr 1
    refine List.map_congr_left fun y _ => ?_
    rw [wf_wv G n y]
    rfl
/-- the walks on from the trail p that end with goal -/
def wt (G : Grid) (goal p : List Nat) (n : Nat) : List (List Nat) := (wv G n (p.getLast?.getD 0)).filter fun ws => decide (ws.foldl cutN p = goal)
theorem filter_flat {α : Type} (f : α → Bool) : ∀ L : List (List α), L.flatten.filter f = (L.map fun l => l.filter f).flatten
  | [] => rfl
  | l :: L => by rw [List.flatten_cons, List.filter_append, filter_flat f L]; rfl
theorem wt_succ (G : Grid) (goal p : List Nat) (n : Nat) : wt G goal p (n + 1) = ((row G (p.getLast?.getD 0)).map fun y => (wt G goal (cutN p y) n).map (y :: ·)).flatten := by
  unfold wt
  show ((((row G (p.getLast?.getD 0)).map fun y => (wv G n y).map (y :: ·)).flatten).filter _) = _
  rw [filter_flat, List.map_map]
  congr 1
  refine List.map_congr_left fun y _ => ?_
  show ((wv G n y).map (y :: ·)).filter _ = _
  rw [List.filter_map, cut_last]
  rfl
theorem wt_len (G : Grid) (goal : List Nat) : ∀ (n : Nat) (p : List Nat), (wt G goal p n).length = fol G goal n p
  | 0, p => by
    show ([[]].filter fun ws : List Nat => decide (ws.foldl cutN p = goal)).length = if p = goal then 1 else 0
    by_cases c : p = goal
    · rw [if_pos c]; simp [c]
    · rw [if_neg c]; simp [c]
  | n + 1, p => by
    rw [wt_succ, List.length_flatten, List.map_map]
    show _ = ((row G (p.getLast?.getD 0)).map fun y => fol G goal n (cutN p y)).sum
    congr 1
    refine List.map_congr_left fun y _ => ?_
    show ((wt G goal (cutN p y) n).map (y :: ·)).length = _
    rw [List.length_map, wt_len G goal n]
theorem flat_at (f : Nat → List (List Nat)) : ∀ {l : List Nat} {i : Nat} {ws : List Nat}, l.Pairwise (· < ·) → ((l.map fun y => (f y).map (y :: ·)).flatten)[i]? = some ws →
    ∃ y ws' i', ws = y :: ws' ∧ y ∈ l ∧ (f y)[i']? = some ws' ∧ i = ((l.filter fun z => decide (z < y)).map fun z => (f z).length).sum + i'
  | [], i, ws, _, h => by simp at h
  | a :: l, i, ws, hl, h => by
    rw [List.pairwise_cons] at hl
    rw [List.map_cons, List.flatten_cons] at h
    by_cases c : i < (f a).length
    · rw [List.getElem?_append_left (by rw [List.length_map]; exact c), List.getElem?_map] at h
      obtain ⟨ws', hw, rfl⟩ := Option.map_eq_some_iff.mp h
      have e : ((a :: l).filter fun z => decide (z < a)) = [] := List.filter_eq_nil_iff.mpr fun z hz => by
        rcases List.mem_cons.mp hz with rfl | hz
        · simp
        · have := hl.1 z hz
          simp
          omega
      exact ⟨a, ws', i, rfl, List.mem_cons_self, hw, by rw [e]; simp⟩
    · rw [List.getElem?_append_right (by rw [List.length_map]; omega), List.length_map] at h
      obtain ⟨y, ws', i', h1, h2, h3, h4⟩ := flat_at f hl.2 h
      have := hl.1 y h2
      refine ⟨y, ws', i', h1, List.mem_cons_of_mem _ h2, h3, ?_⟩
      rw [List.filter_cons, if_pos (by simpa using this), List.map_cons, List.sum_cons]
      omega
theorem wt_rank {G : Grid} (ok : SiteOk G) (goal : List Nat) : ∀ (n : Nat) (p : List Nat) (i : Nat) (ws : List Nat), p.getLast?.getD 0 < G.length → (wt G goal p n)[i]? = some ws → rkW G goal p ws = i ∧ Wk G p ws ∧ ws.foldl cutN p = goal ∧ ws.length = n
  | 0, p, i, ws, _, h => by
    have h' : ([[]].filter fun ws : List Nat => decide (ws.foldl cutN p = goal))[i]? = some ws := h
    by_cases c : p = goal
    · have e : ([[]] : List (List Nat)).filter (fun ws => decide (ws.foldl cutN p = goal)) = [[]] := by simp [c]
      rw [e] at h'
      cases i with
      | zero =>
        obtain rfl : ([] : List Nat) = ws := Option.some.inj h'
        exact ⟨rfl, True.intro, c, rfl⟩
      | succ i => simp at h'
    · have e : ([[]] : List (List Nat)).filter (fun ws => decide (ws.foldl cutN p = goal)) = [] := by simp [c]
      rw [e] at h'
      simp at h'
  | n + 1, p, i, ws, hp, h => by
    rw [wt_succ] at h
    obtain ⟨y, ws', i', rfl, hy, hw, hi⟩ := flat_at (fun y => wt G goal (cutN p y) n) (ok.asc _ _ (at_row hp)) h
    obtain ⟨h1, h2, h3, h4⟩ := wt_rank ok goal n (cutN p y) i' ws' (by rw [cut_last]; exact ok.rlt hy) hw
    refine ⟨?_, ⟨hy, h2⟩, h3, by rw [List.length_cons, h4]⟩
    show (((row G (p.getLast?.getD 0)).filter fun z => decide (z < y)).map fun z => fol G goal ws'.length (cutN p z)).sum + rkW G goal (cutN p y) ws' = i
    rw [h1, hi, h4]
    congr 3
    funext z
    rw [wt_len]
/-- the walks from x with one trail -/
theorem wf_filter (G : Grid) (x n : Nat) (goal : List Nat) : (wf G n x).filter (fun r => decide (r.foldl cutN [] = goal)) = (wt G goal [x] n).map (x :: ·) := by
  rw [wf_wv, List.filter_map]
  unfold wt
  congr 1
end BC

set_option Elab.async false
set_option linter.all false
set_option maxRecDepth 100000
set_option maxHeartbeats 4000000
/-! the orders of a set of pages, listed -/
namespace OR
open BC TF
/-- the orders of R that begin with one of c, in list order -/
def ol (G : Grid) : Nat → List Nat → List Nat → List (List Nat)
  | 0, _, _ => [[]]
  | k + 1, c, R => ((c.filter fun x => decide (x ∈ R)).map fun x => (ol G k (row G x) (R.erase x)).map (x :: ·)).flatten
theorem ol_len {G : Grid} : ∀ (k : Nat) {R : List Nat} (q : Nat), R.Nodup → (ol G k (row G q) R).length = wy G k (bits R) q
  | 0, _, _, _ => rfl
  | k + 1, R, q, nd => by
    show (((row G q).filter fun x => decide (x ∈ R)).map fun x => (ol G k (row G x) (R.erase x)).map (x :: ·)).flatten.length = (((row G q).filter (hb (bits R))).map fun p => wy G k (bits R - 2 ^ p) p).sum
    rw [List.length_flatten, List.map_map]
    have ef : (row G q).filter (hb (bits R)) = (row G q).filter fun x => decide (x ∈ R) := List.filter_congr fun x _ => hb_of nd x
    rw [ef]
    congr 1
    refine List.map_congr_left fun x hx => ?_
    have hR : x ∈ R := of_decide_eq_true (List.mem_filter.mp hx).2
    show ((ol G k (row G x) (R.erase x)).map (x :: ·)).length = _
    rw [List.length_map, ol_len k x (nd.erase x)]
    congr 1
    have := bits_erase hR
    omega
theorem ol_cnt {G : Grid} {n : Nat} {R : List Nat} (nd : R.Nodup) (h : ∀ x ∈ R, x < n) (ne : R ≠ []) : (ol G R.length (List.range n) R).length = cnt G R := by
  rw [cnt_range nd h]
  have l1 := List.length_pos_iff.mpr ne
  obtain ⟨k, hk⟩ : ∃ k, R.length = k + 1 := ⟨R.length - 1, by omega⟩
  rw [hk, Nat.add_sub_cancel]
  show (((List.range n).filter fun x => decide (x ∈ R)).map fun x => (ol G k (row G x) (R.erase x)).map (x :: ·)).flatten.length = _
  rw [List.length_flatten, List.map_map, ← filt_sum]
  have ef : (List.range n).filter (hb (bits R)) = (List.range n).filter fun x => decide (x ∈ R) := List.filter_congr fun x _ => hb_of nd x
  rw [ef]
  congr 1
  refine List.map_congr_left fun x hx => ?_
  have hR : x ∈ R := of_decide_eq_true (List.mem_filter.mp hx).2
  show ((ol G k (row G x) (R.erase x)).map (x :: ·)).length = _
  rw [List.length_map, ol_len k x (nd.erase x)]
  congr 1
  have := bits_erase hR
  omega
theorem ol_perm {G : Grid} : ∀ (k : Nat) (c : List Nat) {R R' : List Nat}, R.Perm R' → ol G k c R = ol G k c R'
  | 0, _, _, _, _ => rfl
  | k + 1, c, R, R', h => by
    show ((c.filter fun x => decide (x ∈ R)).map fun x => (ol G k (row G x) (R.erase x)).map (x :: ·)).flatten = ((c.filter fun x => decide (x ∈ R')).map fun x => (ol G k (row G x) (R'.erase x)).map (x :: ·)).flatten
    have ef : c.filter (fun x => decide (x ∈ R)) = c.filter fun x => decide (x ∈ R') := List.filter_congr fun x _ => decide_eq_decide.mpr h.mem_iff
    rw [ef]
    congr 1
    refine List.map_congr_left fun x _ => ?_
    rw [ol_perm k (row G x) (h.erase x)]
theorem ol_asc {G : Grid} (asc : Asc G) : ∀ (k : Nat) {c R : List Nat}, c.Pairwise (· < ·) → (ol G k c R).Pairwise (fun a b => nz a < nz b)
  | 0, _, _, _ => by simp [ol]
  | k + 1, c, R, hc => by
    show List.Pairwise _ (List.flatten _)
    rw [List.pairwise_flatten]
    refine ⟨fun l hl => ?_, ?_⟩
    · obtain ⟨x, _, rfl⟩ := List.mem_map.mp hl
      rw [List.pairwise_map]
      exact (ol_asc asc k (asc x)).imp fun {a b} h => by
        show (x : Int) :: nz a < (x : Int) :: nz b
        exact List.cons_lt_cons_self.mpr h
    · rw [List.pairwise_map]
      refine (hc.filter _).imp fun {x y} hxy a ha b hb => ?_
      obtain ⟨a', _, rfl⟩ := List.mem_map.mp ha
      obtain ⟨b', _, rfl⟩ := List.mem_map.mp hb
      exact lt_at (show (x : Int) < (y : Int) by omega) [] (nz a') (nz b')
theorem lk_cons {G : Grid} {x : Nat} {L : List Nat} : Lnk G (x :: L) ↔ (L = [] ∨ L.headD 0 ∈ row G x) ∧ Lnk G L := by
  cases L with
  | nil => exact ⟨fun _ => ⟨.inl rfl, True.intro⟩, fun _ => True.intro⟩
  | cons y L => exact ⟨fun h => ⟨.inr h.1, h.2⟩, fun h => ⟨h.1.resolve_left (by simp), h.2⟩⟩
theorem ol_mem {G : Grid} : ∀ (k : Nat) {c R L : List Nat}, R.length = k → (L ∈ ol G k c R ↔ L.Perm R ∧ (L = [] ∨ L.headD 0 ∈ c) ∧ Lnk G L)
  | 0, c, R, L, hk => by
    rw [List.length_eq_zero_iff] at hk
    subst hk
    show L ∈ [[]] ↔ _
    rw [List.mem_singleton]
    exact ⟨fun h => by subst h; exact ⟨List.Perm.refl _, .inl rfl, True.intro⟩, fun h => h.1.eq_nil⟩
  | k + 1, c, R, L, hk => by
    show L ∈ List.flatten _ ↔ _
    rw [List.mem_flatten]
    constructor
    · rintro ⟨l, hl, hL⟩
      obtain ⟨x, hx, rfl⟩ := List.mem_map.mp hl
      obtain ⟨hc, hR⟩ := List.mem_filter.mp hx
      have hR := of_decide_eq_true hR
      obtain ⟨L', hL', rfl⟩ := List.mem_map.mp hL
      obtain ⟨h1, h2, h3⟩ := (ol_mem k (by rw [List.length_erase_of_mem hR]; omega)).mp hL'
      exact ⟨(h1.cons x).trans (List.perm_cons_erase hR).symm, .inr hc, lk_cons.mpr ⟨h2, h3⟩⟩
    · rintro ⟨h1, h2, h3⟩
      cases L with
      | nil => rw [← h1.length_eq] at hk; cases hk
      | cons x L =>
        have hR : x ∈ R := h1.mem_iff.mp List.mem_cons_self
        have hc : x ∈ c := h2.resolve_left (by simp)
        obtain ⟨h4, h5⟩ := lk_cons.mp h3
        refine ⟨_, List.mem_map.mpr ⟨x, List.mem_filter.mpr ⟨hc, decide_eq_true hR⟩, rfl⟩, List.mem_map.mpr ⟨L, (ol_mem k (by rw [List.length_erase_of_mem hR]; omega)).mpr ⟨?_, h4, h5⟩, rfl⟩⟩
        have := h1.erase x
        rw [List.erase_cons_head] at this
        exact this
theorem ol_at {G : Grid} {k : Nat} {c R L : List Nat} {i : Nat} (hc : c.Pairwise (· < ·)) (h : (ol G (k + 1) c R)[i]? = some L) : ∃ y L' i', L = y :: L' ∧ y ∈ c ∧ y ∈ R ∧ (ol G k (row G y) (R.erase y))[i']? = some L' ∧ i = ((c.filter fun z => decide (z ∈ R) && decide (z < y)).map fun z => (ol G k (row G z) (R.erase z)).length).sum + i' := by
  obtain ⟨y, L', i', h1, h2, h3, h4⟩ := flat_at (fun x => ol G k (row G x) (R.erase x)) (hc.filter _) h
  obtain ⟨h5, h6⟩ := List.mem_filter.mp h2
  refine ⟨y, L', i', h1, h5, of_decide_eq_true h6, h3, ?_⟩
  rw [h4, List.filter_filter]
  congr 4
  funext z
  rw [Bool.and_comm]
/-- two ascending lists with the same members -/
theorem asc_eq {A B : List (List Nat)} (ha : A.Pairwise (fun a b => nz a < nz b)) (hb : B.Pairwise (fun a b => nz a < nz b)) (h : ∀ x, x ∈ A ↔ x ∈ B) : A = B := by
  have nd : ∀ {L : List (List Nat)}, L.Pairwise (fun a b => nz a < nz b) → L.Nodup := fun h => h.imp fun h e => by rw [e] at h; exact List.lt_irrefl _ h
  have pm : A.Perm B := (List.perm_ext_iff_of_nodup (nd ha) (nd hb)).mpr h
  exact pm.eq_of_pairwise (fun a b _ _ h1 h2 => absurd h1 (List.lt_asymm h2)) ha hb
theorem asc_of_le {A : List (List Nat)} (h : A.Pairwise (fun a b => nz a ≤ nz b)) (nd : A.Nodup) : A.Pairwise (fun a b => nz a < nz b) := by
  refine (h.and nd).imp fun {a b} h => ?_
  rcases List.le_iff_lt_or_eq.mp h.1 with g | g
  · exact g
  · exact absurd (nz_inj g) h.2
end OR

set_option Elab.async false
set_option linter.all false
set_option maxRecDepth 100000
set_option maxHeartbeats 4000000
namespace LW
open PySem PySem.Spec PyProof.Rows L2 BC Evl TR
local macro_rules | `(tactic| walk_at "sx") => `(tactic| try simp only [x_dcT, x_dc, x_updT, x_iitemsT, x_dispT1, x_valsT, x_lockT, SL.x_yfor, SL.x_yplain, SL.x_ythen, SL.x_y0, SL.x_yyield, SL.x_ywhile, SL.x_callY, SL.x_callYK, x_gwhile, x_callG, x_g0, x_gfor, x_gplain, x_gthen, x_gyield, x_listG, x_dnewT, x_dget, x_dget2, x_dput, x_seq, x_next, x_brk, x_cnt, x_nev, x_ret, x_retN, x_drop, x_ifS, x_asg, x_gn, x_gsub, x_par, x_par3, x_aug, x_for, x_lc, x_rng1, x_rng2, x_rng3, x_ilist, x_itup, x_ienum, x_izip, x_izipA, x_istr, x_var, x_c, x_op, x_un, x_test, x_b, x_chain, x_and, x_or, x_not, x_andV, x_orV, x_notV, x_ife, x_nil, x_cons, x_lst, x_tup, x_cb, x_call, x_callK, x_bm, x_bm0, x_tru, x_sl, x_nopart, x_part, x_revL, x_I0, x_I, x_U, x_ip, x_ipC, x_eqI, x_neI, x_eqB, x_neB, x_eqS, x_neS, x_isB, x_isNB, x_lrg, x_gall, x_lenSet, x_augS, x_sortSet, x_rg1, x_rg2,
  L2.start, List.map_cons, List.map_nil, List.length_cons, List.length_nil, Nat.reduceAdd, Nat.reduceSub, Nat.sub_self, Nat.zero_add, List.replicate, List.replicate_succ, List.replicate_zero, List.append_nil, List.cons_append, List.nil_append, List.set_cons_zero, List.set_cons_succ, List.getElem?_cons_zero, List.getElem?_cons_succ, Option.some.injEq, V.int.injEq, V.bl.injEq, V.ref.injEq, V.str.injEq, List.cons.injEq, and_true, true_and, exists_eq_left', exists_eq_left, exists_and_left, exists_eq, if_true, if_false, ite_true, ite_false, Bool.true_eq_false, Bool.false_eq_true, reduceIte, reduceCtorEq, Bool.not_true, Bool.not_false, decide_true, decide_false, decide_eq_true_eq, Bool.and_true, Bool.true_and, Bool.and_self, Bool.and_false, Bool.false_and, Bool.or_self, Bool.or_false, Bool.false_or, Bool.or_true, Bool.true_or, eq_self])
section
variable {P : Program} {w : World} {K : PySem.W.Frag} {mg : Str → Option Value} {base : Heap}
theorem cnt_fnd {G : Grid} (ok : SiteOk G) {L : List Nat} (nd : L.Nodup) : (L.map fun x => TF.get2 (OR.fnd G L (L.length - 1)) (TF.bits L - 2 ^ x, x)).sum = OR.cnt G L := by
  unfold OR.cnt
  congr 1
  refine List.map_congr_left fun x hx => ?_
  have hb := OR.bits_erase hx
  have e : TF.bits L - 2 ^ x = TF.bits (L.erase x) := by omega
  rw [e]
  exact OR.fnd_get ok (asc_of ok) nd (L.length - 1) (Nat.le_refl _) (nd.erase x) (fun y hy => List.mem_of_mem_erase hy) (List.length_erase_of_mem hx) hx (fun m => (List.Nodup.mem_erase_iff nd).mp m |>.1 rfl)
/-- the number of orders of a set -/
def spCO (K : PySem.W.Frag) : Sp := fun vs H Q _ => ∃ (s a : Addr) (G : Grid) (L : List Nat), vs = [.ref s, .ref a] ∧ GridAt H s G ∧ SiteOk G ∧ G.length ≤ 7 ∧ SqL K H a ((nz L).map V.int) ∧ L.Nodup ∧ (∀ x ∈ L, x < G.length) ∧ ∀ H', Ex H H' → Q (.int (OR.cnt G L : Nat)) H'
theorem ok_count_orders (T : Txt K mg) : FnOk P w K mg base CX0 5 T.f_count_orders T.fd_count_orders ["site", "pages"] (spCO K) := by
  refine T.F_count_orders.ok sc_count_orders (fun vs H Q E h => ?_) (fun cdv A outer s H vs Q E hr h => ?_)
  · obtain ⟨s, a, G, L, rfl, _⟩ := h
    rfl
  · obtain ⟨s, a, G, L, rfl, hS, ok, h7, hA, nd, hlt, k⟩ := h
    apply Exists.intro
    apply And.intro
    · apply pss_cons
      · exact (ps_expr (pe_call (ok_check_site T) (hr.mono (by decide)) (by rfl) T.m_check_site T.F_check_site.kp T.b_check_site .nil pass0 (pa_cons (pv 0) pa_nil)))
      apply pss_cons
      · exact (ps_expr (pe_call (ok_check_pages T) (hr.mono (by decide)) (by rfl) T.m_check_pages T.F_check_pages.kp T.b_check_pages .nil pass0 (pa_cons (pv 0) (pa_cons (pv 1) pa_nil))))
      apply pss_one
      exact (ps_ret (pe_call (ok_number_of_orders T) (hr.mono (by decide)) (by rfl) T.m_number_of_orders T.F_number_of_orders.kp T.b_number_of_orders .nil pass0 (pa_cons (pv 1) (pa_cons (pe_call (ok_ways_on T) (hr.mono (by decide)) (by rfl) T.m_ways_on T.F_ways_on.kp T.b_ways_on .nil pass0 (pa_cons (pv 0) (pa_cons (pv 1) pa_nil))) pa_nil))))
    walk_at "sx"
    have n2 := ok.n2
    have hl7 := nd_len nd hlt
    refine ⟨s, G, rfl, hS, ok, fun H1 e1 => ?_⟩
    walk_at "sx"
    refine ⟨s, a, G, L, rfl, hS.ex e1, ex_l e1 hA, nd, hlt, n2, fun H2 e2 => ?_⟩
    have e12 := e1.trans e2
    walk_at "sx"
    refine ⟨s, a, G, L, rfl, hS.ex e12, ok, h7, ex_l e12 hA, nd, hlt, fun f H3 nf e3 hf => ?_⟩
    have e13 := e12.trans e3
    walk_at "sx"
    refine ⟨a, f, _, L, rfl, ex_l e13 hA, hf, fun x hx => by have := hlt x hx; omega, by omega, fun H4 e4 => ?_⟩
    rw [cnt_fnd ok nd]
    exact k _ (e13.trans e4)
end
section
variable {P : Program} {w : World} {K : PySem.W.Frag} {mg : Str → Option Value} {base : Heap}
/-- the orders of R that begin with x -/
def Fon (G : Grid) (R : List Nat) (x : Nat) : Nat := OR.wy G (R.length - 1) (TF.bits R - 2 ^ x) x
theorem lnk_snocO {G : Grid} {x : Nat} : ∀ {q : List Nat}, q ≠ [] → linked G q = true → x ∈ row G (lst q) → linked G (q ++ [x]) = true
  | [], h, _, _ => absurd rfl h
  | [a], _, _, h => by
    show (decide (x ∈ row G a) && linked G [x]) = true
    rw [decide_eq_true (show x ∈ row G a from h)]
    rfl
  | a :: b :: l, _, h, hx => by
    have h : (decide (b ∈ row G a) && linked G (b :: l)) = true := h
    rw [Bool.and_eq_true] at h
    show (decide (b ∈ row G a) && linked G ((b :: l) ++ [x])) = true
    have e : lst (a :: b :: l) = lst (b :: l) := by
      unfold lst
      rw [List.getLast?_cons_cons]
    rw [h.1, lnk_snocO (by simp) h.2 (e ▸ hx)]
    rfl
theorem bits_pos {R : List Nat} (h : R ≠ []) : 0 < TF.bits R := by
  cases R with
  | nil => exact absurd rfl h
  | cons x R =>
    rw [OR.bits_cons]
    have := Nat.pow_pos (n := x) (show 0 < 2 by decide)
    omega
theorem fx_next {G : Grid} {R U : List Nat} (nd : R.Nodup) {x : Nat} (hx : x ∈ R) (ne : R.erase x ≠ []) : Fon G R x = ((able G (U ++ [x]) (TF.bits (R.erase x))).map (Fon G (R.erase x))).sum := by
  have hb := OR.bits_erase hx
  have l1 := List.length_erase_of_mem hx
  have l2 := List.length_pos_iff.mpr ne
  unfold Fon able
  rw [if_neg (by simp), show TF.bits R - 2 ^ x = TF.bits (R.erase x) by omega, show R.length - 1 = (R.length - 2) + 1 by omega, show (R.erase x).length - 1 = R.length - 2 by omega, show lst (U ++ [x]) = x by unfold lst; rw [List.getLast?_concat]; rfl]
  rfl
theorem fx_get {G : Grid} (ok : SiteOk G) {L R : List Nat} (nd : L.Nodup) (ndR : R.Nodup) (sub : ∀ y ∈ R, y ∈ L) (hl : R.length ≤ L.length) {x : Nat} (hx : x ∈ R) : TF.get2 (OR.fnd G L (L.length - 1)) (TF.bits R - 2 ^ x, x) = Fon G R x := by
  have hb := OR.bits_erase hx
  have l1 := List.length_erase_of_mem hx
  unfold Fon
  rw [show TF.bits R - 2 ^ x = TF.bits (R.erase x) by omega]
  exact OR.fnd_get ok (asc_of ok) nd (L.length - 1) (k := R.length - 1) (by omega) (ndR.erase x) (fun y hy => sub y (List.mem_of_mem_erase hy)) l1 (sub x hx) (fun m => (List.Nodup.mem_erase_iff ndR).mp m |>.1 rfl)
structure Rem (G : Grid) (L U R : List Nat) : Prop where
  pm : (U ++ R).Perm L
def cand (G : Grid) (U : List Nat) : List Nat := if U = [] then List.range G.length else row G (lst U)
/-- the orders of R that begin with x -/
def ch (G : Grid) (R : List Nat) (x : Nat) : List (List Nat) := (OR.ol G (R.length - 1) (row G x) (R.erase x)).map (x :: ·)
theorem ch_len {G : Grid} {R : List Nat} (nd : R.Nodup) {x : Nat} (hx : x ∈ R) : (ch G R x).length = Fon G R x := by
  have hb := OR.bits_erase hx
  unfold ch Fon
  rw [List.length_map, OR.ol_len _ x (nd.erase x), show TF.bits R - 2 ^ x = TF.bits (R.erase x) by omega]
theorem ol_ch {G : Grid} {R U : List Nat} (nd : R.Nodup) (ne : R ≠ []) : OR.ol G R.length (cand G U) R = ((able G U (TF.bits R)).map (ch G R)).flatten := by
  have l1 := List.length_pos_iff.mpr ne
  obtain ⟨k, hk⟩ : ∃ k, R.length = k + 1 := ⟨R.length - 1, by omega⟩
  have ea : able G U (TF.bits R) = (cand G U).filter fun x => decide (x ∈ R) := List.filter_congr fun x _ => OR.hb_of nd x
  rw [ea]
  unfold ch
  rw [hk, Nat.add_sub_cancel]
  rfl
theorem cand_snoc (G : Grid) (U : List Nat) (x : Nat) : cand G (U ++ [x]) = row G x := by
  unfold cand
  rw [if_neg (by simp), TF.lst_snoc]
def JNt (G : Grid) (L M : List Nat) (H4 : Hp) (s a f fo : Addr) (m : Nat) (σ' : L2.St) (H' : Hp) : Prop := ∃ (U R : List Nat) (idx : Nat) (l6 l7 : Option V), m = R.length ∧ σ' = [some (.ref s), some (.ref a), some (.int idx), some (.ref f), some (.int (TF.bits R : Nat)), some (.ref fo), l6, l7] ∧ Ex H4 H' ∧ H' fo = some (.lst ((nz U).map V.int)) ∧
  Rem G L U R ∧ ∃ Z, (OR.ol G R.length (cand G U) R)[idx]? = some Z ∧ U ++ Z = M
def JNi (G : Grid) (H5 : Hp) (s a f fo r : Addr) (R A Z : List Nat) (idx : Nat) (m : Nat) (σ' : L2.St) (H' : Hp) : Prop := ∃ (j i' : Nat), m = A.length - j ∧ j < A.length ∧ σ' = [some (.ref s), some (.ref a), some (.int i'), some (.ref f), some (.int (TF.bits R : Nat)), some (.ref fo), some (.ref r), some (.int j)] ∧ Ex H5 H' ∧ (((A.drop j).map (ch G R)).flatten)[i']? = some Z
/-- an order of pages with an index: the one in the list of all orders -/
def spNth (K : PySem.W.Frag) : Sp := fun vs H Q _ => ∃ (s a : Addr) (G : Grid) (L M : List Nat) (n : Nat), vs = [.ref s, .ref a, .int n] ∧ GridAt H s G ∧ SiteOk G ∧ G.length ≤ 7 ∧ SqL K H a ((nz L).map V.int) ∧ L ≠ [] ∧ L.Nodup ∧ (∀ x ∈ L, x < G.length) ∧ (OR.ol G L.length (List.range G.length) L)[n]? = some M ∧
  ∀ r H', H r = none → Ex H H' → H' r = some (.lst ((nz M).map V.int)) → Q (.ref r) H'
theorem ok_nth_order (T : Txt K mg) : FnOk P w K mg base CX0 5 T.f_nth_order T.fd_nth_order ["site", "pages", "index"] (spNth K) := by
  refine T.F_nth_order.ok sc_nth_order (fun vs H Q E h => ?_) (fun cdv A outer s H vs Q E hr h => ?_)
  · obtain ⟨s, a, G, L, M, n, rfl, _⟩ := h
    rfl
  · obtain ⟨s, a, G, L, M, n, rfl, hS, ok, h7, hA, neL, nd, hlt, hM, k⟩ := h
    apply Exists.intro
    apply And.intro
    · apply pss_cons
      · exact (ps_expr (pe_call (ok_check_site T) (hr.mono (by decide)) (by rfl) T.m_check_site T.F_check_site.kp T.b_check_site .nil pass0 (pa_cons (pv 0) pa_nil)))
      apply pss_cons
      · exact (ps_expr (pe_call (ok_check_pages T) (hr.mono (by decide)) (by rfl) T.m_check_pages T.F_check_pages.kp T.b_check_pages .nil pass0 (pa_cons (pv 0) (pa_cons (pv 1) pa_nil))))
      apply pss_cons
      · exact (ps_set (i := 3) sc_nth_order.nd rfl (.inl rfl) (pe_call (ok_ways_on T) (hr.mono (by decide)) (by rfl) T.m_ways_on T.F_ways_on.kp T.b_ways_on .nil pass0 (pa_cons (pv 0) (pa_cons (pv 1) pa_nil))))
      apply pss_cons
      · exact (ps_expr (pe_call (ok_check_number T) (hr.mono (by decide)) (by rfl) T.m_check_number T.F_check_number.kp T.b_check_number .nil pass0 (pa_cons (pv 2) (pa_cons pe_int (pa_cons (pe_op op_sub (pe_call (ok_number_of_orders T) (hr.mono (by decide)) (by rfl) T.m_number_of_orders T.F_number_of_orders.kp T.b_number_of_orders .nil pass0 (pa_cons (pv 1) (pa_cons (pv 3) pa_nil))) pe_int) pa_nil)))))
      apply pss_cons
      · exact (ps_par (i := 4) (j := 5) (by rfl) sc_nth_order.nd rfl rfl (by decide) rfl rfl (pa_cons (pe_call (ok_bits_of T) (hr.mono (by decide)) (by rfl) T.m_bits_of T.F_bits_of.kp T.b_bits_of .nil pass0 (pa_cons (pv 1) pa_nil)) (pa_cons (pe_lst pa_nil) pa_nil)) (by rfl))
      apply pss_cons
      · apply ps_while PassesOwn.never
        · exact (pt_cmpR op_gt (pv 4) pe_int (by rfl))
        · apply pss_cons
          · exact (ps_par (i := 6) (j := 7) (by rfl) sc_nth_order.nd rfl rfl (by decide) rfl rfl (pa_cons (pe_call (ok_next_pages T) (hr.mono (by decide)) (by rfl) T.m_next_pages T.F_next_pages.kp T.b_next_pages .nil pass0 (pa_cons (pv 0) (pa_cons (pv 4) (pa_cons (pv 5) pa_nil)))) (pa_cons pe_int pa_nil)) (by rfl))
          apply pss_cons
          · apply ps_while PassesOwn.never
            · exact (pt_cmpR op_ge (pv 2) (pe_call (ok_number_behind T) (hr.mono (by decide)) (by rfl) T.m_number_behind T.F_number_behind.kp T.b_number_behind .nil pass0 (pa_cons (pv 3) (pa_cons (pv 4) (pa_cons (pe_ix (k_ix_list (K := K) rfl) (pv 6) (pv 7) (fun _ _ => rfl)) pa_nil)))) (by rfl))
            · apply pss_cons
              · exact (ps_aug (i := 2) sc_nth_order.nd rfl (.inl rfl) (pe_call (ok_number_behind T) (hr.mono (by decide)) (by rfl) T.m_number_behind T.F_number_behind.kp T.b_number_behind .nil pass0 (pa_cons (pv 3) (pa_cons (pv 4) (pa_cons (pe_ix (k_ix_list (K := K) rfl) (pv 6) (pv 7) (fun _ _ => rfl)) pa_nil)))) ip_sub)
              apply pss_one
              exact (ps_aug (i := 7) sc_nth_order.nd rfl (.inl rfl) pe_int ip_add)
          apply pss_cons
          · exact (ps_expr (k_bm (K := K) rfl (pe_bm PySem.F.plainAttrs_list PySem.F.slot_list_append PySem.F.type_list_append mt_append (pv 5) (pa_cons (pe_ix (k_ix_list (K := K) rfl) (pv 6) (pv 7) (fun _ _ => rfl)) pa_nil))))
          apply pss_one
          exact (ps_aug (i := 4) sc_nth_order.nd rfl (.inl rfl) (pe_ix (k_ix_tup (K := K) rfl) (pe_glob (v := V.ref T.a_BITS) (by rfl) T.c_BITS rfl) (pe_ix (k_ix_list (K := K) rfl) (pv 6) (pv 7) (fun _ _ => rfl)) (fun _ _ => rfl)) ip_sub)
      apply pss_one
      exact (ps_ret (pv 5))
    walk_at "sx"
    have n2 := ok.n2
    have hn : n < OR.cnt G L := by
      rw [← OR.ol_cnt nd hlt neL]
      exact (List.getElem?_eq_some_iff.mp hM).1
    have hl7 := nd_len nd hlt
    refine ⟨s, G, rfl, hS, ok, fun H1 e1 => ?_⟩
    walk_at "sx"
    refine ⟨s, a, G, L, rfl, hS.ex e1, ex_l e1 hA, nd, hlt, n2, fun H2 e2 => ?_⟩
    have e12 := e1.trans e2
    walk_at "sx"
    refine ⟨s, a, G, L, rfl, hS.ex e12, ok, h7, ex_l e12 hA, nd, hlt, fun f H3 nf e3 hf => ?_⟩
    have e13 := e12.trans e3
    walk_at "sx"
    refine ⟨a, f, _, L, rfl, ex_l e13 hA, hf, fun x hx => by have := hlt x hx; omega, by omega, fun H4 e4 => ?_⟩
    rw [cnt_fnd ok nd]
    walk_at "sx"
    refine ⟨n, 0, _, rfl, by omega, by omega, ?_⟩
    walk_at "sx"
    refine ⟨a, L, rfl, ex_l (e13.trans e4) hA, fun x hx => by have := hlt x hx; omega, fun H5 e5 => ?_⟩
    have e15 := (e13.trans e4).trans e5
    refine ⟨sz_ok (by omega), fun fo nfo => ⟨_, _, ⟨rfl, rfl⟩, ?_⟩⟩
    have nfoH := fresh_back e15 nfo
    have hf5 := (e4.trans e5) _ _ hf
    refine ⟨fun m σ' H' => JNt G L M H5 s a f fo m σ' H', ⟨L.length, [], L, n, none, none, rfl, rfl, Ex.new nfo, upd_same, ⟨List.Perm.refl _⟩, M, hM, rfl⟩, fun m σ' H' hP => ?_⟩
    obtain ⟨U, R, idx, l6, l7, rfl, rfl, e6, hfo, rm, Z, hZ, hUZ⟩ := hP
    have ndUR : (U ++ R).Nodup := rm.pm.nodup_iff.mpr nd
    have ndR := (List.nodup_append.mp ndUR).2.1
    have subR : ∀ y ∈ R, y ∈ L := fun y hy => rm.pm.mem_iff.mp (List.mem_append_right _ hy)
    have subU : ∀ y ∈ U, y ∈ L := fun y hy => rm.pm.mem_iff.mp (List.mem_append_left _ hy)
    have lenUR := rm.pm.length_eq
    rw [List.length_append] at lenUR
    walk_at "sx"
    by_cases c : R = []
    · subst c
      rw [if_neg (by simp [TF.bits])]
      have hz : Z = [] := by
        have := List.mem_of_getElem? hZ
        simpa [OR.ol] using this
      rw [hz, List.append_nil] at hUZ
      subst hUZ
      exact k fo H' nfoH (e15.trans e6) hfo
    · have bp := bits_pos c
      rw [if_pos (by omega)]
      refine ⟨fun σ' H' => ∃ m', m' < R.length ∧ JNt G L M H5 s a f fo m' σ' H', fun _ _ h => h, ?_⟩
      refine ⟨s, fo, G, U, _, rfl, hS.ex (e15.trans e6), ok, .inl (.inl hfo), by omega, fun y hy => hlt y (subU y hy), fun r H7 nr e7 hr => ?_⟩
      refine ⟨_, _, ⟨rfl, rfl⟩, ?_⟩
      have hi0 := hZ
      rw [ol_ch ndR c] at hi0
      generalize hAe : able G U (TF.bits R) = A at hr hi0
      have inA : ∀ x ∈ A, x ∈ R ∧ x < G.length := fun x hx => by
        rw [← hAe] at hx
        unfold able at hx
        obtain ⟨h1, h2⟩ := List.mem_filter.mp hx
        rw [OR.hb_of ndR, decide_eq_true_eq] at h2
        exact ⟨h2, hlt x (subR x h2)⟩
      have hf7 := (e6.trans e7) _ _ hf5
      have hfo7 := e7 _ _ hfo
      refine ⟨fun m σ' H' => JNi G H7 s a f fo r R A Z idx m σ' H', ⟨A.length, 0, idx, rfl, ?_, rfl, Ex.refl _, hi0⟩, fun m σ' H' hP => ?_⟩
      · cases A with
        | nil => simp at hi0
        | cons x A => exact Nat.succ_pos _
      obtain ⟨j, i', rfl, hj, rfl, e8, hi'⟩ := hP
      obtain ⟨x, hx⟩ : ∃ x, A[j]? = some x := ⟨_, List.getElem?_eq_getElem hj⟩
      obtain ⟨xR, xG⟩ := inA x (List.mem_of_getElem? hx)
      have hbx := OR.bits_erase xR
      have hge : 2 ^ x ≤ TF.bits R := by omega
      have hdr : A.drop j = x :: A.drop (j + 1) := by
        rw [List.drop_eq_getElem_cons hj]
        congr 1
        rw [List.getElem?_eq_getElem hj] at hx
        exact Option.some.inj hx
      rw [hdr, List.map_cons, List.flatten_cons] at hi'
      have cl := ch_len (G := G) ndR xR
      have hr8 := e8 _ _ hr
      have hf8 := e8 _ _ hf7
      have hfo8 := e8 _ _ hfo7
      have gx := fx_get ok nd ndR subR (by omega) xR
      walk_at "sx"
      refine ixL (.inl (.inl hr8)) (atI_n rfl (nz_at hx)) ?_
      refine ⟨f, _, TF.bits R, x, rfl, hf8, by omega, hge, fun H9 e9 => ?_⟩
      rw [gx]
      refine x_I0.mpr ⟨_, rfl, ?_⟩
      by_cases cx : Fon G R x ≤ i'
      · rw [if_pos (by simpa using cx)]
        have hr9 := e9 _ _ hr8
        refine ⟨fun σ2 H2 => ∃ m', m' < A.length - j ∧ JNi G H7 s a f fo r R A Z idx m' σ2 H2, fun _ _ h => h, ?_⟩
        refine ixL (.inl (.inl hr9)) (atI_n rfl (nz_at hx)) ?_
        refine ⟨f, _, TF.bits R, x, rfl, e9 _ _ hf8, by omega, hge, fun HA eA => ?_⟩
        rw [gx]
        walk_at "sx"
        rw [List.getElem?_append_right (by omega), cl] at hi'
        have hj1 : j + 1 < A.length := by
          rcases Nat.lt_or_ge (j + 1) A.length with h | h
          · exact h
          · rw [List.drop_eq_nil_of_le h] at hi'
            simp at hi'
        refine ⟨A.length - (j + 1), by omega, j + 1, i' - Fon G R x, rfl, hj1, ?_, e8.trans (e9.trans eA), hi'⟩
        rw [Int.natCast_sub cx, Int.natCast_add]
        rfl
      · rw [if_neg (by simpa using cx)]
        have hfo9 := e9 _ _ hfo8
        have hr9 := e9 _ _ hr8
        refine ⟨tyL hfo9, ?_⟩
        refine ixL (.inl (.inl hr9)) (atI_n rfl (nz_at hx)) ?_
        refine appL hfo9 (BC.sz_lt (by rw [List.length_map, nz_len]; omega)) ?_
        have hfor : r ≠ fo := (ne_of_none hfo nr).symm
        refine ixL (.inl (.inl (by rw [upd_ne hfor]; exact hr9))) (atI_n rfl (nz_at hx)) ?_
        refine ixT (T.s_BITS.at _) (atI_n (j := x) (by rfl) (bit_at (by omega))) ?_
        walk_at "sx"
        have l1 := List.length_erase_of_mem xR
        have lp := List.length_pos_iff.mpr c
        rw [List.getElem?_append_left (by omega)] at hi'
        unfold ch at hi'
        rw [List.getElem?_map] at hi'
        obtain ⟨Z', hZ', rfl⟩ := Option.map_eq_some_iff.mp hi'
        refine ⟨(R.erase x).length, by omega, U ++ [x], R.erase x, i', some (.ref r), some (.int j), rfl, ?_, (((e6.trans e7).trans e8).trans e9).mut nfo, ?_, ⟨?_⟩, Z', ?_, ?_⟩
        · rw [hbx, Int.natCast_add, Int.add_sub_cancel]
        · rw [upd_same]
          unfold nz
          simp
        · refine List.Perm.trans ?_ rm.pm
          rw [List.append_assoc]
          exact List.Perm.append_left U (List.perm_cons_erase xR).symm
        · rw [cand_snoc, l1]
          exact hZ'
        · rw [← hUZ]
          simp
end
section
variable {P : Program} {w : World} {K : PySem.W.Frag} {mg : Str → Option Value} {base : Heap}
theorem able_in {G : Grid} {U R : List Nat} (nd : R.Nodup) : able G U (TF.bits R) = (cand G U).filter fun x => decide (x ∈ R) := List.filter_congr fun x _ => OR.hb_of nd x
theorem cand_asc {G : Grid} (ok : SiteOk G) (U : List Nat) : (cand G U).Pairwise (· < ·) := by
  unfold cand
  split
  · exact List.pairwise_lt_range
  · exact asc_of ok _
/-- one page of a rank -/
theorem rank_step {G : Grid} (ok : SiteOk G) {U R : List Nat} {p i : Nat} (nd : (p :: R).Nodup) (h : (OR.ol G (p :: R).length (cand G U) (p :: R))[i]? = some (p :: R)) : ∃ i', (OR.ol G R.length (cand G (U ++ [p])) R)[i']? = some R ∧ i = (((able G U (TF.bits (p :: R))).filter fun x => decide (x < p)).map (Fon G (p :: R))).sum + i' := by
  obtain ⟨y, L', i', h1, h2, h3, h4, h5⟩ := OR.ol_at (k := R.length) (cand_asc ok U) h
  cases h1
  rw [List.erase_cons_head] at h4
  refine ⟨i', by rw [cand_snoc]; exact h4, ?_⟩
  rw [h5, able_in nd, List.filter_filter]
  congr 2
  have e : ∀ z ∈ (cand G U).filter (fun z => decide (z ∈ p :: R) && decide (z < p)), (OR.ol G R.length (row G z) ((p :: R).erase z)).length = Fon G (p :: R) z := fun z hz => by
    obtain ⟨_, hz⟩ := List.mem_filter.mp hz
    rw [Bool.and_eq_true, decide_eq_true_eq] at hz
    rw [← ch_len nd hz.1]
    unfold ch
    rw [List.length_map]
    rfl
  rw [List.map_congr_left e]
  congr 1
  refine List.filter_congr fun x _ => ?_
  rw [Bool.and_comm]
/-- the rank of a trail -/
def spRank (K : PySem.W.Frag) : Sp := fun vs H Q _ => ∃ (s a : Addr) (G : Grid) (L : List Nat) (i : Nat), vs = [.ref s, .ref a] ∧ GridAt H s G ∧ SiteOk G ∧ G.length ≤ 7 ∧ SqL K H a ((nz L).map V.int) ∧ TrOn G L ∧ (OR.ol G L.length (List.range G.length) L)[i]? = some L ∧ ∀ H', Ex H H' → Q (.int i) H'
theorem ok_order_rank (T : Txt K mg) : FnOk P w K mg base CX0 5 T.f_order_rank T.fd_order_rank ["site", "trail"] (spRank K) := by
  refine T.F_order_rank.ok sc_order_rank (fun vs H Q E h => ?_) (fun cdv A outer s H vs Q E hr h => ?_)
  · obtain ⟨s, a, G, L, i, rfl, _⟩ := h
    rfl
  · obtain ⟨s, a, G, L, i0, rfl, hS, ok, h7, hA, tr, hL, k⟩ := h
    apply Exists.intro
    apply And.intro
    · apply pss_cons
      · exact (ps_expr (pe_call (ok_check_site T) (hr.mono (by decide)) (by rfl) T.m_check_site T.F_check_site.kp T.b_check_site .nil pass0 (pa_cons (pv 0) pa_nil)))
      apply pss_cons
      · apply ps_if
        · exact (pt_not (pt_val (pe_call (ok_is_trail_on T) (hr.mono (by decide)) (by rfl) T.m_is_trail_on T.F_is_trail_on.kp T.b_is_trail_on .nil pass0 (pa_cons (pv 0) (pa_cons (pv 1) pa_nil)))))
        · apply pss_one
          exact ps_never
        · exact pss_nil
      apply pss_cons
      · exact (ps_set (i := 2) sc_order_rank.nd rfl (.inl rfl) (pe_call (ok_ways_on T) (hr.mono (by decide)) (by rfl) T.m_ways_on T.F_ways_on.kp T.b_ways_on .nil pass0 (pa_cons (pv 0) (pa_cons (pv 1) pa_nil))))
      apply pss_cons
      · exact (ps_par (i := 3) (j := 4) (by rfl) sc_order_rank.nd rfl rfl (by decide) rfl rfl (pa_cons (pe_call (ok_bits_of T) (hr.mono (by decide)) (by rfl) T.m_bits_of T.F_bits_of.kp T.b_bits_of .nil pass0 (pa_cons (pv 1) pa_nil)) (pa_cons pe_int pa_nil)) (by rfl))
      apply pss_cons
      · apply ps_for PassesOwn.never rfl
        · exact (k_pi_enum (K := K) rfl (by rfl) T.n_enumerate (pa_cons (pv 1) pa_nil))
        · exact (k_tup (K := K) (n := 2) rfl rfl (pgs_cons (pg_name (i := 5) sc_order_rank.nd rfl (.inl rfl)) (pgs_cons (pg_name (i := 6) sc_order_rank.nd rfl (.inl rfl)) pgs_nil)))
        · apply pss_cons
          · apply ps_for PassesOwn.never rfl
            · exact (k_pi_list (K := K) rfl (pe_call (ok_next_pages T) (hr.mono (by decide)) (by rfl) T.m_next_pages T.F_next_pages.kp T.b_next_pages .nil pass0 (pa_cons (pv 0) (pa_cons (pv 3) (pa_cons (pe_slice (k_sl_list (K := K) rfl) (pv 1) po_none (po_some (pv 5))) pa_nil)))))
            · exact (pg_name (i := 7) sc_order_rank.nd rfl (.inl rfl))
            · apply pss_one
              apply ps_if
              · exact (pt_cmpR op_lt (pv 7) (pv 6) (by rfl))
              · apply pss_one
                exact (ps_aug (i := 4) sc_order_rank.nd rfl (.inl rfl) (pe_call (ok_number_behind T) (hr.mono (by decide)) (by rfl) T.m_number_behind T.F_number_behind.kp T.b_number_behind .nil pass0 (pa_cons (pv 2) (pa_cons (pv 3) (pa_cons (pv 7) pa_nil)))) ip_add)
              · exact pss_nil
          apply pss_one
          exact (ps_aug (i := 3) sc_order_rank.nd rfl (.inl rfl) (pe_ix (k_ix_tup (K := K) rfl) (pe_glob (v := V.ref T.a_BITS) (by rfl) T.c_BITS rfl) (pv 6) (fun _ _ => rfl)) ip_sub)
      apply pss_one
      exact (ps_ret (pv 4))
    obtain ⟨ne, hlt, nd, hlk⟩ := id tr
    walk_at "sx"
    have n2 := ok.n2
    have hl7 := nd_len nd hlt
    refine ⟨s, G, rfl, hS, ok, fun H1 e1 => ?_⟩
    walk_at "sx"
    refine ⟨s, a, G, L, rfl, hS.ex e1, ex_l e1 hA, tr, by omega, fun H2 e2 => ?_⟩
    have e12 := e1.trans e2
    walk_at "sx"
    refine ⟨s, a, G, L, rfl, hS.ex e12, ok, h7, ex_l e12 hA, nd, hlt, fun f H3 nf e3 hf => ?_⟩
    have e13 := e12.trans e3
    walk_at "sx"
    refine ⟨a, L, rfl, ex_l e13 hA, fun x hx => by have := hlt x hx; omega, fun H4 e4 => ?_⟩
    have e14 := e13.trans e4
    have hf4 := e4 _ _ hf
    walk_at "sx"
    refine ⟨_, _, ⟨rfl, rfl⟩, _, ex_l e14 hA, ?_⟩
    refine lg_enum (xs := (nz L).map V.int) (fun i σ' H' => ∃ (n i' : Nat) (l5 l6 l7 : Option V), σ' = [some (.ref s), some (.ref a), some (.ref f), some (.int (TF.bits (L.drop i) : Nat)), some (.int (n : Nat)), l5, l6, l7] ∧ Ex H4 H' ∧ (OR.ol G (L.drop i).length (cand G (L.take i)) (L.drop i))[i']? = some (L.drop i) ∧ i0 = n + i') ⟨0, i0, none, none, none, rfl, Ex.refl _, hL, by omega⟩ (fun i σ' H' _ hP => ?_) (fun i v σ' H' T' hv hP nT => ?_) (fun σ' H' hP => ?_)
    · obtain ⟨_, _, _, _, _, _, e, _⟩ := hP
      exact ex_l (e14.trans e) hA
    · obtain ⟨n, i', l5, l6, l7, rfl, e, hi', hni⟩ := hP
      obtain ⟨p, hpn, rfl⟩ := at_nz hv
      have hi := (List.getElem?_eq_some_iff.mp hpn).1
      have pG := hlt p (List.mem_of_getElem? hpn)
      have eT := Ex.new nT (o := .tup [V.int (i : Nat), V.int (p : Nat)])
      refine g_two upd_same ?_
      simp only [List.set_cons_zero, List.set_cons_succ]
      have e := e.trans eT
      generalize (upd H' T' (.tup [V.int (i : Nat), V.int (p : Nat)])) = HT at e ⊢
      have hdr : L.drop i = p :: L.drop (i + 1) := by
        rw [List.drop_eq_getElem_cons hi]
        congr 1
        rw [List.getElem?_eq_getElem hi] at hpn
        exact Option.some.inj hpn
      have htk : L.take (i + 1) = L.take i ++ [p] := by rw [List.take_add_one, hpn]; rfl
      have hbs : TF.bits (L.drop i) = 2 ^ p + TF.bits (L.drop (i + 1)) := by rw [hdr]; exact OR.bits_cons _ _
      have ndD : (L.drop i).Nodup := nd.sublist (List.drop_sublist i L)
      have step : ∃ i'', (OR.ol G (L.drop (i + 1)).length (cand G (L.take (i + 1))) (L.drop (i + 1)))[i'']? = some (L.drop (i + 1)) ∧ i' = (((able G (L.take i) (TF.bits (L.drop i))).filter fun x => decide (x < p)).map (Fon G (L.drop i))).sum + i'' := by
        rw [hdr] at hi' ndD ⊢
        rw [htk]
        exact rank_step ok ndD hi'
      obtain ⟨i'', hi'', hsum⟩ := step
      have hp4 := e _ _ hf4
      generalize hA2 : able G (L.take i) (TF.bits (L.drop i)) = A at hsum
      refine seq_cut (fun σ2 H2 => ∃ (l7 : Option V), σ2 = [some (.ref s), some (.ref a), some (.ref f), some (.int (TF.bits (L.drop i) : Nat)), some (.int ((n + ((A.filter fun x => decide (x < p)).map (Fon G (L.drop i))).sum : Nat) : Int)), some (.int (i : Nat)), some (.int (p : Nat)), l7] ∧ Ex H4 H2) (fun N hN => ?_) (fun σ2 H2 hC => ?_)
      · walk_at "sx"
        refine slL (ex_l (e14.trans e) hA) fun z nz1 => ?_
        have ez := Ex.new nz1 (o := .lst (cutV ((nz L).map V.int) none (some ((i : Nat) : Int))))
        have hz : (upd HT z (.lst (cutV ((nz L).map V.int) none (some ((i : Nat) : Int))))) z = some (.lst ((nz (L.take i)).map V.int)) := by
          rw [upd_same, cut_to _ (j := i) rfl (by rw [List.length_map, nz_len]; omega), ← List.map_take]
          unfold nz
          rw [← List.map_take]
        generalize (upd HT z (.lst (cutV ((nz L).map V.int) none (some ((i : Nat) : Int))))) = HZ at ez hz ⊢
        have e5 := e.trans ez
        refine ⟨s, z, G, L.take i, _, rfl, hS.ex (e14.trans e5), ok, .inl (.inl hz), by rw [List.length_take]; omega, fun x hx => hlt x (List.mem_of_mem_take hx), fun r H6 nr e6 hr => ?_⟩
        have e7 := e5.trans e6
        have hf6 := (ez.trans e6) _ _ hp4
        rw [hA2] at hr
        have inA : ∀ x ∈ A, x ∈ L.drop i := fun x hx => by
          rw [← hA2, able_in ndD] at hx
          exact of_decide_eq_true (List.mem_filter.mp hx).2
        refine ⟨r, rfl, ⟨_, .inl (.inl hr)⟩, ?_⟩
        refine lg_list (xs := (nz A).map V.int) (fun j σ2 H2 => ∃ (l7 : Option V), σ2 = [some (.ref s), some (.ref a), some (.ref f), some (.int (TF.bits (L.drop i) : Nat)), some (.int ((n + (((A.take j).filter fun x => decide (x < p)).map (Fon G (L.drop i))).sum : Nat) : Int)), some (.int (i : Nat)), some (.int (p : Nat)), l7] ∧ Ex H6 H2) ⟨l7, rfl, Ex.refl _⟩ (fun j σ2 H2 _ hP => by obtain ⟨_, _, e8⟩ := hP; exact .inl (.inl (e8 _ _ hr))) (fun j v σ2 H2 hv hP => ?_) (fun σ2 H2 hP => ?_)
        · obtain ⟨l7, rfl, e8⟩ := hP
          obtain ⟨x, hx, rfl⟩ := at_nz hv
          have xR := inA x (List.mem_of_getElem? hx)
          have x12 : x < 12 := by
            have := hlt x (List.mem_of_mem_drop xR)
            omega
          have hbx := OR.bits_erase xR
          have gx := fx_get ok nd ndD (fun y hy => List.mem_of_mem_drop hy) (by rw [List.length_drop]; omega) xR
          have tk : A.take (j + 1) = A.take j ++ [x] := by rw [List.take_add_one, hx]; rfl
          rw [tk, List.filter_append, List.map_append, List.sum_append]
          walk_at "sx"
          by_cases c : x < p
          · rw [if_pos (by omega)]
            refine ⟨f, _, _, x, rfl, e8 _ _ hf6, x12, by omega, fun H9 e9 => ?_⟩
            rw [gx]
            refine ⟨_, _, rfl, rfl, some (.int (x : Nat)), ⟨?_, rfl⟩, e8.trans e9⟩
            rw [List.filter_cons, if_pos (by simpa using c)]
            simp only [List.filter_nil, List.map_cons, List.map_nil, List.sum_cons, List.sum_nil, Nat.add_zero]
            rw [← Nat.add_assoc, ← Int.natCast_add]
          · rw [if_neg (by omega)]
            refine ⟨_, ⟨?_, rfl⟩, e8⟩
            rw [List.filter_cons, if_neg (by simpa using c)]
            rfl
        · obtain ⟨l7, rfl, e8⟩ := hP
          rw [List.length_map, nz_len, List.take_of_length_le (Nat.le_refl _)]
          exact hN _ _ ⟨l7, rfl, e7.trans e8⟩
      · obtain ⟨l7, rfl, e2⟩ := hC
        walk_at "sx"
        refine ixT (T.s_BITS.at H2) (atI_n (j := p) (by rfl) (bit_at (by omega))) ?_
        walk_at "sx"
        exact ⟨_, i'', _, _, _, ⟨by rw [hbs]; omega, rfl, rfl, rfl, rfl⟩, e2, hi'', by omega⟩
    · obtain ⟨n, i', l5, l6, l7, rfl, e, hi', hni⟩ := hP
      walk_at "sx"
      have hl : (L.drop (((nz L).map V.int).length)).length = 0 := by rw [List.length_map, nz_len, List.length_drop]; omega
      rw [hl] at hi'
      have h0 := (List.getElem?_eq_some_iff.mp hi').1
      have : i' < 1 := h0
      have ei : i0 = n := by omega
      rw [← ei]
      exact k _ (e14.trans e)
end
end LW

set_option Elab.async false
set_option linter.all false
set_option maxRecDepth 100000
set_option maxHeartbeats 4000000
/-! the orders of a set of pages, made page by page -/
namespace OR
open BC TF
def evN (G : Grid) (L r : List Nat) : List Nat := (row G (lst r)).filter fun u => decide (u ∈ L) && !decide (u ∈ r)
def evX (G : Grid) (L r : List Nat) : List (List Nat) := (evN G L r).map fun u => r ++ [u]
def ev0 (G : Grid) (L : List Nat) : List Nat := (List.range G.length).filter fun x => decide (x ∈ L)
def evs (G : Grid) (L : List Nat) : Nat → List (List Nat)
  | 0 => (ev0 G L).map fun x => [x]
  | k + 1 => ((evs G L k).map (evX G L)).flatten
theorem lt_app : ∀ {a b : List Int}, a < b → a.length = b.length → ∀ s t, a ++ s < b ++ t
  | _, _, .nil, h, _, _ => by simp at h
  | _, _, .rel h, _, _, _ => .rel h
  | _, _, .cons h, e, s, t => .cons (lt_app h (by simpa using e) s t)
theorem evs_len {G : Grid} {L : List Nat} : ∀ (k : Nat), ∀ r ∈ evs G L k, r.length = k + 1
  | 0, r, h => by obtain ⟨x, _, rfl⟩ := List.mem_map.mp h; rfl
  | k + 1, r, h => by
    obtain ⟨l, hl, hr⟩ := List.mem_flatten.mp h
    obtain ⟨q, hq, rfl⟩ := List.mem_map.mp hl
    obtain ⟨u, _, rfl⟩ := List.mem_map.mp hr
    rw [List.length_append, evs_len k q hq]
    rfl
theorem evs_asc {G : Grid} (asc : Asc G) (L : List Nat) : ∀ (k : Nat), (evs G L k).Pairwise (fun a b => nz a < nz b)
  | 0 => by
    show List.Pairwise _ (List.map _ _)
    rw [List.pairwise_map]
    have h : (ev0 G L).Pairwise (fun a b : Nat => a < b) := (List.pairwise_lt_range (n := G.length)).sublist List.filter_sublist
    exact List.Pairwise.imp (R := fun a b : Nat => a < b) (fun {a b} h => lt_at (show (a : Int) < (b : Int) by omega) [] [] []) h
  | k + 1 => by
    show List.Pairwise _ (List.flatten _)
    rw [List.pairwise_flatten]
    refine ⟨fun l hl => ?_, ?_⟩
    · obtain ⟨r, _, rfl⟩ := List.mem_map.mp hl
      show List.Pairwise _ (List.map _ _)
      rw [List.pairwise_map]
      refine ((asc _).filter _).imp fun {a b} h => ?_
      rw [nz_append, nz_append]
      exact lt_at (show (a : Int) < (b : Int) by omega) (nz r) [] []
    · rw [List.pairwise_map]
      have h1 := evs_asc asc L k
      have h2 := evs_len (G := G) (L := L) k
      refine (h1.imp_of_mem (S := fun a b => nz a < nz b ∧ a.length = b.length) fun {a b} ha hb h => ⟨h, by rw [h2 a ha, h2 b hb]⟩).imp fun {a b} h x hx y hy => ?_
      obtain ⟨u, _, rfl⟩ := List.mem_map.mp hx
      obtain ⟨v, _, rfl⟩ := List.mem_map.mp hy
      rw [nz_append, nz_append]
      exact lt_app h.1 (by unfold nz; rw [List.length_map, List.length_map]; exact h.2) _ _
theorem lk_snoc {G : Grid} : ∀ {r : List Nat} {u : Nat}, r ≠ [] → (Lnk G (r ++ [u]) ↔ Lnk G r ∧ u ∈ row G (lst r))
  | [], _, h => absurd rfl h
  | [x], u, _ => ⟨fun h => ⟨True.intro, h.1⟩, fun h => ⟨h.2, True.intro⟩⟩
  | x :: y :: l, u, _ => by
    have ih := lk_snoc (G := G) (r := y :: l) (u := u) (by simp)
    have e : lst (x :: y :: l) = lst (y :: l) := by unfold lst; rw [List.getLast?_cons_cons]
    rw [e]
    constructor
    · intro h
      have h1 : y ∈ row G x ∧ Lnk G ((y :: l) ++ [u]) := h
      have := ih.mp h1.2
      exact ⟨⟨h1.1, this.1⟩, this.2⟩
    · intro h
      have h1 : y ∈ row G x ∧ Lnk G (y :: l) := h.1
      exact ⟨h1.1, ih.mpr ⟨h1.2, h.2⟩⟩
theorem evs_mem {G : Grid} {L : List Nat} (hlt : ∀ x ∈ L, x < G.length) : ∀ (k : Nat) {r : List Nat}, r ∈ evs G L k ↔ r.length = k + 1 ∧ r.Nodup ∧ (∀ x ∈ r, x ∈ L) ∧ Lnk G r
  | 0, r => by
    constructor
    · intro h
      obtain ⟨x, hx, rfl⟩ := List.mem_map.mp h
      obtain ⟨_, hx⟩ := List.mem_filter.mp hx
      exact ⟨rfl, by simp, fun y hy => by rw [List.mem_singleton.mp hy]; exact of_decide_eq_true hx, True.intro⟩
    · rintro ⟨h1, _, h3, _⟩
      obtain ⟨x, rfl⟩ := List.length_eq_one_iff.mp h1
      have hx := h3 x List.mem_cons_self
      exact List.mem_map.mpr ⟨x, List.mem_filter.mpr ⟨List.mem_range.mpr (hlt x hx), decide_eq_true hx⟩, rfl⟩
  | k + 1, r => by
    show r ∈ List.flatten _ ↔ _
    rw [List.mem_flatten]
    constructor
    · rintro ⟨l, hl, hr⟩
      obtain ⟨q, hq, rfl⟩ := List.mem_map.mp hl
      obtain ⟨u, hu, rfl⟩ := List.mem_map.mp hr
      obtain ⟨h1, h2, h3, h4⟩ := (evs_mem hlt k).mp hq
      obtain ⟨hu, hf⟩ := List.mem_filter.mp hu
      rw [Bool.and_eq_true, decide_eq_true_eq, Bool.not_eq_true', decide_eq_false_iff_not] at hf
      refine ⟨by rw [List.length_append, h1]; rfl, ?_, fun x hx => ?_, (lk_snoc (fun e => by rw [e] at h1; simp at h1)).mpr ⟨h4, hu⟩⟩
      · rw [List.nodup_append]
        exact ⟨h2, by simp, fun a ha b hb e => hf.2 (by rw [List.mem_singleton.mp hb] at e; rw [← e]; exact ha)⟩
      · rcases List.mem_append.mp hx with hx | hx
        · exact h3 x hx
        · rw [List.mem_singleton.mp hx]; exact hf.1
    · rintro ⟨h1, h2, h3, h4⟩
      have ne : r ≠ [] := fun e => by rw [e] at h1; simp at h1
      obtain ⟨q, u, rfl⟩ : ∃ q u, r = q ++ [u] := ⟨_, _, (List.dropLast_concat_getLast ne).symm⟩
      rw [List.length_append, List.length_singleton] at h1
      have h1' : q.length = k + 1 := by omega
      have nq : q ≠ [] := fun e => by rw [e] at h1'; simp at h1'
      rw [List.nodup_append] at h2
      obtain ⟨h5, h6⟩ := (lk_snoc nq).mp h4
      refine ⟨_, List.mem_map.mpr ⟨q, (evs_mem hlt k).mpr ⟨h1', h2.1, fun x hx => h3 x (List.mem_append_left _ hx), h5⟩, rfl⟩, List.mem_map.mpr ⟨u, List.mem_filter.mpr ⟨h6, ?_⟩, rfl⟩⟩
      rw [Bool.and_eq_true, decide_eq_true_eq, Bool.not_eq_true', decide_eq_false_iff_not]
      exact ⟨h3 u (by simp), fun m => h2.2.2 u m u (by simp) rfl⟩
theorem perm_of_sub {A B : List Nat} (ha : A.Nodup) (h : ∀ x ∈ A, x ∈ B) (l : A.length = B.length) : A.Perm B := by
  induction A generalizing B with
  | nil => rw [List.length_nil] at l; rw [List.length_eq_zero_iff.mp l.symm]
  | cons a A ih =>
    have hB : a ∈ B := h a List.mem_cons_self
    have p := List.perm_cons_erase hB
    refine ((ih (List.nodup_cons.mp ha).2 (fun x hx => ?_) ?_).cons a).trans p.symm
    · have ne : x ≠ a := fun e => (List.nodup_cons.mp ha).1 (e ▸ hx)
      exact (List.mem_erase_of_ne ne).mpr (h x (List.mem_cons_of_mem _ hx))
    · rw [List.length_erase_of_mem hB, ← l]
      rfl
theorem sub_le2 {A B : List Nat} (ha : A.Nodup) (h : ∀ x ∈ A, x ∈ B) : A.length ≤ B.length := by
  induction A generalizing B with
  | nil => exact Nat.zero_le _
  | cons a A ih =>
    have hB : a ∈ B := h a List.mem_cons_self
    have := ih (B := B.erase a) (List.nodup_cons.mp ha).2 fun x hx => (List.mem_erase_of_ne fun e : x = a => (List.nodup_cons.mp ha).1 (by rw [← e]; exact hx)).mpr (h x (List.mem_cons_of_mem _ hx))
    rw [List.length_erase_of_mem hB] at this
    have := List.length_pos_of_mem hB
    rw [List.length_cons]
    omega
/-- all orders of a set, none for no pages -/
def ors (G : Grid) (L : List Nat) : List (List Nat) := if L = [] then [] else ol G L.length (List.range G.length) L
theorem evs_ors {G : Grid} (asc : Asc G) {L : List Nat} (nd : L.Nodup) (hlt : ∀ x ∈ L, x < G.length) : evs G L (L.length - 1) = ors G L := by
  unfold ors
  by_cases c : L = []
  · subst c
    rw [if_pos rfl]
    show List.map _ (ev0 G []) = _
    unfold ev0
    simp
  · rw [if_neg c]
    have lp := List.length_pos_iff.mpr c
    refine asc_eq (evs_asc asc L _) (ol_asc asc _ List.pairwise_lt_range) fun r => ?_
    rw [evs_mem hlt, ol_mem _ rfl]
    constructor
    · rintro ⟨h1, h2, h3, h4⟩
      refine ⟨perm_of_sub h2 h3 (by omega), ?_, h4⟩
      cases r with
      | nil => exact .inl rfl
      | cons x r => exact .inr (List.mem_range.mpr (hlt x (h3 x List.mem_cons_self)))
    · rintro ⟨h1, _, h4⟩
      exact ⟨by rw [h1.length_eq]; omega, h1.nodup_iff.mpr nd, fun x hx => h1.mem_iff.mp hx, h4⟩
theorem ors_len {G : Grid} {L : List Nat} (nd : L.Nodup) (h : ∀ x ∈ L, x < G.length) : (ors G L).length = cnt G L := by
  unfold ors
  by_cases c : L = []
  · subst c; rfl
  · rw [if_neg c]
    exact ol_cnt nd h c
theorem ors_asc {G : Grid} (asc : Asc G) (L : List Nat) : (ors G L).Pairwise (fun a b => nz a < nz b) := by
  unfold ors
  split
  · exact .nil
  · exact ol_asc asc _ List.pairwise_lt_range
theorem ors_mem {G : Grid} {L r : List Nat} (h : r ∈ ors G L) : L ≠ [] ∧ r.Perm L ∧ Lnk G r := by
  unfold ors at h
  by_cases c : L = []
  · rw [if_pos c] at h; cases h
  · rw [if_neg c] at h
    obtain ⟨h1, _, h3⟩ := (ol_mem _ rfl).mp h
    exact ⟨c, h1, h3⟩
theorem evx_le {G : Grid} {L r : List Nat} (nd : L.Nodup) (n : (row G (lst r)).Nodup) : (evX G L r).length ≤ L.length := by
  unfold evX evN
  rw [List.length_map]
  have : ((row G (lst r)).filter fun u => decide (u ∈ L) && !decide (u ∈ r)).length ≤ L.length := by
    refine sub_le2 (n.sublist List.filter_sublist) fun x hx => ?_
    have := (List.mem_filter.mp hx).2
    rw [Bool.and_eq_true, decide_eq_true_eq] at this
    exact this.1
  exact this
theorem evs_le {G : Grid} (asc : Asc G) {L : List Nat} (nd : L.Nodup) (h5 : L.length ≤ 5) : ∀ k, (evs G L k).length ≤ 5 ^ (k + 1)
  | 0 => by
    show (List.map _ _).length ≤ 5
    rw [List.length_map]
    have : (ev0 G L).length ≤ L.length := sub_le2 (List.nodup_range.sublist List.filter_sublist) fun x hx => of_decide_eq_true (List.mem_filter.mp hx).2
    omega
  | k + 1 => by
    have ih := evs_le asc nd h5 k
    show (List.flatten _).length ≤ _
    have fl : ∀ F : List (List Nat), (F.map (evX G L)).flatten.length ≤ F.length * 5 := fun F => by
      induction F with
      | nil => simp
      | cons a F ih =>
        have := evx_le (G := G) (r := a) nd ((asc (lst a)).imp fun h => Nat.ne_of_lt h)
        rw [List.map_cons, List.flatten_cons, List.length_append, List.length_cons]
        omega
    have := fl (evs G L k)
    rw [Nat.pow_succ]
    omega
end OR

set_option Elab.async false
set_option linter.all false
set_option maxRecDepth 100000
set_option maxHeartbeats 4000000
/-! sorted of a list of lists of numbers, in any order; list.count of data -/
namespace BC
open PySem PySem.Spec PyProof.Rows L2 Evl
/-- a list of lists whose parts are new -/
def GridF (H H' : Hp) (s : Addr) (G : Grid) : Prop := H s = none ∧ ∃ ps : List Addr, H' s = some (.lst (ps.map V.ref)) ∧ ps.length = G.length ∧ ∀ i p, ps[i]? = some p → H p = none ∧ H' p = some (.lst ((nz (row G i)).map V.int))
theorem GridF.at {H H' : Hp} {s : Addr} {G : Grid} (h : GridF H H' s G) : GridAt H' s G := let ⟨_, ps, a, b, c⟩ := h; ⟨ps, a, b, fun i p e => (c i p e).2⟩
theorem GridF.ex {H H' H2 : Hp} {s : Addr} {G : Grid} (h : GridF H H' s G) (e : Ex H' H2) : GridF H H2 s G := let ⟨z, ps, a, b, c⟩ := h; ⟨z, ps, e _ _ a, b, fun i p q => ⟨(c i p q).1, e _ _ (c i p q).2⟩⟩
theorem GridF.nw {H H' H2 : Hp} {s : Addr} {G : Grid} (h : GridF H H' s G) (n : Nw H H' H2) : GridF H H2 s G := let ⟨z, ps, a, b, c⟩ := h; ⟨z, ps, n _ _ z a, b, fun i p q => ⟨(c i p q).1, n _ _ (c i p q).1 (c i p q).2⟩⟩
theorem GridF.back {H0 H H' : Hp} {s : Addr} {G : Grid} (h : GridF H H' s G) (e : Ex H0 H) : GridF H0 H' s G := let ⟨z, ps, a, b, c⟩ := h; ⟨fresh_back e z, ps, a, b, fun i p q => ⟨fresh_back e (c i p q).1, (c i p q).2⟩⟩
def rSortG : List V → Hp → VK → Prop := fun xs H Q => ∃ (a : Addr) (F : Grid) (rs : List Addr), xs = [.ref a] ∧ H a = some (.lst (rs.map V.ref)) ∧ rs.length = F.length ∧ (∀ i p, rs[i]? = some p → H p = some (.lst ((nz (row F i)).map V.int))) ∧
  ∀ p (F' : Grid) (rs' : List Addr) H', H p = none → Ex H H' → H' p = some (.lst (rs'.map V.ref)) → rs'.length = F'.length → (∀ i q, rs'[i]? = some q → q ∈ rs ∧ H' q = some (.lst ((nz (row F' i)).map V.int))) → F'.Perm F → F'.Pairwise (fun x y => nz x ≤ nz y) → Q (.ref p) H'
theorem cr_sortG {X : Cx} (hc : X.calm = true) (hu : X.A.units + 64 < cLine) : CallR X (.builtin "sorted") rSortG := by
  intro pins s σ H xs us Q I r h
  obtain ⟨a, F, rs, rfl, ha, hl, hr, q⟩ := h
  obtain rfl := Vals.ref1 r
  obtain ⟨hz, vs, c, rv, ho⟩ := (show ObjOk X.prog X.w H s.heap a (.lst (rs.map V.ref)) from I.hok a _ ha)
  obtain rfl := vals_refs' rv
  rw [List.length_map] at hz
  have lz : (rs.zip F).length = rs.length := by rw [List.length_zip, hl, Nat.min_self]
  have m2 : (rs.zip F).map (·.2) = F := List.map_snd_zip (by omega)
  have rd : ∀ (i : Nat) (r : Addr) (l : List Nat), rs[i]? = some r → F[i]? = some l → ∃ as, Reads s.heap (.ref r) (.list ((nz l).map .int)) as := fun i r l e1 e2 => by
    have hH := hr i r e1
    rw [row_at e2] at hH
    exact Dp.reads I _ (.ref r) (.ref r) (.lst (.inl (.inl hH)) (dp_ints _)) rfl
  have e0 := each_zip (P := fun r l => ∃ as, Reads s.heap (.ref r) (.list ((nz l).map .int)) as) rs F hl rd
  have e1 : PySem.W.EachIs (fun (v : Value) (b : Addr × List Nat) => v = .ref b.1) (rs.map Value.ref) (rs.zip F) := e0.mono fun _ _ h => h.1
  have e2 : PySem.W.EachIs (fun (v : Value) (b : Addr × List Nat) => ∃ as, Reads s.heap v (.list ((nz b.2).map .int)) as) (rs.map Value.ref) (rs.zip F) := e0.mono fun v b h => by rw [h.1]; exact h.2
  refine PySem.W.sorted_data (enc := fun b : Addr × List Nat => .list ((nz b.2).map .int)) ⟨_, ho, rfl, _, rfl⟩ e1 e2 (PySem.W.AllAlike.of fun b b' => by simp only [PySem.W.alike]; exact PySem.W.alike_ints _ _) (PySem.W.Sortable.others fun b => ⟨(by intro z; cases z), (by intro xs z; cases z)⟩) (by rw [lz]; exact hz)
    (fun b _ => by simp only [PyData.depth]; rw [PySem.W.depth_ints]; omega) fun out ho2 e3 => ?_
  rw [PySem.W.dataLe_rows (fun b : Addr × List Nat => nz b.2)] at e3
  have pm := List.mergeSort_perm (rs.zip F) (fun a b : Addr × List Nat => decide (nz a.2 ≤ nz b.2))
  have pw : ((rs.zip F).mergeSort (fun a b : Addr × List Nat => decide (nz a.2 ≤ nz b.2))).Pairwise (fun a b => decide (nz a.2 ≤ nz b.2) = true) := List.pairwise_mergeSort (fun a b c h1 h2 => by
    rw [decide_eq_true_eq] at h1 h2 ⊢
    exact List.le_trans h1 h2) (fun a b => by
    rw [Bool.or_eq_true, decide_eq_true_eq, decide_eq_true_eq]
    exact List.le_total _ _) _
  generalize (rs.zip F).mergeSort (fun a b : Addr × List Nat => decide (nz a.2 ≤ nz b.2)) = bs at e3 pm pw
  have eo := each_refs e3
  subst eo
  have lb : bs.length = rs.length := by rw [pm.length_eq, lz]
  obtain ⟨ep, he'⟩ := PyProof.Rows.sortedAll_at s.heap (rs.map Value.ref) ((bs.map (·.1)).map Value.ref).toArray
  have hn : H (s.heap.objs.size + 1) = none := I.hok.fresh (Nat.le_succ _)
  have ex := Ex.new hn (o := .lst ((bs.map (·.1)).map V.ref))
  have vr : ∀ l : List Addr, Vals (l.map V.ref) (l.map Value.ref) := fun l => by
    induction l with
    | nil => exact .nil
    | cons x l ih => exact .cons rfl ih
  refine ⟨.ref _, upd H (s.heap.objs.size + 1) (.lst ((bs.map (·.1)).map V.ref)), I.laid (t' := s.toks) (fun _ _ => PyProof.Rows.sortedAll_old) (Nat.le_succ _) ⟨by rw [List.length_map, List.length_map, lb]; exact hz, (bs.map (·.1)).map Value.ref, ep, vr _, he'⟩, rfl,
    q _ (bs.map (·.2)) (bs.map (·.1)) _ hn ex upd_same (by rw [List.length_map, List.length_map]) (fun i p e => ?_) ?_ ?_⟩
  · rw [List.getElem?_map] at e
    obtain ⟨⟨r, l⟩, hb, rfl⟩ := Option.map_eq_some_iff.mp e
    have hm : (r, l) ∈ rs.zip F := pm.mem_iff.mp (List.mem_of_getElem? hb)
    obtain ⟨j, hj⟩ := List.getElem?_of_mem hm
    rw [List.getElem?_zip_eq_some] at hj
    rw [row_at (show (bs.map (·.2))[i]? = some l by rw [List.getElem?_map, hb]; rfl)]
    have h2 := hr j r hj.1
    rw [row_at hj.2] at h2
    exact ⟨List.mem_of_getElem? hj.1, ex _ _ h2⟩
  · have := pm.map (·.2)
    rw [m2] at this
    exact this
  · rw [List.pairwise_map]
    exact pw.imp fun h => of_decide_eq_true h
theorem k_sortG {X : Cx} (hc : X.calm = true) (hu : X.A.units + 64 < cLine) : CallR X (.builtin "sorted") rSortG := cr_sortG hc hu
def rCntD (K : PySem.W.Frag) : V → List V → Hp → VK → Prop := fun x xs H Q => ∃ (a : Addr) (y : V) (d : PyData) (ds : List PyData), x = V.ref a ∧ xs = [y] ∧ Dp K H (V.ref a) (.list ds) ∧ Dp K H y d ∧
  SeqAt.shaped (.list ds) = true ∧ SeqAt.shaped d = true ∧ Q (.int ((ds.countP fun z => PyData.eqv z d : Nat) : Int)) H
theorem mt_countD {X : Cx} (hu : X.A.units + 65 < cLine) : MtR X "list.count" (rCntD X.K) := by
  intro pins s σ H x xs v us Q I rx rxs h
  obtain ⟨a, y, d, ds, rfl, rfl, hl, hy, sl, sd, q⟩ := h
  cases rx
  cases rxs with
  | cons ry rt =>
    rename_i uy ut
    cases rt
    obtain ⟨bs, r1⟩ := Dp.reads I d y uy hy ry
    have hxs : PyData.canLayAll0 ds = true := SeqAt.canLay_of_shaped sl
    have hroom : X.A.units + 1 + min (PyData.depthAll ds) d.depth < cLine := room_in_shaped sd hu
    cases hl with
    | lst hs ha =>
      obtain ⟨its, rv, ⟨⟨cls, dd, data, sls⟩, n, ho, hc, hdn, hdt⟩, hlen⟩ := I.list hs
      simp only at hc hdt
      subst hc hdt
      obtain ⟨as, h4⟩ := Dp.readsAll I ds _ its ha rv
      have hmap : its.map (SeqAt.readOf s.heap) = ds := SeqAt.readsAll_map ds its as hxs h4
      refine call_meets PySem.F.slot_list_count ⟨_, ho, rfl⟩ PySem.F.entry_list_count (PySem.F.args_list_count_2 _ _)
        (SeqAt.list_countAt a its.toArray n dd sls uy (fun u => PyData.eqv (SeqAt.readOf s.heap u) d)) ⟨ho, SeqAt.items_eqAt (vs := its.toArray) (show ReadsAll s.heap its.toArray.toList ds as from h4) r1 hxs (SeqAt.canLay_of_shaped sd) hroom, ?_⟩
      have ec : its.toArray.toList.countP (fun u => PyData.eqv (SeqAt.readOf s.heap u) d) = ds.countP fun z => PyData.eqv z d := by
        conv => rhs; rw [← hmap]
        rw [List.countP_map]
        rfl
      refine ⟨.int (ds.countP fun z => PyData.eqv z d : Nat), H, I.tok _, ⟨s.toks, ?_⟩, q⟩
      rw [← ec]
theorem k_countD {X : Cx} {K : PySem.W.Frag} (hK : X.K = K) (hu : X.A.units + 65 < cLine) : MtR X "list.count" (rCntD K) := by subst hK; exact mt_countD hu
end BC

set_option Elab.async false
set_option linter.all false
set_option maxRecDepth 100000
set_option maxHeartbeats 4000000
namespace LW
open PySem PySem.Spec PyProof.Rows L2 BC Evl TR
local macro_rules | `(tactic| walk_at "sx") => `(tactic| try simp only [x_dcT, x_dc, x_updT, x_iitemsT, x_dispT1, x_valsT, x_lockT, SL.x_yfor, SL.x_yplain, SL.x_ythen, SL.x_y0, SL.x_yyield, SL.x_ywhile, SL.x_callY, SL.x_callYK, x_gwhile, x_callG, x_g0, x_gfor, x_gplain, x_gthen, x_gyield, x_listG, x_dnewT, x_dget, x_dget2, x_dput, x_seq, x_next, x_brk, x_cnt, x_nev, x_ret, x_retN, x_drop, x_ifS, x_asg, x_gn, x_gsub, x_par, x_par3, x_aug, x_for, x_lc, x_rng1, x_rng2, x_rng3, x_ilist, x_itup, x_ienum, x_izip, x_izipA, x_istr, x_var, x_c, x_op, x_un, x_test, x_b, x_chain, x_and, x_or, x_not, x_andV, x_orV, x_notV, x_ife, x_nil, x_cons, x_lst, x_tup, x_cb, x_call, x_callK, x_bm, x_bm0, x_tru, x_sl, x_nopart, x_part, x_revL, x_I0, x_I, x_U, x_ip, x_ipC, x_eqI, x_neI, x_eqB, x_neB, x_eqS, x_neS, x_isB, x_isNB, x_lrg, x_gall, x_lenSet, x_augS, x_sortSet, x_rg1, x_rg2,
  L2.start, List.map_cons, List.map_nil, List.length_cons, List.length_nil, Nat.reduceAdd, Nat.reduceSub, Nat.sub_self, Nat.zero_add, List.replicate, List.replicate_succ, List.replicate_zero, List.append_nil, List.cons_append, List.nil_append, List.set_cons_zero, List.set_cons_succ, List.getElem?_cons_zero, List.getElem?_cons_succ, Option.some.injEq, V.int.injEq, V.bl.injEq, V.ref.injEq, V.str.injEq, List.cons.injEq, and_true, true_and, exists_eq_left', exists_eq_left, exists_and_left, exists_eq, if_true, if_false, ite_true, ite_false, Bool.true_eq_false, Bool.false_eq_true, reduceIte, reduceCtorEq, Bool.not_true, Bool.not_false, decide_true, decide_false, decide_eq_true_eq, Bool.and_true, Bool.true_and, Bool.and_self, Bool.and_false, Bool.false_and, Bool.or_self, Bool.or_false, Bool.false_or, Bool.or_true, Bool.true_or, eq_self])
section
variable {P : Program} {w : World} {K : PySem.W.Frag} {mg : Str → Option Value} {base : Heap}
theorem last_lst {L : List Nat} (h : L ≠ []) : ((nz L).map V.int)[((nz L).map V.int).length - 1]? = some (.int ((lst L : Nat) : Int)) := by
  rw [List.length_map, nz_len]
  refine nz_at ?_
  unfold lst
  rw [List.getLast?_eq_getElem?]
  have : L.length - 1 < L.length := by have := List.length_pos_iff.mpr h; omega
  rw [List.getElem?_eq_getElem this]
  rfl
theorem lst_in {L : List Nat} (h : L ≠ []) : lst L ∈ L := by
  unfold lst
  rw [List.getLast?_eq_some_getLast h]
  exact List.getLast_mem h
theorem filt_step {l : List Nat} {P : Nat → Bool} {j x : Nat} (hx : l[j]? = some x) : (l.take (j + 1)).filter P = (l.take j).filter P ++ if P x = true then [x] else [] := by
  rw [List.take_add_one, hx, List.filter_append]
  congr 1
  show List.filter P [x] = _
  by_cases c : P x = true
  · rw [if_pos c, List.filter_cons_of_pos c]; rfl
  · rw [if_neg c, List.filter_cons_of_neg c]; rfl
/-- all orders of some pages -/
def spEvery (K : PySem.W.Frag) : Sp := fun vs H Q _ => ∃ (s a : Addr) (G : Grid) (L : List Nat), vs = [.ref s, .ref a] ∧ GridAt H s G ∧ SiteOk G ∧ H a = some (.lst ((nz L).map V.int)) ∧ L.Nodup ∧ (∀ x ∈ L, x < G.length) ∧ L.length ≤ 5 ∧ ∀ f H', GridN H H' f (OR.ors G L) → Ex H H' → Q (.ref f) H'
def JEv (H : Hp) (s a : Addr) (G : Grid) (L : List Nat) (i : Nat) (σ' : L2.St) (H' : Hp) : Prop := ∃ f l3 l4 l5 l6, σ' = [some (.ref s), some (.ref a), some (.ref f), l3, l4, l5, l6] ∧ Ex H H' ∧ GridN H H' f (OR.evs G L i)
def JEw (H1 : Hp) (s a f g : Addr) (l3 : Option V) (G : Grid) (L : List Nat) (F : Grid) (i : Nat) (σ' : L2.St) (H' : Hp) : Prop := ∃ l5 l6, σ' = [some (.ref s), some (.ref a), some (.ref f), l3, some (.ref g), l5, l6] ∧ Ex H1 H' ∧ GridN H1 H' g ((F.take i).map (OR.evX G L)).flatten
def PvV (H0 : Hp) (D : Addr) (G : Grid) (L R : List Nat) (i : Nat) (H' : Hp) : Prop := Ex H0 H' ∧ GridN H0 H' D ((((row G (lst R)).take i).filter fun u => decide (u ∈ L) && !decide (u ∈ R)).map fun u => R ++ [u])
def PvS (H0 : Hp) (D : Addr) (N : List Nat) (i : Nat) (H' : Hp) : Prop := Ex H0 H' ∧ GridN H0 H' D ((N.take i).map fun u => [u])
theorem ok_law_every (T : Txt K mg) : FnOk P w K mg base CX0 1 T.f_law_every T.fd_law_every ["_law_net_here", "_law_some"] (spEvery K) := by
  refine T.F_law_every.ok sc_law_every (fun vs H Q E h => ?_) (fun cdv A outer s H vs Q E hr h => ?_)
  · obtain ⟨s, a, G, L, rfl, _⟩ := h
    rfl
  · obtain ⟨s, a, G, L, rfl, hS, ok, hA, nd, hlt, h5, k⟩ := h
    apply Exists.intro
    apply And.intro
    · apply pss_cons
      · exact (ps_setLc (i := 2) (own := [("_law_far", 6)]) rfl sc_law_every.nd rfl rfl (sw_true rfl rfl rfl (by decide +kernel)) (k_pi_list (K := K) rfl (pe_callB (k_sorted (K := K) rfl) (by rfl) T.n_sorted (by decide +kernel) (pa_cons (pv 1) pa_nil))) (blkOk_by (own := [("_law_far", 6)]) (N := ["_law_net_here", "_law_some", "_law_rows", "_law_turn", "_law_longer", "_law_row", "_law_far"]) (sc := defScope s_law_every) (by decide +kernel)) (fun _ _ _ _ _ => by exact (pg_name (i := 6) sc_law_every.nd rfl (.inl rfl))) (fun _ _ _ _ _ => by exact pts_nil) (fun _ _ _ _ _ => by exact (pe_lst (pa_cons (pv 6) pa_nil))))
      apply pss_cons
      · apply ps_for PassesOwn.never rfl
        · exact (pi_range1 (by rfl) T.n_range (pa_cons (pe_op op_sub (pe_callB (k_len (K := K) rfl) (by rfl) T.n_len PySem.boot_len (pa_cons (pv 1) pa_nil)) pe_int) pa_nil))
        · exact (pg_name (i := 3) sc_law_every.nd rfl (.inl rfl))
        · apply pss_cons
          · exact (ps_set (i := 4) sc_law_every.nd rfl (.inl rfl) (pe_lst pa_nil))
          apply pss_cons
          · apply ps_for PassesOwn.never rfl
            · exact (k_pi_list (K := K) rfl (pv 2))
            · exact (pg_name (i := 5) sc_law_every.nd rfl (.inr rfl))
            · apply pss_one
              exact (ps_expr (k_bm (K := K) rfl (pe_bm PySem.F.plainAttrs_list PySem.F.slot_list_extend PySem.F.type_list_extend mt_extend (pv 4) (pa_cons (pe_lc (own := [("_law_far", 6)]) rfl sc_law_every.nd (k_pi_list (K := K) rfl (pe_ix (k_ix_list (K := K) rfl) (pv 0) (pe_ix (k_ix_list (K := K) rfl) (pv 5) (pe_un un_neg pe_int) (fun _ _ => rfl)) (fun _ _ => rfl))) (blkOk_by (own := [("_law_far", 6)]) (N := ["_law_net_here", "_law_some", "_law_rows", "_law_turn", "_law_longer", "_law_row", "_law_far"]) (sc := defScope s_law_every) (by decide +kernel)) (fun _ _ _ _ _ => by exact (pg_name (i := 6) sc_law_every.nd rfl (.inl rfl))) (fun _ _ _ _ _ => by exact (pts_one (PW.pt (pw_and (pt_cmpR (k_in (K := K) rfl) (pv 6) (pv 1) (by rfl)) (pw_and1 (pt_cmpR (k_notIn (K := K) rfl) (pv 6) (pv 5) (by rfl))))))) (fun _ _ _ _ _ => by exact (pe_op op_cat (pv 5) (pe_lst (pa_cons (pv 6) pa_nil))))) pa_nil))))
          apply pss_one
          exact (ps_set (i := 2) sc_law_every.nd rfl (.inl rfl) (pv 4))
      apply pss_one
      exact (ps_ret (pv 2))
    have n2 := ok.n2
    refine seq_cut (fun σ' H' => ∃ f l6, σ' = [some (.ref s), some (.ref a), some (.ref f), none, none, none, l6] ∧ Ex H H' ∧ GridN H H' f (OR.evs G L 0)) (fun N hN => ?_) (fun σ' H1 hC => ?_)
    · walk_at "sx"
      refine ⟨a, nz L, rfl, .inl (.inl hA), by rw [nz_len]; omega, fun ys q pm srt nq => ?_⟩
      have eq1 := Ex.new nq (o := .lst (ys.map V.int))
      have eys : ys = nz (OR.ev0 G L) := by
        have ndz : (nz L).Nodup := by unfold nz; exact List.Pairwise.map _ (fun a b h => by omega) nd
        refine EF.ints_uniq ((srt.and (pm.nodup_iff.mpr ndz)).imp fun {a b} h => by have := h.1; have := h.2; omega) ?_ fun z => ?_
        · unfold nz
          rw [List.pairwise_map]
          exact List.Pairwise.imp (R := fun a b : Nat => a < b) (fun {a b} h => by omega) ((List.pairwise_lt_range (n := G.length)).sublist List.filter_sublist)
        · rw [pm.mem_iff]
          constructor
          · intro h
            obtain ⟨x, hx, rfl⟩ := List.mem_map.mp h
            exact nz_mem.mpr (List.mem_filter.mpr ⟨List.mem_range.mpr (hlt x hx), decide_eq_true hx⟩)
          · intro h
            obtain ⟨x, hx, rfl⟩ := List.mem_map.mp h
            exact nz_mem.mpr (of_decide_eq_true (List.mem_filter.mp hx).2)
      subst eys
      have hq := upd_same (H := H) (a := q) (o := .lst ((nz (OR.ev0 G L)).map V.int))
      generalize (upd H q (.lst ((nz (OR.ev0 G L)).map V.int))) = H1 at eq1 hq ⊢
      refine ⟨q, rfl, ⟨_, .inl (.inl hq)⟩, fun D nD => ?_⟩
      refine lc_listE (xs := (nz (OR.ev0 G L)).map V.int) (PvS H1 D (OR.ev0 G L)) ⟨Ex.new nD, GridN.nil nD⟩ (fun u H4 _ hP => .inl (.inl (hP.1 _ _ hq))) (fun u x H4 hx hP => ?_) (fun H4 hP => ?_)
      · obtain ⟨e4, g4⟩ := hP
        obtain ⟨x, hx', rfl⟩ := at_nz hx
        have hu := (List.getElem?_eq_some_iff.mp hx').1
        have le : (OR.ev0 G L).length ≤ 12 := by
          unfold OR.ev0
          have := List.length_filter_le (fun x => decide (x ∈ L)) (List.range G.length)
          rw [List.length_range] at this
          omega
        refine ⟨rfl, ?_⟩
        simp only [wipe, List.set_cons_zero, List.set_cons_succ]
        walk_at "sx"
        refine ⟨sz_ok (by omega), fun d nd4 => ?_⟩
        have ed := Ex.new nd4 (o := .lst [V.int x])
        obtain ⟨zs, h1, h2, g5⟩ := g4.push (r := [x]) (fresh_back e4 nd4) nd4 (Nw.of ed) (by rw [upd_same]; rfl)
        refine ⟨zs, h1, BC.sz_lt (by rw [h2, List.length_map, List.length_take]; omega), (e4.trans ed).mut nD, ?_⟩
        rw [List.take_add_one, hx', List.map_append]
        exact g5
      · obtain ⟨e4, g4⟩ := hP
        rw [List.length_map, nz_len, List.take_of_length_le (Nat.le_refl _)] at g4
        exact hN _ _ ⟨D, _, rfl, eq1.trans e4, g4.back eq1⟩
    obtain ⟨f, l6, rfl, e1, g1⟩ := hC
    walk_at "sx"
    refine lenL (.inl (.inl (e1 _ _ hA))) ?_
    rw [List.length_map, nz_len]
    walk_at "sx"
    refine ⟨by omega, by omega, ?_⟩
    rw [show (((L.length : Nat) : Int) - 1).toNat = L.length - 1 by omega]
    refine lg_rng (JEv H s a G L) ⟨f, none, none, none, l6, rfl, e1, g1⟩ (fun i σ' H' hi hP => ?_) (fun σ' H' hP => ?_)
    · obtain ⟨r, l3, l4, l5, l6, rfl, e, gr⟩ := hP
      have asc := asc_of ok
      have w5 : 5 ^ (i + 1) ≤ 3125 := Nat.le_trans (Nat.pow_le_pow_right (n := 5) (by decide) (show i + 1 ≤ 5 by omega)) (by decide)
      have wn : (OR.evs G L i).length ≤ 3125 := Nat.le_trans (OR.evs_le asc nd h5 i) w5
      have wl := OR.evs_len (G := G) (L := L) i
      have wm : ∀ r ∈ OR.evs G L i, ∀ x ∈ r, x ∈ L := fun r h => ((OR.evs_mem hlt i).mp h).2.2.1
      simp only [x_gn, List.set_cons_zero, List.set_cons_succ]
      refine seq_asg (fun v H1 => ∃ g, v = .ref g ∧ Ex H' H1 ∧ GridN H' H1 g []) (fun R hR => ?_) (fun v H1 hC => ?_)
      · walk_at "sx"
        exact ⟨sz_ok (by omega), fun g ng => hR _ _ ⟨g, rfl, Ex.new ng, GridN.nil ng⟩⟩
      obtain ⟨g, rfl, e1, gg⟩ := hC
      simp only [List.set_cons_zero, List.set_cons_succ]
      obtain ⟨ps, hr, pl, hrow⟩ := gr.at
      refine seq_cut (fun σ' H2 => ∃ l5 l6, σ' = [some (.ref s), some (.ref a), some (.ref r), some (.int (0 + (i : Int))), some (.ref g), l5, l6] ∧ Ex H' H2 ∧ GridN H' H2 g (OR.evs G L (i + 1))) (fun N hN => ?_) (fun σ2 H2 hC => ?_)
      · walk_at "sx"
        refine ⟨⟨_, .inl (.inl (e1 _ _ hr))⟩, ?_⟩
        refine lg_list (xs := ps.map V.ref) (JEw H' s a r g (some (.int (0 + (i : Int)))) G L (OR.evs G L i)) ⟨l5, l6, rfl, e1, gg⟩ (fun j σ' H3 _ hP => by obtain ⟨_, _, _, e, _⟩ := hP; exact .inl (.inl (e _ _ hr))) (fun j x σ' H3 hx hP => ?_) (fun σ' H3 hP => ?_)
        · obtain ⟨l5, l6, rfl, e3, g3⟩ := hP
          rw [List.getElem?_map] at hx
          obtain ⟨q, hq, rfl⟩ : ∃ q, ps[j]? = some q ∧ x = .ref q := by
            cases y : ps[j]? with
            | none => rw [y] at hx; cases hx
            | some q => rw [y] at hx; cases hx; exact ⟨q, rfl, rfl⟩
          have hj := (List.getElem?_eq_some_iff.mp hq).1
          have hat : (OR.evs G L i)[j]? = some (row (OR.evs G L i) j) := at_row (by omega)
          have hm := List.mem_of_getElem? hat
          have hqq := e3 _ _ (hrow j q hq)
          have rl := wl _ hm
          have ml := wm _ hm
          have htk : (OR.evs G L i).take (j + 1) = (OR.evs G L i).take j ++ [row (OR.evs G L i) j] := by rw [List.take_add_one, hat]; rfl
          generalize row (OR.evs G L i) j = R at hat hm hqq rl ml htk
          have ne : R ≠ [] := fun z => by rw [z] at rl; simp at rl
          have ll := hlt _ (ml _ (lst_in ne))
          obtain ⟨y, ys, y1, y2, y3, y4⟩ := (hS.ex (e.trans e3)).get ll
          obtain ⟨gs, hgs⟩ : ∃ xs, H3 g = some (.lst xs) := by obtain ⟨_, qs, h1, _⟩ := g3; exact ⟨_, h1⟩
          have rl12 := ok.rlen (lst R)
          have hA3 := (e.trans e3) _ _ hA
          walk_at "sx"
          refine ⟨tyL hgs, ?_⟩
          refine ixL (.inl (.inl hqq)) (atI_last (last_lst ne)) ?_
          refine ixL (.inl (.inl y1)) (atI_n rfl y3) ⟨y, rfl, ⟨_, .inl (.inl y4)⟩, fun D nD => ?_⟩
          refine lc_listT (xs := (nz (row G (lst R))).map V.int) (PvV H3 D G L R) ⟨Ex.new nD, GridN.nil nD⟩ (fun u H4 _ hP => .inl (.inl (hP.1 _ _ y4))) (fun u x H4 hx hP => ?_) (fun H4 hP => ?_)
          · obtain ⟨e4, g4⟩ := hP
            obtain ⟨x, hx', rfl⟩ := at_nz hx
            refine ⟨by rfl, ?_⟩
            simp only [wipe, List.set_cons_zero, List.set_cons_succ]
            walk_at "sx"
            have fl2 := List.length_filter_le (fun u => decide (u ∈ L) && !decide (u ∈ R)) ((row G (lst R)).take u)
            rw [List.length_take] at fl2
            refine inL (.inl (.inl (e4 _ _ hA3))) ?_
            refine ⟨_, rfl, ?_⟩
            by_cases cx : x ∈ L
            · rw [decide_eq_true (nz_mem.mpr cx)]
              walk_at "sx"
              refine ninL (.inl (.inl (e4 _ _ hqq))) ?_
              refine ⟨_, rfl, ?_⟩
              by_cases cy : x ∈ R
              · rw [decide_eq_true (nz_mem.mpr cy), if_neg (by decide)]
                refine ⟨e4, ?_⟩
                rw [filt_step hx', if_neg (by simp [cy]), List.append_nil]
                exact g4
              · rw [decide_eq_false fun m => cy (nz_mem.mp m), if_pos (by decide)]
                walk_at "sx"
                refine ⟨sz_ok (by omega), fun c nc => ?_⟩
                have ec := Ex.new nc (o := .lst [V.int x])
                refine catL (ec _ _ (e4 _ _ hqq)) upd_same (sz_ok (by rw [List.length_map, nz_len, List.length_singleton]; omega)) fun d nd => ?_
                have ed := Ex.new nd (o := .lst ((nz R).map V.int ++ [V.int x]))
                have e44 := ec.trans ed
                have nd4 : H4 d = none := fresh_back ec nd
                obtain ⟨zs, h1, h2, g5⟩ := g4.push (r := R ++ [x]) (fresh_back e4 nd4) nd4 (Nw.of e44) (by rw [upd_same, nz_v])
                refine ⟨zs, h1, BC.sz_lt (by rw [h2, List.length_map]; omega), (e4.trans e44).mut nD, ?_⟩
                rw [filt_step hx', if_pos (by simp [cx, cy]), List.map_append]
                exact g5
            · rw [decide_eq_false fun m => cx (nz_mem.mp m)]
              walk_at "sx"
              refine ⟨e4, ?_⟩
              rw [filt_step hx', if_neg (by simp [cx]), List.append_nil]
              exact g4
          · obtain ⟨e4, g4⟩ := hP
            rw [List.length_map, nz_len, List.take_of_length_le (Nat.le_refl _)] at g4
            have g4 : GridN H3 H4 D (OR.evX G L R) := g4
            obtain ⟨xs, zs, h1, h2, h3, h4, g5⟩ := g3.ext g4 e4 (fun x n => fresh_back e3 n)
            have fl : (((OR.evs G L i).take j).map (OR.evX G L)).flatten.length ≤ ((OR.evs G L i).take j).length * 12 := flat_le fun x _ => by
              have := OR.evx_le (G := G) (r := x) nd ((asc (lst x)).imp fun h => Nat.ne_of_lt h)
              omega
            have f2 := OR.evx_le (G := G) (r := R) nd ((asc (lst R)).imp fun h => Nat.ne_of_lt h)
            rw [List.length_take] at fl
            refine ⟨g, D, xs, zs, rfl, rfl, h1, h2, sz_ok (by rw [h3, h4]; omega), ?_⟩
            refine ⟨_, _, rfl, (e3.trans e4).mut gg.1, ?_⟩
            rw [htk, List.map_append, List.flatten_append]
            show GridN H' _ g (_ ++ (OR.evX G L R ++ []))
            rw [List.append_nil]
            exact g5
        · obtain ⟨l5, l6, rfl, e3, g3⟩ := hP
          rw [List.length_map, pl, List.take_of_length_le (Nat.le_refl _)] at g3
          exact hN _ _ ⟨_, _, rfl, e3, g3⟩
      obtain ⟨l5', l6', rfl, e2, g2⟩ := hC
      walk_at "sx"
      exact ⟨g, _, _, _, _, rfl, e.trans e2, g2.back e⟩
    · obtain ⟨r, l3, l4, l5, l6, rfl, e, gr⟩ := hP
      walk_at "sx"
      rw [OR.evs_ors (asc_of ok) nd hlt] at gr
      exact k r _ gr e
end
end LW

set_option Elab.async false
set_option linter.all false
set_option maxRecDepth 100000
set_option maxHeartbeats 4000000
namespace LW
open PySem PySem.Spec PyProof.Rows L2 BC Evl TR
local macro_rules | `(tactic| walk_at "sx") => `(tactic| try simp only [x_dcT, x_dc, x_updT, x_iitemsT, x_dispT1, x_valsT, x_lockT, SL.x_yfor, SL.x_yplain, SL.x_ythen, SL.x_y0, SL.x_yyield, SL.x_ywhile, SL.x_callY, SL.x_callYK, x_gwhile, x_callG, x_g0, x_gfor, x_gplain, x_gthen, x_gyield, x_listG, x_dnewT, x_dget, x_dget2, x_dput, x_seq, x_next, x_brk, x_cnt, x_nev, x_ret, x_retN, x_drop, x_ifS, x_asg, x_gn, x_gsub, x_par, x_par3, x_aug, x_for, x_lc, x_rng1, x_rng2, x_rng3, x_ilist, x_itup, x_ienum, x_izip, x_izipA, x_istr, x_var, x_c, x_op, x_un, x_test, x_b, x_chain, x_and, x_or, x_not, x_andV, x_orV, x_notV, x_ife, x_nil, x_cons, x_lst, x_tup, x_cb, x_call, x_callK, x_bm, x_bm0, x_tru, x_sl, x_nopart, x_part, x_revL, x_I0, x_I, x_U, x_ip, x_ipC, x_eqI, x_neI, x_eqB, x_neB, x_eqS, x_neS, x_isB, x_isNB, x_lrg, x_gall, x_lenSet, x_augS, x_sortSet, x_rg1, x_rg2,
  L2.start, List.map_cons, List.map_nil, List.length_cons, List.length_nil, Nat.reduceAdd, Nat.reduceSub, Nat.sub_self, Nat.zero_add, List.replicate, List.replicate_succ, List.replicate_zero, List.append_nil, List.cons_append, List.nil_append, List.set_cons_zero, List.set_cons_succ, List.getElem?_cons_zero, List.getElem?_cons_succ, Option.some.injEq, V.int.injEq, V.bl.injEq, V.ref.injEq, V.str.injEq, List.cons.injEq, and_true, true_and, exists_eq_left', exists_eq_left, exists_and_left, exists_eq, if_true, if_false, ite_true, ite_false, Bool.true_eq_false, Bool.false_eq_true, reduceIte, reduceCtorEq, Bool.not_true, Bool.not_false, decide_true, decide_false, decide_eq_true_eq, Bool.and_true, Bool.true_and, Bool.and_self, Bool.and_false, Bool.false_and, Bool.or_self, Bool.or_false, Bool.false_or, Bool.or_true, Bool.true_or, eq_self])
section
variable {P : Program} {w : World} {K : PySem.W.Frag} {mg : Str → Option Value} {base : Heap}
def dGL (G : Grid) (L : List Nat) : PyData := .list [dG G, .list ((nz L).map PyData.int)]
theorem reprGL {H : Hp} {Q : VK} {p s g : Addr} {G : Grid} {L : List Nat} (hp : H p = some (.lst [.ref s, .ref g])) (hs : GridAt H s G) (hg : SqL K H g ((nz L).map V.int)) (g1 : G.length ≤ 12) (g2 : ∀ r ∈ G, r.length ≤ 12 ∧ ∀ x ∈ r, x < 12) (l1 : L.length ≤ 12) (l2 : ∀ x ∈ L, x < 12) (q : Q (.str (dGL G L).shown) H) : rRepr K [.ref p] H Q := by
  have sm : ∀ l : List Nat, (∀ x ∈ l, x < 12) → ∀ x ∈ nz l, x.natAbs < 10 ^ 12 := fun l h x hx => by
    obtain ⟨y, hy, rfl⟩ := List.mem_map.mp hx
    have := h y hy
    omega
  have wl : ∀ l : List Nat, (∀ x ∈ l, x < 12) → l.length ≤ 12 → (PyData.list ((nz l).map PyData.int)).weight ≤ 500 := fun l h h2 => by
    have := wt_ints (sm l h)
    rw [nz_len] at this
    omega
  have dl : ∀ l : List Nat, (PyData.list ((nz l).map PyData.int)).depth ≤ 1 := fun l => by
    simp only [PyData.depth]
    have := dep_all (ds := (nz l).map PyData.int) (n := 0) fun d m => by
      obtain ⟨x, hx, rfl⟩ := List.mem_map.mp m
      simp [PyData.depth]
    omega
  have mG : ∀ d ∈ G.map (fun r => PyData.list ((nz r).map PyData.int)), Tm d ∧ d.depth ≤ 1 ∧ d.weight ≤ 500 := fun d m => by
    obtain ⟨r, hr, rfl⟩ := List.mem_map.mp m
    exact ⟨tm_ints (sm r (g2 r hr).2), dl r, wl r (g2 r hr).2 (g2 r hr).1⟩
  have tG : Tm (dG G) := .list fun d m => (mG d m).1
  have dpG : (dG G).depth ≤ 2 := by
    unfold dG
    simp only [PyData.depth]
    have := dep_all fun d m => (mG d m).2.1
    omega
  have wG : (dG G).weight ≤ 7000 := by
    unfold dG
    simp only [PyData.weight]
    have := wt_all fun d m => (mG d m).2.2
    rw [List.length_map] at this
    omega
  refine reprX (.lst (.inl (.inl hp)) (.cons hs.dp (.cons (.lst hg (dp_ints _)) .nil))) (.list fun d m => ?_) ?_ ?_ q
  · simp only [List.mem_cons, List.mem_nil_iff, or_false] at m
    rcases m with rfl | rfl
    · exact tG
    · exact tm_ints (sm L l2)
  · simp only [PyData.depth]
    have := dep_all (ds := [dG G, .list ((nz L).map PyData.int)]) (n := 2) fun d m => by
      simp only [List.mem_cons, List.mem_nil_iff, or_false] at m
      rcases m with rfl | rfl
      · exact dpG
      · have := dl L; omega
    omega
  · simp only [PyData.weight]
    have := wt_all (ds := [dG G, .list ((nz L).map PyData.int)]) (n := 7000) fun d m => by
      simp only [List.mem_cons, List.mem_nil_iff, or_false] at m
      rcases m with rfl | rfl
      · exact wG
      · have := wl L l2 l1; omega
    simp only [List.length_cons, List.length_nil] at this
    omega
theorem site_small {G : Grid} (h : SiteOk G) : ∀ r ∈ G, r.length ≤ 12 ∧ ∀ x ∈ r, x < 12 := fun r m => by
  obtain ⟨i, hi, e⟩ := List.getElem_of_mem m
  have e' := List.getElem?_eq_some_iff.mpr ⟨hi, e⟩
  have n2 := h.n2
  exact ⟨h.len e', fun x hx => by have := h.lt i r e' x hx; omega⟩
end
section
variable {P : Program} {w : World} {K : PySem.W.Frag} {mg : Str → Option Value} {base : Heap}
def spRight (K : PySem.W.Frag) : Sp := fun vs H Q _ => ∃ (s a : Addr) (G : Grid) (L : List Nat), vs = [.ref s, .ref a] ∧ GridAt H s G ∧ SiteOk G ∧ G.length ≤ 6 ∧ H a = some (.lst ((nz L).map V.int)) ∧ L.Nodup ∧ (∀ x ∈ L, x < G.length) ∧ L.length ≤ 5 ∧ ∀ H', Ex H H' → Q (.bl true) H'
theorem ints_dep (ns : List Int) : (PyData.list (ns.map PyData.int)).depth ≤ 1 := by
  simp only [PyData.depth]
  have := dep_all (ds := ns.map PyData.int) (n := 0) fun d m => by
    obtain ⟨x, hx, rfl⟩ := List.mem_map.mp m
    simp [PyData.depth]
  omega
theorem reprI {H : Hp} {Q : VK} {p : Addr} {ns : List Int} (hp : H p = some (.lst (ns.map V.int))) (hl : ns.length ≤ 12) (sm : ∀ x ∈ ns, x.natAbs < 10 ^ 12) (q : Q (.str (PyData.list (ns.map PyData.int)).shown) H) : rRepr K [.ref p] H Q := by
  refine reprX (.lst (.inl (.inl hp)) (dp_ints _)) (tm_ints sm) (by have := ints_dep ns; omega) ?_ q
  have := wt_ints sm
  omega
theorem lnk_linked {G : Grid} : ∀ {M : List Nat}, Lnk G M → linked G M = true
  | [], _ => rfl
  | [_], _ => rfl
  | p :: q :: l, h => by
    have h1 : q ∈ row G p ∧ Lnk G (q :: l) := h
    show (decide (q ∈ row G p) && linked G (q :: l)) = true
    rw [decide_eq_true h1.1, lnk_linked h1.2]
    rfl
/-- a list of two lists -/
theorem repr2 {H : Hp} {Q : VK} {p q r : Addr} {M : List Nat} (hp : H p = some (.lst [.ref q, .ref r])) (hq : H q = some (.lst ((nz M).map V.int))) (hr : H r = some (.lst ((nz M).map V.int))) (hl : M.length ≤ 12) (sm : ∀ x ∈ M, x < 12) (k : Q (.str (dLL [nz M, nz M]).shown) H) : rRepr K [.ref p] H Q :=
  reprLL (n := 12) (ls := [nz M, nz M]) (.lst (.inl (.inl hp)) (.cons (.lst (.inl (.inl hq)) (dp_ints _)) (.cons (.lst (.inl (.inl hr)) (dp_ints _)) .nil)))
    (fun l hl x hx => by
      have : l = nz M := by simpa using hl
      subst this
      obtain ⟨y, hy, rfl⟩ := List.mem_map.mp hx
      have := sm y hy
      omega)
    (fun l h => by
      have : l = nz M := by simpa using h
      subst this
      rw [nz_len]; exact hl) (by simp) k
theorem ors_le {G : Grid} (asc : TF.Asc G) {L : List Nat} (nd : L.Nodup) (hlt : ∀ x ∈ L, x < G.length) (h5 : L.length ≤ 5) : (OR.ors G L).length ≤ 3125 := by
  rw [← OR.evs_ors asc nd hlt]
  exact Nat.le_trans (OR.evs_le asc nd h5 _) (Nat.le_trans (Nat.pow_le_pow_right (n := 5) (by decide) (show L.length - 1 + 1 ≤ 5 by omega)) (by decide))
theorem ok_law_right (T : Txt K mg) : FnG P w K mg base CX0 6 T.f_law_right T.fd_law_right ["_law_net_here", "_law_some"] (spRight K) := by
  refine fun_okN T.F_law_right sc_law_right (fun vs H Q E h => ?_) (fun cdv A outer s H vs Q E hG hr h => ?_)
  · obtain ⟨s, a, G, L, rfl, _⟩ := h
    rfl
  · obtain ⟨s, a, G, L, rfl, hS, ok, h6, hA, nd, hlt, h5, k⟩ := h
    apply Exists.intro
    apply And.intro
    · apply pss_cons
      · exact (ps_par (i := 3) (j := 4) (by rfl) sc_law_right.nd rfl rfl (by decide) rfl rfl (pa_cons (pe_callB (k_repr (K := K) rfl hG hr.units) (by rfl) T.n_repr (by decide +kernel) (pa_cons (pe_lst (pa_cons (pv 0) (pa_cons (pv 1) pa_nil))) pa_nil)) (pa_cons (pe_call (ok_law_every T) (hr.mono (by decide)) (by rfl) T.m_law_every T.F_law_every.kp T.b_law_every .nil pass0 (pa_cons (pv 0) (pa_cons (pv 1) pa_nil))) pa_nil)) (by rfl))
      apply pss_cons
      · exact (ps_set (i := 2) sc_law_right.nd rfl (.inl rfl) (pe_lst (pa_cons (pe_call (ok_count_orders T) (hr.mono (by decide)) (by rfl) T.m_count_orders T.F_count_orders.kp T.b_count_orders .nil pass0 (pa_cons (pv 0) (pa_cons (pv 1) pa_nil))) (pa_cons (pe_callK0 (ok_count_orders T) (hr.mono (by decide)) (by rfl) T.m_count_orders T.F_count_orders.kp T.k_count_orders_0_1_0 pass0 (pk_cons (pv 1) (pk_cons (pv 0) pk_nil))) pa_nil))))
      apply pss_cons
      · apply ps_if
        · exact (PW.pt (pw_or (pt_cmpR op_ne (pe_callB (k_repr (K := K) rfl hG hr.units) (by rfl) T.n_repr (by decide +kernel) (pa_cons (pv 2) pa_nil)) (pe_callB (k_repr (K := K) rfl hG hr.units) (by rfl) T.n_repr (by decide +kernel) (pa_cons (pe_op op_rep (pe_lst (pa_cons (pe_callB (k_len (K := K) rfl) (by rfl) T.n_len PySem.boot_len (pa_cons (pv 4) pa_nil)) pa_nil)) pe_int) pa_nil)) (by rfl)) (pw_or1 (pt_cmpR (k_neD (K := K) rfl hr.units) (pv 4) (pe_callB (k_sortLL rfl hr.units) (by rfl) T.n_sorted (by decide +kernel) (pa_cons (pv 4) pa_nil)) (by rfl)))))
        · apply pss_one
          exact (ps_ret pe_bl)
        · exact pss_nil
      apply pss_cons
      · apply ps_for PassesOwn.never rfl
        · exact (k_pi_enum (K := K) rfl (by rfl) T.n_enumerate (pa_cons (pv 4) pa_nil))
        · exact (k_tup (K := K) (n := 2) rfl rfl (pgs_cons (pg_name (i := 5) sc_law_right.nd rfl (.inl rfl)) (pgs_cons (pg_name (i := 6) sc_law_right.nd rfl (.inl rfl)) pgs_nil)))
        · apply pss_cons
          · exact (ps_set (i := 7) sc_law_right.nd rfl (.inl rfl) (pe_lst (pa_cons (pe_call (ok_nth_order T) (hr.mono (by decide)) (by rfl) T.m_nth_order T.F_nth_order.kp T.b_nth_order .nil pass0 (pa_cons (pv 0) (pa_cons (pv 1) (pa_cons (pv 5) pa_nil)))) (pa_cons (pe_callK0 (ok_nth_order T) (hr.mono (by decide)) (by rfl) T.m_nth_order T.F_nth_order.kp T.k_nth_order_0_2_1_0 pass0 (pk_cons (pv 5) (pk_cons (pv 1) (pk_cons (pv 0) pk_nil)))) pa_nil))))
          apply pss_cons
          · apply ps_if
            · exact (pt_cmpR op_ne (pe_callB (k_repr (K := K) rfl hG hr.units) (by rfl) T.n_repr (by decide +kernel) (pa_cons (pv 7) pa_nil)) (pe_callB (k_repr (K := K) rfl hG hr.units) (by rfl) T.n_repr (by decide +kernel) (pa_cons (pe_lst (pa_cons (pv 6) (pa_cons (pv 6) pa_nil))) pa_nil)) (by rfl))
            · apply pss_one
              exact (ps_ret pe_bl)
            · exact pss_nil
          apply pss_cons
          · apply ps_if
            · exact (pt_cmpR (k_neD (K := K) rfl hr.units) (pe_lst (pa_cons (pe_call (ok_order_rank T) (hr.mono (by decide)) (by rfl) T.m_order_rank T.F_order_rank.kp T.b_order_rank .nil pass0 (pa_cons (pv 0) (pa_cons (pv 6) pa_nil))) (pa_cons (pe_callK0 (ok_order_rank T) (hr.mono (by decide)) (by rfl) T.m_order_rank T.F_order_rank.kp T.k_order_rank_0_1_0 pass0 (pk_cons (pv 6) (pk_cons (pv 0) pk_nil))) pa_nil))) (pe_lst (pa_cons (pv 5) (pa_cons (pv 5) pa_nil))) (by rfl))
            · apply pss_one
              exact (ps_ret pe_bl)
            · exact pss_nil
          apply pss_cons
          · exact (ps_expr (k_bm (K := K) rfl (pe_bm PySem.F.plainAttrs_list PySem.F.slot_list_append PySem.F.type_list_append mt_append (pe_ix (k_ix_list (K := K) rfl) (pv 7) pe_int (fun _ _ => rfl)) (pa_cons pe_non pa_nil))))
          apply pss_one
          apply ps_if
          · exact (pt_cmpR op_ne (pe_callB (k_repr (K := K) rfl hG hr.units) (by rfl) T.n_repr (by decide +kernel) (pa_cons (pe_call (ok_nth_order T) (hr.mono (by decide)) (by rfl) T.m_nth_order T.F_nth_order.kp T.b_nth_order .nil pass0 (pa_cons (pv 0) (pa_cons (pv 1) (pa_cons (pv 5) pa_nil)))) pa_nil)) (pe_callB (k_repr (K := K) rfl hG hr.units) (by rfl) T.n_repr (by decide +kernel) (pa_cons (pv 6) pa_nil)) (by rfl))
          · apply pss_one
            exact (ps_ret pe_bl)
          · exact pss_nil
      apply pss_one
      exact (ps_ret (pe_cmpR op_eq (pe_callB (k_repr (K := K) rfl hG hr.units) (by rfl) T.n_repr (by decide +kernel) (pa_cons (pe_lst (pa_cons (pv 0) (pa_cons (pv 1) pa_nil))) pa_nil)) (pv 3) (by rfl)))
    have n2 := ok.n2
    refine seq_cut (fun σ' H' => ∃ f l5 l6 l7, σ' = [some (.ref s), some (.ref a), none, some (.str (dGL G L).shown), some (.ref f), l5, l6, l7] ∧ Ex H H' ∧ GridN H H' f (OR.ors G L)) (fun N hN => ?_) (fun σ' H1 hC => ?_)
    · walk_at "sx"
      refine ⟨by decide, fun p np => ?_⟩
      have ep := Ex.new np (o := .lst [V.ref s, V.ref a])
      refine reprGL upd_same (hS.ex ep) (.inl (.inl (ep _ _ hA))) (by omega) (site_small ok) (by omega) (fun x hx => by have := hlt x hx; omega) ?_
      refine ⟨s, a, G, L, rfl, hS.ex ep, ok, ep _ _ hA, nd, hlt, h5, fun f H2 gf e2 => ?_⟩
      exact ⟨_, _, ⟨rfl, rfl⟩, hN _ _ ⟨f, _, _, _, rfl, ep.trans e2, gf.back ep⟩⟩
    obtain ⟨f, l5, l6, l7, rfl, e1, g1⟩ := hC
    refine seq_cut (fun σ' H' => ∃ p l5 l6 l7, σ' = [some (.ref s), some (.ref a), some (.ref p), some (.str (dGL G L).shown), some (.ref f), l5, l6, l7] ∧ Ex H1 H' ∧ H' p = some (.lst [.int (OR.cnt G L : Nat), .int (OR.cnt G L : Nat)])) (fun N hN => ?_) (fun σ' H2 hC => ?_)
    · walk_at "sx"
      refine ⟨s, a, G, L, rfl, hS.ex e1, ok, by omega, .inl (.inl (e1 _ _ hA)), nd, hlt, fun H2 e2 => ?_⟩
      have e12 := e1.trans e2
      refine ⟨s, a, G, L, rfl, hS.ex e12, ok, by omega, .inl (.inl (e12 _ _ hA)), nd, hlt, fun H3 e3 => ?_⟩
      refine ⟨by decide, fun p np => ?_⟩
      exact hN _ _ ⟨p, _, _, _, rfl, (e2.trans e3).trans (Ex.new np), upd_same⟩
    obtain ⟨p, l5, l6, l7, rfl, e2, hp⟩ := hC
    walk_at "sx"
    have oL := OR.ors_len nd hlt (G := G)
    have o3 := ors_le (asc_of ok) nd hlt h5
    refine reprI (ns := [(OR.cnt G L : Nat), (OR.cnt G L : Nat)]) hp (by simp) (fun x hx => by
      have : x = ((OR.cnt G L : Nat) : Int) := by simpa using hx
      omega) ?_
    obtain ⟨ps, hf, pl, hrow⟩ := (g1.at.ex e2)
    refine lenL (.inl (.inl hf)) ?_
    rw [List.length_map, pl, oL]
    refine ⟨by decide, fun q nq => ?_⟩
    have eq1 := Ex.new nq (o := .lst [V.int (OR.cnt G L : Nat)])
    refine repL upd_same (by decide) (by decide) (sz_ok (by simp)) fun r nr => ?_
    have er := eq1.trans (Ex.new nr (o := .lst (List.replicate (Int.toNat 2) [V.int (OR.cnt G L : Nat)]).flatten))
    refine reprI (ns := [(OR.cnt G L : Nat), (OR.cnt G L : Nat)]) upd_same (by simp) (fun x hx => by
      have : x = ((OR.cnt G L : Nat) : Int) := by simpa using hx
      omega) ?_
    generalize upd (upd H2 q (.lst [V.int (OR.cnt G L : Nat)])) r (.lst (List.replicate (Int.toNat 2) [V.int (OR.cnt G L : Nat)]).flatten) = H3 at er ⊢
    have neS : ∀ {x : Str} {H : Hp} {R : VK}, R (.bl false) H → rNe (.str x) (.str x) H R := fun {x H R} q => ⟨rfl, by rw [decide_eq_true rfl]; exact q⟩
    refine neS ⟨_, rfl, ?_⟩
    rw [if_neg (by decide)]
    have E3 := e2.trans er
    have g3 := g1.ex E3
    refine ⟨f, _, rfl, g3.at, OR.ors_asc (asc_of ok) L, fun v H4 nv e4 gv => ?_⟩
    refine neGrid (g3.at.ex e4) gv ?_
    rw [decide_eq_true rfl]
    refine ⟨_, rfl, ?_⟩
    rw [if_neg (by decide)]
    have E4 := E3.trans e4
    have EH := e1.trans E4
    obtain ⟨ps, hf, pl, hrow⟩ := (g1.at.ex E4)
    refine ⟨_, .inl (.inl hf), ?_⟩
    refine lg_enum (xs := ps.map V.ref) (fun i σ' H' => ∃ l5 l6 l7, σ' = [some (.ref s), some (.ref a), some (.ref p), some (.str (dGL G L).shown), some (.ref f), l5, l6, l7] ∧ Ex H4 H') ⟨l5, l6, l7, rfl, Ex.refl _⟩ (fun i σ' H' _ hP => ?_) (fun i v σ' H' T' hv hP nT => ?_) (fun σ' H' hP => ?_)
    · obtain ⟨_, _, _, _, e⟩ := hP
      exact .inl (.inl (e _ _ hf))
    · obtain ⟨l5, l6, l7, rfl, e⟩ := hP
      rw [List.getElem?_map] at hv
      obtain ⟨w, hw, rfl⟩ : ∃ q, ps[i]? = some q ∧ v = .ref q := by
        cases y : ps[i]? with
        | none => rw [y] at hv; cases hv
        | some q => rw [y] at hv; cases hv; exact ⟨q, rfl, rfl⟩
      have hi := (List.getElem?_eq_some_iff.mp hw).1
      have hat : (OR.ors G L)[i]? = some (row (OR.ors G L) i) := at_row (by omega)
      have hm := List.mem_of_getElem? hat
      have hww := e _ _ (hrow i w hw)
      generalize row (OR.ors G L) i = M at hat hm hww
      obtain ⟨neL, pmM, lkM⟩ := OR.ors_mem hm
      have hatL : (OR.ol G L.length (List.range G.length) L)[i]? = some M := by
        unfold OR.ors at hat
        rw [if_neg neL] at hat
        exact hat
      have lM : M.length = L.length := pmM.length_eq
      have mM : ∀ x ∈ M, x < G.length := fun x hx => hlt x (pmM.mem_iff.mp hx)
      have m12 : ∀ x ∈ M, x < 12 := fun x hx => by have := mM x hx; omega
      have neM : M ≠ [] := fun z => by rw [z] at lM; exact neL (List.length_eq_zero_iff.mp lM.symm)
      have trM : TrOn G M := ⟨neM, mM, pmM.nodup_iff.mpr nd, lnk_linked lkM⟩
      have hatM : (OR.ol G M.length (List.range G.length) M)[i]? = some M := by
        rw [lM, OR.ol_perm _ _ pmM]
        exact hatL
      have eT := Ex.new nT (o := .tup [V.int (i : Nat), V.ref w])
      refine g_two upd_same ?_
      simp only [List.set_cons_zero, List.set_cons_succ]
      have e := e.trans eT
      have hw5 := eT _ _ hww
      generalize (upd H' T' (.tup [V.int (i : Nat), V.ref w])) = HT at e hw5 ⊢
      have EE := EH.trans e
      have hST := hS.ex EE
      have hAT := EE _ _ hA
      refine seq_asg (fun v H6 => ∃ t u1 u2, v = .ref t ∧ Ex HT H6 ∧ HT u1 = none ∧ H6 t = some (.lst [.ref u1, .ref u2]) ∧ H6 u1 = some (.lst ((nz M).map V.int)) ∧ H6 u2 = some (.lst ((nz M).map V.int))) (fun R hR => ?_) (fun v H6 hC => ?_)
      · walk_at "sx"
        refine ⟨s, a, G, L, M, i, rfl, hST, ok, by omega, .inl (.inl hAT), neL, nd, hlt, hatL, fun u1 H6 n1 e6 h1 => ?_⟩
        refine ⟨s, a, G, L, M, i, rfl, hST.ex e6, ok, by omega, .inl (.inl (e6 _ _ hAT)), neL, nd, hlt, hatL, fun u2 H7 n2 e7 h2 => ?_⟩
        refine ⟨by decide, fun t nt => ?_⟩
        have et := Ex.new nt (o := .lst [V.ref u1, V.ref u2])
        exact hR _ _ ⟨t, u1, u2, rfl, (e6.trans e7).trans et, n1, upd_same, et _ _ (e7 _ _ h1), et _ _ h2⟩
      obtain ⟨t, u1, u2, rfl, e6, n1, ht, h1, h2⟩ := hC
      simp only [List.set_cons_zero, List.set_cons_succ]
      have hw6 := e6 _ _ hw5
      walk_at "sx"
      refine repr2 ht h1 h2 (by omega) m12 ?_
      refine ⟨by decide, fun y ny => ?_⟩
      have ey := Ex.new ny (o := .lst [V.ref w, V.ref w])
      refine repr2 upd_same (ey _ _ hw6) (ey _ _ hw6) (by omega) m12 (neS ⟨_, rfl, ?_⟩)
      rw [if_neg (by decide)]
      have e7 := e6.trans ey
      have ht7 := ey _ _ ht
      have h17 := ey _ _ h1
      generalize (upd H6 y (.lst [V.ref w, V.ref w])) = H7 at e7 ht7 h17 ⊢
      have hw7 := e7 _ _ hw5
      refine ⟨s, w, G, M, i, rfl, hST.ex e7, ok, by omega, .inl (.inl hw7), trM, hatM, fun H8 e8 => ?_⟩
      refine ⟨s, w, G, M, i, rfl, hST.ex (e7.trans e8), ok, by omega, .inl (.inl (e8 _ _ hw7)), trM, hatM, fun H9 e9 => ?_⟩
      refine ⟨by decide, fun c1 nc1 => ⟨by decide, fun c2 nc2 => ?_⟩⟩
      have ec1 := Ex.new nc1 (o := .lst [V.int (i : Nat), V.int (i : Nat)])
      have ec2 := Ex.new nc2 (o := .lst [V.int (i : Nat), V.int (i : Nat)])
      refine neInts (ns := [(i : Int), (i : Int)]) (ms := [(i : Int), (i : Int)]) (.inl (.inl (ec2 _ _ upd_same))) (.inl (.inl upd_same)) ⟨_, rfl, ?_⟩
      rw [decide_eq_true rfl, if_neg (by decide)]
      have e10 := e8.trans (e9.trans (ec1.trans ec2))
      have ht10 := e10 _ _ ht7
      have h110 := e10 _ _ h17
      have e0 := e7.trans e10
      generalize (upd (upd H9 c1 (.lst [V.int (i : Nat), V.int (i : Nat)])) c2 (.lst [V.int (i : Nat), V.int (i : Nat)])) = H10 at ht10 h110 e0 ⊢
      refine ixL (.inl (.inl ht10)) (atI_n (j := 0) rfl rfl) ?_
      refine ⟨tyL h110, ?_⟩
      refine appL h110 (BC.sz_lt (by rw [List.length_map, nz_len]; omega)) ?_
      have e11 : Ex HT (upd H10 u1 (.lst ((nz M).map V.int ++ [V.non]))) := e0.mut n1
      generalize (upd H10 u1 (.lst ((nz M).map V.int ++ [V.non]))) = H11 at e11 ⊢
      refine ⟨s, a, G, L, M, i, rfl, hST.ex e11, ok, by omega, .inl (.inl (e11 _ _ hAT)), neL, nd, hlt, hatL, fun u3 H12 n3 e12 h3 => ?_⟩
      have smM : ∀ x ∈ nz M, x.natAbs < 10 ^ 12 := fun x hx => by
        obtain ⟨y, hy, rfl⟩ := List.mem_map.mp hx
        have := m12 y hy
        omega
      refine reprI h3 (by rw [nz_len]; omega) smM ?_
      refine reprI (e12 _ _ (e11 _ _ hw5)) (by rw [nz_len]; omega) smM (neS ⟨_, rfl, ?_⟩)
      rw [if_neg (by decide)]
      exact ⟨_, _, _, ⟨rfl, rfl, rfl⟩, e.trans (e11.trans e12)⟩
    · obtain ⟨l5, l6, l7, rfl, e⟩ := hP
      walk_at "sx"
      have EE := EH.trans e
      refine ⟨by decide, fun y ny => ?_⟩
      have ey := Ex.new ny (o := .lst [V.ref s, V.ref a])
      refine reprGL upd_same (hS.ex (EE.trans ey)) (.inl (.inl ((EE.trans ey) _ _ hA))) (by omega) (site_small ok) (by omega) (fun x hx => by have := hlt x hx; omega) ?_
      refine ⟨rfl, ?_⟩
      rw [decide_eq_true rfl]
      exact k _ (EE.trans ey)
end
end LW

set_option Elab.async false
set_option linter.all false
set_option maxRecDepth 100000
set_option maxHeartbeats 4000000
namespace LW
open PySem PySem.Spec PyProof.Rows L2 BC Evl TR
local macro_rules | `(tactic| walk_at "sx") => `(tactic| try simp only [x_dcT, x_dc, x_updT, x_iitemsT, x_dispT1, x_valsT, x_lockT, SL.x_yfor, SL.x_yplain, SL.x_ythen, SL.x_y0, SL.x_yyield, SL.x_ywhile, SL.x_callY, SL.x_callYK, x_gwhile, x_callG, x_g0, x_gfor, x_gplain, x_gthen, x_gyield, x_listG, x_dnewT, x_dget, x_dget2, x_dput, x_seq, x_next, x_brk, x_cnt, x_nev, x_ret, x_retN, x_drop, x_ifS, x_asg, x_gn, x_gsub, x_par, x_par3, x_aug, x_for, x_lc, x_rng1, x_rng2, x_rng3, x_ilist, x_itup, x_ienum, x_izip, x_izipA, x_istr, x_var, x_c, x_op, x_un, x_test, x_b, x_chain, x_and, x_or, x_not, x_andV, x_orV, x_notV, x_ife, x_nil, x_cons, x_lst, x_tup, x_cb, x_call, x_callK, x_bm, x_bm0, x_tru, x_sl, x_nopart, x_part, x_revL, x_I0, x_I, x_U, x_ip, x_ipC, x_eqI, x_neI, x_eqB, x_neB, x_eqS, x_neS, x_isB, x_isNB, x_lrg, x_gall, x_lenSet, x_augS, x_sortSet, x_rg1, x_rg2,
  L2.start, List.map_cons, List.map_nil, List.length_cons, List.length_nil, Nat.reduceAdd, Nat.reduceSub, Nat.sub_self, Nat.zero_add, List.replicate, List.replicate_succ, List.replicate_zero, List.append_nil, List.cons_append, List.nil_append, List.set_cons_zero, List.set_cons_succ, List.getElem?_cons_zero, List.getElem?_cons_succ, Option.some.injEq, V.int.injEq, V.bl.injEq, V.ref.injEq, V.str.injEq, List.cons.injEq, and_true, true_and, exists_eq_left', exists_eq_left, exists_and_left, exists_eq, if_true, if_false, ite_true, ite_false, Bool.true_eq_false, Bool.false_eq_true, reduceIte, reduceCtorEq, Bool.not_true, Bool.not_false, decide_true, decide_false, decide_eq_true_eq, Bool.and_true, Bool.true_and, Bool.and_self, Bool.and_false, Bool.false_and, Bool.or_self, Bool.or_false, Bool.false_or, Bool.or_true, Bool.true_or, eq_self])
section
variable {P : Program} {w : World} {K : PySem.W.Frag} {mg : Str → Option Value} {base : Heap}
theorem site_set {G : Grid} (ok : SiteOk G) {j : Nat} {R : List Nat} (hj : j < G.length) (pw : R.Pairwise (· < ·)) (lt : ∀ x ∈ R, x < G.length) (no : j ∉ R) : SiteOk (G.set j R) := by
  have key : ∀ (i : Nat) (r : List Nat), (G.set j R)[i]? = some r → (i = j ∧ r = R) ∨ G[i]? = some r := fun i r e => by
    by_cases c : i = j
    · subst c
      rw [List.getElem?_set, if_pos rfl, if_pos hj] at e
      exact .inl ⟨rfl, (Option.some.inj e).symm⟩
    · rw [List.getElem?_set, if_neg (Ne.symm c)] at e
      exact .inr e
  refine ⟨by rw [List.length_set]; exact ok.n1, by rw [List.length_set]; exact ok.n2, fun i r e => ?_, fun i r e => ?_, fun i r e => ?_⟩
  · rcases key i r e with ⟨_, rfl⟩ | h
    · exact pw
    · exact ok.asc i r h
  · rw [List.length_set]
    rcases key i r e with ⟨_, rfl⟩ | h
    · exact lt
    · exact ok.lt i r h
  · rcases key i r e with ⟨rfl, rfl⟩ | h
    · exact no
    · exact ok.no i r h
theorem site_snoc {G : Grid} (ok : SiteOk G) (h : G.length < 12) : SiteOk (G ++ [[0]]) := by
  have n1 := ok.n1
  have key : ∀ (i : Nat) (r : List Nat), (G ++ [[0]])[i]? = some r → (i = G.length ∧ r = [0]) ∨ G[i]? = some r := fun i r e => by
    by_cases c : i < G.length
    · rw [List.getElem?_append_left c] at e
      exact .inr e
    · have hi := (List.getElem?_eq_some_iff.mp e).1
      rw [List.length_append, List.length_singleton] at hi
      have : i = G.length := by omega
      subst this
      rw [List.getElem?_append_right (Nat.le_refl _), Nat.sub_self] at e
      exact .inl ⟨rfl, (Option.some.inj e).symm⟩
  have l1 : (G ++ [[0]]).length = G.length + 1 := by rw [List.length_append, List.length_singleton]
  refine ⟨by omega, by omega, fun i r e => ?_, fun i r e => ?_, fun i r e => ?_⟩
  · rcases key i r e with ⟨_, rfl⟩ | h
    · exact List.pairwise_singleton _ _
    · exact ok.asc i r h
  · rw [l1]
    rcases key i r e with ⟨_, rfl⟩ | h
    · intro x hx
      rw [List.mem_singleton.mp hx]; omega
    · intro x hx
      have := ok.lt i r h x hx
      omega
  · rcases key i r e with ⟨rfl, rfl⟩ | h
    · intro m
      have := List.mem_singleton.mp m
      omega
    · exact ok.no i r h
theorem lc_rngT {σ : L2.St} {H1 : Hp} {g : TG} {tt : TT} {te : TE} {vs : List Nat} {Dl : Addr} {Q : VK} {lo : Int} {n : Nat} (Pv : Nat → Hp → Prop) (h0 : Pv 0 (upd H1 Dl (.lst [])))
    (hs : ∀ i H, i < n → Pv i H → g (.int (lo + i)) (wipe σ vs) H fun σ2 H2 => wipe σ2 vs = wipe σ vs ∧ tt σ2 H2 fun b H3 => if b = true then te σ2 H3 fun y H4 => ∃ acc, H4 Dl = some (.lst acc) ∧ acc.length < sizeLine ∧ Pv (i + 1) (upd H4 Dl (.lst (acc ++ [y]))) else Pv (i + 1) H3)
    (hd : ∀ H, Pv n H → Q (.ref Dl) H) : LcG (Itr lo n) g tt te vs σ Dl H1 Q := by
  refine lc_g n Pv h0 (fun H h => Nat.le_refl _) (fun i H hi h => hi) (fun i H x H' hi h y => ?_) hd
  obtain ⟨rfl, rfl⟩ := y
  exact hs i _ hi h
end
section
variable {P : Program} {w : World} {K : PySem.W.Frag} {mg : Str → Option Value} {base : Heap}
def spLaw (K : PySem.W.Frag) : Sp := fun vs H Q _ => ∃ (a : Addr) (ns : List Int), vs = [.ref a] ∧ SqL K H a (ns.map V.int) ∧ ns.length ≤ 63 ∧ ∀ H', Q (.bl true) H'
def JO (H1 : Hp) (a : Addr) (i : Nat) (σ' : L2.St) (H' : Hp) : Prop := ∃ l1 l2 l3 l4 l5 l6 l7 l8 l9, σ' = [some (.ref a), l1, l2, l3, l4, l5, l6, l7, l8, l9] ∧ Ex H1 H'
def JT (H2 : Hp) (a b s : Addr) (l1 : V) (n : Nat) (i : Nat) (σ' : L2.St) (H' : Hp) : Prop := ∃ G l4 l5 l6 l7 l8 l9, σ' = [some (.ref a), some l1, some (.ref b), some (.ref s), l4, l5, l6, l7, l8, l9] ∧ Fx b H2 H' ∧ BagAt H' b (100 + 10 * i) ∧ GridN H2 H' s G ∧ SiteOk G ∧ G.length = n
theorem erase_map (f : Int → V) : ∀ (l : List Int) (k : Nat), (l.map f).eraseIdx k = (l.eraseIdx k).map f
  | [], _ => rfl
  | _ :: _, 0 => rfl
  | a :: l, k + 1 => by
    show f a :: (l.map f).eraseIdx k = f a :: (l.eraseIdx k).map f
    rw [erase_map f l k]
theorem erase_nz : ∀ (l : List Nat) (k : Nat), (nz l).eraseIdx k = nz (l.eraseIdx k)
  | [], _ => rfl
  | _ :: _, 0 => rfl
  | a :: l, k + 1 => by
    show (a : Int) :: (nz l).eraseIdx k = (a : Int) :: nz (l.eraseIdx k)
    rw [erase_nz l k]
theorem erase_perm : ∀ {l : List Nat} {k : Nat} {y : Nat}, l[k]? = some y → (y :: l.eraseIdx k).Perm l
  | [], _, _, h => by cases h
  | a :: l, 0, y, h => by
    have : a = y := by simpa using h
    subst this
    exact List.Perm.refl _
  | a :: l, k + 1, y, h => by
    have ih := erase_perm (l := l) (k := k) (y := y) (by simpa using h)
    exact (List.Perm.swap a y _).trans (ih.cons a)
theorem popAtN {H : Hp} {Q : VK} {q : Addr} {L : List Nat} {r : Int} (h : H q = some (.lst ((nz L).map V.int))) (r0 : 0 ≤ r) (r1 : r < L.length) (hl : L.length ≤ 100000) (k : ∀ y, L[r.toNat]? = some y → Q (.int (y : Nat)) (upd H q (.lst ((nz (L.eraseIdx r.toNat)).map V.int)))) : rPopAt (.ref q) [.int r] H Q := by
  have hr : L[r.toNat]? = some L[r.toNat] := List.getElem?_eq_getElem (by omega)
  have kk := k _ hr
  rw [← erase_nz, ← erase_map] at kk
  refine ⟨q, _, r, r.toNat, .int (L[r.toNat] : Nat), rfl, rfl, h, by omega, by omega, ?_, nz_at hr, kk⟩
  have h0 : ¬ r < 0 := by omega
  simp only [seqIndex?, h0, if_false, List.length_map, nz_len]
  rw [if_pos]
  simp
  omega
/-- all pages but one -/
def PvF (H9 : Hp) (D : Addr) (j : Nat) (i : Nat) (H' : Hp) : Prop := Ex H9 H' ∧ H' D = some (.lst ((nz ((List.range i).filter fun x => !decide (x = j))).map V.int))
/-- drawn pages, each once -/
def PvP (H4 : Hp) (b q D : Addr) (n c : Nat) (i : Nat) (H' : Hp) : Prop := ∃ A R : List Nat, H' D = some (.lst ((nz A).map V.int)) ∧ H' q = some (.lst ((nz R).map V.int)) ∧ A.length = i ∧ (A ++ R).Perm (List.range n) ∧ Fx b H4 H' ∧ BagAt H' b (c + i)
theorem ok_law (T : Txt K mg) : FnG P w K mg base CX0 7 T.f_law T.fd_law ["_law_script"] (spLaw K) := by
  refine fun_okN T.F_law sc_law (fun vs H Q E h => ?_) (fun cdv A outer s H vs Q E hG hr h => ?_)
  · obtain ⟨a, ns, rfl, _⟩ := h
    rfl
  · obtain ⟨a, ns, rfl, hA, hn, k⟩ := h
    apply Exists.intro
    apply And.intro
    · apply pss_cons
      · apply ps_for PassesOwn.never rfl
        · exact (pi_range1 (by rfl) T.n_range (pa_cons (pe_callB (call_max2 rfl) (by rfl) T.n_max (by decide +kernel) (pa_cons pe_int (pa_cons (pe_callB (call_min2 rfl) (by rfl) T.n_min (by decide +kernel) (pa_cons pe_int (pa_cons (pe_callB (k_len (K := K) rfl) (by rfl) T.n_len PySem.boot_len (pa_cons (pv 0) pa_nil)) pa_nil))) pa_nil))) pa_nil))
        · exact (pg_name (i := 1) sc_law.nd rfl (.inl rfl))
        · apply pss_cons
          · exact (ps_set (i := 2) sc_law.nd rfl (.inr rfl) (pe_call (ok_law_pool T) (hr.mono (by decide)) (by rfl) T.m_law_pool T.F_law_pool.kp T.b_law_pool .nil pass0 (pa_cons (pv 0) (pa_cons (pv 1) pa_nil))))
          apply pss_cons
          · exact (ps_set (i := 3) sc_law.nd rfl (.inl rfl) (pe_call (ok_law_net T) (hr.mono (by decide)) (by rfl) T.m_law_net T.F_law_net.kp T.b_law_net .nil pass0 (pa_cons (pv 2) (pa_cons (pv 0) (pa_cons pe_int pa_nil)))))
          apply pss_one
          apply ps_for PassesOwn.never rfl
          · exact (pi_range1 (by rfl) T.n_range (pa_cons pe_int pa_nil))
          · exact (pg_name (i := 4) sc_law.nd rfl (.inl rfl))
          · apply pss_cons
            · exact (ps_set (i := 5) sc_law.nd rfl (.inr rfl) (pe_listRg rfl (by rfl) T.n_list (prg_1 (by rfl) T.n_range (pe_callB (k_len (K := K) rfl) (by rfl) T.n_len PySem.boot_len (pa_cons (pv 3) pa_nil)))))
            apply pss_cons
            · exact (ps_setLc (i := 6) (own := [("_law_at", 7)]) rfl sc_law.nd rfl rfl (sw_true rfl rfl rfl (by decide +kernel)) (pi_range1 (by rfl) T.n_range (pa_cons (pe_callB (call_min2 rfl) (by rfl) T.n_min (by decide +kernel) (pa_cons pe_int (pa_cons (pe_op op_add pe_int (pe_call (ok_law_draw T) (hr.mono (by decide)) (by rfl) T.m_law_draw T.F_law_draw.kp T.b_law_draw .nil pass0 (pa_cons (pv 2) (pa_cons (pe_callB (k_len (K := K) rfl) (by rfl) T.n_len PySem.boot_len (pa_cons (pv 3) pa_nil)) pa_nil)))) pa_nil))) pa_nil)) (blkOk_by (own := [("_law_at", 7)]) (N := ["_law_script", "_law_k", "_law_pool_here", "_law_net_here", "_law_turn", "_law_left", "_law_some", "_law_at", "_law_row", "_law_far"]) (sc := defScope s_law) (by decide +kernel)) (fun _ _ _ _ _ => by exact (pg_name (i := 7) sc_law.nd rfl (.inl rfl))) (fun _ _ _ _ _ => by exact pts_nil) (fun _ _ _ _ _ => by exact (k_bm (K := K) rfl (pe_bm PySem.F.plainAttrs_list PySem.F.slot_list_pop PySem.F.type_list_pop mt_popAt (pv 5) (pa_cons (pe_call (ok_law_draw T) (hr.mono (by decide)) (by rfl) T.m_law_draw T.F_law_draw.kp T.b_law_draw .nil pass0 (pa_cons (pv 2) (pa_cons (pe_callB (k_len (K := K) rfl) (by rfl) T.n_len PySem.boot_len (pa_cons (pv 5) pa_nil)) pa_nil))) pa_nil)))))
            apply pss_cons
            · apply ps_if
              · exact (PW.pt (pw_or (pt_not (pt_val (pe_callG (ok_law_right T) hG (hr.mono (by decide)) (by rfl) T.m_law_right T.F_law_right.kp T.b_law_right .nil pass0 (pa_cons (pv 3) (pa_cons (pv 6) pa_nil))))) (pw_or1 (pt_cmpR op_ne (pe_call (ok_count_orders T) (hr.mono (by decide)) (by rfl) T.m_count_orders T.F_count_orders.kp T.b_count_orders .nil pass0 (pa_cons (pv 3) (pa_cons (pe_lst pa_nil) pa_nil))) pe_int (by rfl)))))
              · apply pss_one
                exact (ps_ret pe_bl)
              · exact pss_nil
            apply pss_cons
            · exact (ps_expr (k_bm0 (K := K) rfl (pe_bm0 PySem.F.plainAttrs_list PySem.F.slot_list_reverse PySem.F.type_list_reverse mt_reverse (pv 6))))
            apply pss_cons
            · exact (ps_expr (k_bm0 (K := K) rfl (pe_bm0 PySem.F.plainAttrs_list PySem.F.slot_list_pop PySem.F.type_list_pop mt_pop (pv 6))))
            apply pss_cons
            · apply ps_if
              · exact (pt_not (pt_val (pe_callG (ok_law_right T) hG (hr.mono (by decide)) (by rfl) T.m_law_right T.F_law_right.kp T.b_law_right .nil pass0 (pa_cons (pv 3) (pa_cons (pv 6) pa_nil)))))
              · apply pss_one
                exact (ps_ret pe_bl)
              · exact pss_nil
            apply pss_cons
            · exact (ps_set (i := 7) sc_law.nd rfl (.inr rfl) (pe_call (ok_law_draw T) (hr.mono (by decide)) (by rfl) T.m_law_draw T.F_law_draw.kp T.b_law_draw .nil pass0 (pa_cons (pv 2) (pa_cons (pe_callB (k_len (K := K) rfl) (by rfl) T.n_len PySem.boot_len (pa_cons (pv 3) pa_nil)) pa_nil))))
            apply pss_cons
            · exact (ps_set (i := 8) sc_law.nd rfl (.inl rfl) (pe_ix (k_ix_list (K := K) rfl) (pv 3) (pv 7) (fun _ _ => rfl)))
            apply pss_cons
            · exact (ps_asg (pe_lc (own := [("_law_far", 9)]) rfl sc_law.nd (pi_range1 (by rfl) T.n_range (pa_cons (pe_callB (k_len (K := K) rfl) (by rfl) T.n_len PySem.boot_len (pa_cons (pv 3) pa_nil)) pa_nil)) (blkOk_by (own := [("_law_far", 9)]) (N := ["_law_script", "_law_k", "_law_pool_here", "_law_net_here", "_law_turn", "_law_left", "_law_some", "_law_at", "_law_row", "_law_far"]) (sc := defScope s_law) (by decide +kernel)) (fun _ _ _ _ _ => by exact (pg_name (i := 9) sc_law.nd rfl (.inl rfl))) (fun _ _ _ _ _ => by exact (pts_one (pt_cmpR op_ne (pv 9) (pv 7) (by rfl)))) (fun _ _ _ _ _ => by exact (pv 9))) (pg_all (pv 8)))
            apply pss_one
            apply ps_if
            · exact (pt_not (pt_val (pe_callG (ok_law_right T) hG (hr.mono (by decide)) (by rfl) T.m_law_right T.F_law_right.kp T.b_law_right .nil pass0 (pa_cons (pv 3) (pa_cons (pv 6) pa_nil)))))
            · apply pss_one
              exact (ps_ret pe_bl)
            · exact pss_nil
      apply pss_one
      exact (ps_ret pe_bl)
    walk_at "sx"
    refine lenL hA ?_
    rw [List.length_map]
    refine ⟨_, _, ⟨rfl, rfl⟩, _, _, ⟨rfl, rfl⟩, ?_⟩
    obtain ⟨tn, ht, ht8⟩ : ∃ tn : Nat, (if (if ((ns.length : Nat) : Int) < 6 then ((ns.length : Nat) : Int) else 6) > 1 then (if ((ns.length : Nat) : Int) < 6 then ((ns.length : Nat) : Int) else 6) else 1) = (tn : Int) ∧ tn ≤ 6 := by
      refine ⟨(if (if ((ns.length : Nat) : Int) < 6 then ((ns.length : Nat) : Int) else 6) > 1 then (if ((ns.length : Nat) : Int) < 6 then ((ns.length : Nat) : Int) else 6) else 1).toNat, ?_, ?_⟩
      · rw [Int.toNat_of_nonneg]
        split <;> split <;> omega
      · split <;> split <;> omega
    rw [ht]
    refine ⟨by omega, by omega, ?_⟩
    rw [Int.toNat_natCast]
    refine lg_rng (JO H a) ⟨none, none, none, none, none, none, none, none, none, rfl, Ex.refl H⟩ (fun i σ' H' hi hP => ?_) (fun σ' H' hP => ?_)
    · obtain ⟨l1, l2, l3, l4, l5, l6, l7, l8, l9, rfl, e⟩ := hP
      simp only [x_gn, List.set_cons_zero, List.set_cons_succ]
      refine seq_asg (fun v H2 => ∃ b, v = .ref b ∧ H' b = none ∧ Ex H' H2 ∧ BagAt H2 b 0) (fun R hR => ?_) (fun v H2 hC => ?_)
      · walk_at "sx"
        refine ⟨a, ns, i, by rw [Int.zero_add], ex_l e hA, hn, by omega, fun b H2 nb e2 hb => ?_⟩
        exact hR _ _ ⟨b, rfl, nb, e2, hb⟩
      obtain ⟨b, rfl, nb, e2, hb⟩ := hC
      have nbH : H b = none := fresh_back e nb
      obtain ⟨ob, hob⟩ := hb.some
      simp only [List.set_cons_zero, List.set_cons_succ]
      refine seq_asg (fun v H3 => ∃ s G, v = .ref s ∧ Fx b H2 H3 ∧ BagAt H3 b 100 ∧ GridN H2 H3 s G ∧ SiteOk G ∧ G.length ≤ 6) (fun R hR => ?_) (fun v H3 hC => ?_)
      · walk_at "sx"
        exact ⟨b, a, ns, rfl, ex_l (e.trans e2) hA, ⟨H', nb, ex_l e hA⟩, hb, fun s G H3 f3 b3 g3 ok h6 => hR _ _ ⟨s, G, rfl, f3, b3, g3, ok, h6⟩⟩
      obtain ⟨s, G, rfl, f3, b3, g3, ok, h6⟩ := hC
      have n1 := ok.n1
      simp only [List.set_cons_zero, List.set_cons_succ]
      walk_at "sx"
      refine ⟨by omega, by omega, ?_⟩
      rw [show Int.toNat 3 = 3 from rfl]
      refine lg_rng (JT H2 a b s (.int ((0 : Int) + (i : Nat))) G.length) ⟨G, l4, l5, l6, l7, l8, l9, rfl, f3, b3, g3, ok, rfl⟩ (fun t σ' H4 ht hP => ?_) (fun σ' H4 hP => ?_)
      · obtain ⟨F, l4, l5, l6, l7, l8, l9, rfl, f4, b4, g4, ok4, hF⟩ := hP
        simp only [x_gn, List.set_cons_zero, List.set_cons_succ]
        have low : Ex H2 H2 := Ex.refl _
        refine seq_asg (fun v H5 => ∃ q, v = .ref q ∧ H4 q = none ∧ Ex H4 H5 ∧ H5 q = some (.lst ((nz (List.range G.length)).map V.int))) (fun R hR => ?_) (fun v H5 hC => ?_)
        · walk_at "sx"
          obtain ⟨xs4, hs4, hl4, _⟩ := g4.at.lst
          refine lenL (.inl (.inl hs4)) ?_
          rw [hl4, hF]
          refine ⟨_, rfl, ⟨by omega, by omega, by omega, by omega, by omega⟩, fun q nq => ?_⟩
          exact hR _ _ ⟨q, rfl, nq, Ex.new nq, by rw [upd_same, rgV_ints, show (((G.length : Nat) : Int) - 0).toNat = G.length by omega, show ((List.range G.length).map fun i => (0 : Int) + ((i : Nat) : Int)) = nz (List.range G.length) from List.map_congr_left fun i _ => by omega]⟩
        obtain ⟨q, rfl, nq, e5, hq⟩ := hC
        simp only [List.set_cons_zero, List.set_cons_succ]
        have b5 := b4.ex e5
        have nqb : q ≠ b := b4.apart nq
        have nqH : H2 q = none := fx_none f4 nq nqb
        refine seq_asg (fun v H6 => ∃ p L, v = .ref p ∧ H4 p = none ∧ p ≠ b ∧ Fx b H4 H6 ∧ BagAt H6 b (100 + 10 * t + 7) ∧ H6 p = some (.lst ((nz L).map V.int)) ∧ L.Nodup ∧ (∀ x ∈ L, x < G.length) ∧ L.length ≤ 5 ∧ L ≠ []) (fun R hR => ?_) (fun v H6 hC => ?_)
        · walk_at "sx"
          obtain ⟨xs4, hs4, hl4, _⟩ := g4.at.lst
          refine lenL (.inl (.inl (e5 _ _ hs4))) ?_
          rw [hl4, hF]
          refine ⟨b, _, _, rfl, by omega, big_of (by omega), b5, by omega, fun r H6 r0 r1 f6 b6 => ?_⟩
          walk_at "sx"
          refine ⟨_, _, ⟨rfl, rfl⟩, by split <;> omega, by split <;> omega, fun D nD => ?_⟩
          obtain ⟨mn, hmn, m1, m5, mG⟩ : ∃ mn : Nat, (if 1 + r < 5 then 1 + r else 5).toNat = mn ∧ 1 ≤ mn ∧ mn ≤ 5 ∧ mn ≤ G.length := ⟨_, rfl, by split <;> omega, by split <;> omega, by split <;> omega⟩
          rw [hmn]
          have f46 : Fx b H4 H6 := (Fx.of e5).trans f6
          have nDb := b6.apart nD
          have hq6 := f6 _ _ nqb hq
          have nqD : q ≠ D := ne_of_none hq6 nD
          refine lc_rngE (PvP H4 b q D G.length (100 + 10 * t + 1)) ⟨[], List.range G.length, upd_same, by rw [upd_ne nqD]; exact hq6, rfl, List.Perm.refl _, f46.trans (Fx.of (Ex.new nD)), by simpa using b6.off nDb⟩ (fun u H7 hu hP => ?_) (fun H7 hP => ?_)
          · obtain ⟨A, R, hD, hq7, lA, pm, fx, bg⟩ := hP
            have lAR := pm.length_eq
            rw [List.length_append, List.length_range] at lAR
            refine ⟨rfl, ?_⟩
            simp only [wipe, List.set_cons_zero, List.set_cons_succ]
            walk_at "sx"
            refine ⟨tyL hq7, ?_⟩
            refine lenL (.inl (.inl hq7)) ?_
            rw [List.length_map, nz_len]
            refine ⟨b, _, _, rfl, by omega, big_of (by omega), bg, by omega, fun r8 H8 r80 r81 f8 b8 => ?_⟩
            have hq8 := f8 _ _ nqb hq7
            have hD8 := f8 _ _ nDb hD
            refine popAtN hq8 r80 (by omega) (by omega) fun y hy => ?_
            refine ⟨_, by rw [upd_ne nqD.symm]; exact hD8, BC.sz_lt (by rw [List.length_map, nz_len]; omega), A ++ [y], R.eraseIdx r8.toNat, by rw [upd_same, nz_v], by rw [upd_ne nqD, upd_same], by rw [List.length_append, lA]; rfl, ?_, ((fx.trans f8).mut nq).mut (fx_none f46 nD nDb), (b8.off nqb).off nDb⟩
            rw [List.append_assoc]
            exact (List.Perm.append_left _ (erase_perm hy)).trans pm
          · obtain ⟨A, R, hD, hq7, lA, pm, fx, bg⟩ := hP
            have ndA : A.Nodup := ((List.nodup_append.mp (pm.nodup_iff.mpr List.nodup_range))).1
            refine hR _ _ ⟨D, A, rfl, fx_none f46 nD nDb, nDb, fx, bg.mono (by omega), hD, ndA, fun x hx => List.mem_range.mp (pm.mem_iff.mp (List.mem_append_left _ hx)), by omega, fun z => by rw [z] at lA; simp at lA; omega⟩
        obtain ⟨p, L, rfl, np, npb, f6, b6, hp, nd, hlt, h5, neL⟩ := hC
        simp only [List.set_cons_zero, List.set_cons_succ]
        have g6 := g4.nw (Nw.fx hob f6)
        refine seq_cut (fun σ' H7 => σ' = [some (.ref a), some (.int ((0 : Int) + (i : Nat))), some (.ref b), some (.ref s), some (.int ((0 : Int) + (t : Nat))), some (.ref q), some (.ref p), l7, l8, l9] ∧ Ex H6 H7) (fun N hN => ?_) (fun σ' H7 hC => ?_)
        · walk_at "sx"
          refine ⟨s, p, F, L, rfl, g6.at, ok4, by omega, hp, nd, fun x hx => by rw [hF]; exact hlt x hx, h5, fun H7 e7 => ?_⟩
          refine ⟨_, rfl, ?_⟩
          rw [if_neg (by decide)]
          refine ⟨Nat.zero_le _, fun z nz1 => ?_⟩
          have ez := Ex.new nz1 (o := .lst [])
          refine ⟨s, z, F, [], rfl, g6.at.ex (e7.trans ez), ok4, by omega, .inl (.inl upd_same), List.nodup_nil, fun x hx => absurd hx List.not_mem_nil, fun H8 e8 => ?_⟩
          refine x_neI.mpr ⟨_, rfl, ?_⟩
          rw [show OR.cnt F [] = 0 from rfl, if_neg (by decide)]
          exact hN _ _ ⟨rfl, (e7.trans ez).trans e8⟩
        obtain ⟨rfl, e7⟩ := hC
        walk_at "sx"
        have f7 : Fx b H4 H7 := f6.trans (Fx.of e7)
        have hp7 := e7 _ _ hp
        have b7 := b6.ex e7
        refine ⟨tyL hp7, p, _, rfl, rfl, hp7, ?_⟩
        have hp8 : (upd H7 p (.lst ((nz L).map V.int).reverse)) p = some (.lst ((nz L.reverse).map V.int)) := by
          rw [upd_same]
          unfold nz
          rw [← List.map_reverse, ← List.map_reverse]
        have f8 : Fx b H4 (upd H7 p (.lst ((nz L).map V.int).reverse)) := f7.mut np
        have b8 := b7.off npb (o := .lst ((nz L).map V.int).reverse)
        generalize (upd H7 p (.lst ((nz L).map V.int).reverse)) = H8 at hp8 f8 b8 ⊢
        have neR : L.reverse ≠ [] := fun z => neL (List.reverse_eq_nil_iff.mp z)
        refine ⟨tyL hp8, p, _, _, rfl, rfl, hp8, last_lst neR, ?_⟩
        have hp9 : (upd H8 p (.lst ((nz L.reverse).map V.int).dropLast)) p = some (.lst ((nz L.reverse.dropLast).map V.int)) := by
          rw [upd_same]
          unfold nz
          rw [← List.map_dropLast, ← List.map_dropLast]
        have f9 : Fx b H4 (upd H8 p (.lst ((nz L.reverse).map V.int).dropLast)) := f8.mut np
        have b9 := b8.off npb (o := .lst ((nz L.reverse).map V.int).dropLast)
        generalize (upd H8 p (.lst ((nz L.reverse).map V.int).dropLast)) = H9 at hp9 f9 b9 ⊢
        have nd9 : L.reverse.dropLast.Nodup := ((List.reverse_perm L).nodup_iff.mpr nd).sublist (List.dropLast_sublist _)
        have lt9 : ∀ x ∈ L.reverse.dropLast, x < G.length := fun x hx => hlt x (List.mem_reverse.mp ((List.dropLast_sublist _).subset hx))
        have l59 : L.reverse.dropLast.length ≤ 5 := by rw [List.length_dropLast, List.length_reverse]; omega
        generalize L.reverse.dropLast = M at hp9 nd9 lt9 l59
        have g9 := g4.nw (Nw.fx hob f9)
        refine ⟨s, p, F, M, rfl, g9.at, ok4, by omega, hp9, nd9, fun x hx => by rw [hF]; exact lt9 x hx, l59, fun H10 e10 => ?_⟩
        refine ⟨_, rfl, ?_⟩
        rw [if_neg (by decide)]
        have g10 := g9.ex e10
        obtain ⟨xs10, hs10, hl10, _⟩ := g10.at.lst
        refine lenL (.inl (.inl hs10)) ?_
        rw [hl10, hF]
        refine ⟨b, _, _, rfl, by omega, big_of (by omega), b9.ex e10, by omega, fun r H11 r0 r1 f11 b11 => ?_⟩
        obtain ⟨j, rfl⟩ : ∃ j : Nat, r = (j : Int) := ⟨r.toNat, by omega⟩
        have hj : j < F.length := by omega
        have f411 : Fx b H4 H11 := (f9.trans (Fx.of e10)).trans f11
        have g11 := g4.nw (Nw.fx hob f411)
        obtain ⟨w, xs11, hs11, hl11, hwx, hw11, hwH, chg⟩ := g11.chg hj
        have nwb : w ≠ b := fun z => by subst z; rw [hob] at hwH; cases hwH
        refine ixL (.inl (.inl hs11)) (atI_n (j := j) rfl hwx) ?_
        refine lenL (.inl (.inl hs11)) ?_
        rw [hl11, hF]
        refine ⟨_, rfl, by omega, by omega, fun D nD => ?_⟩
        rw [Int.toNat_natCast]
        have nDb := b11.apart nD
        have nwD : w ≠ D := ne_of_none hw11 nD
        have npD : p ≠ D := ne_of_none (f11 _ _ npb (e10 _ _ hp9)) nD
        refine lc_rngT (PvF H11 D j) ⟨Ex.new nD, upd_same⟩ (fun u HA hu hP => ?_) (fun HA hP => ?_)
        · obtain ⟨eA, hD⟩ := hP
          refine ⟨rfl, ?_⟩
          rw [show (0 : Int) + (u : Int) = (u : Int) by omega]
          simp only [wipe, List.set_cons_zero, List.set_cons_succ]
          walk_at "sx"
          have fl := List.length_filter_le (fun x => !decide (x = j)) (List.range u)
          rw [List.length_range] at fl
          have st : ∀ c : Bool, (!decide (u = j)) = c → (List.range (u + 1)).filter (fun x => !decide (x = j)) = (List.range u).filter (fun x => !decide (x = j)) ++ if c = true then [u] else [] := fun c hc => by
            rw [List.range_succ, List.filter_append]
            congr 1
            rw [← hc]
            by_cases z : u = j <;> simp [z]
          by_cases c1 : u = j
          · rw [decide_eq_true (show (u : Int) = (j : Int) by omega)]
            walk_at "sx"
            refine ⟨eA, ?_⟩
            rw [st false (by rw [decide_eq_true c1]; rfl), if_neg (by decide), List.append_nil]
            exact hD
          · rw [decide_eq_false (show ¬ (u : Int) = (j : Int) by omega)]
            walk_at "sx"
            refine ⟨_, hD, BC.sz_lt (by rw [List.length_map, nz_len]; omega), eA.mut nD, ?_⟩
            rw [st true (by rw [decide_eq_false c1]; rfl), if_pos rfl, upd_same, nz_v]
        · obtain ⟨eA, hD⟩ := hP
          have hwA := eA _ _ hw11
          have gnA := g11.ex eA
          obtain ⟨w', xs', hsA, hlA, hwx', hwA', _, chgA⟩ := gnA.chg hj
          have exs : xs' = xs11 := by
            have h1 := eA _ _ hs11
            rw [hsA] at h1
            exact HO.lst.inj (Option.some.inj h1)
          subst exs
          rw [hwx] at hwx'
          obtain rfl : w = w' := by injection hwx' with q; injection q
          refine ⟨w, rfl, D, rfl, nwD, _, hwA, _, hD, ?_, ?_⟩
          · have fl := List.length_filter_le (fun x => !decide (x = j)) (List.range G.length)
            rw [List.length_range] at fl
            have rl := ok4.rlen j
            exact sz_ok (by rw [List.length_map, List.length_map, nz_len, nz_len]; omega)
          have okA : SiteOk (F.set j ((List.range G.length).filter fun x => !decide (x = j))) := site_set ok4 hj (List.pairwise_lt_range.sublist List.filter_sublist) (fun x hx => by rw [hF]; exact List.mem_range.mp (List.mem_filter.mp hx).1) (fun m => by have := (List.mem_filter.mp m).2; simp at this)
          have gA := chgA ((List.range G.length).filter fun x => !decide (x = j))
          have lSet : (F.set j ((List.range G.length).filter fun x => !decide (x = j))).length = G.length := by rw [List.length_set]; exact hF
          generalize F.set j ((List.range G.length).filter fun x => !decide (x = j)) = F2 at okA gA lSet
          have npw : p ≠ w := fun z => by
            obtain ⟨w4, x4, y1, y2, y3, y4, y5, _⟩ := g4.chg hj
            have z1 := f411 _ _ (fun z => by subst z; rw [hob] at y5; cases y5) y4
            have z2 : w4 = w := by
              have nsb : s ≠ b := fun z => by subst z; have h0 := g3.1; rw [hob] at h0; cases h0
              have h1 := f411 _ _ nsb y1
              rw [hs11] at h1
              have h2 := HO.lst.inj (Option.some.inj h1)
              rw [h2, y3] at hwx
              injection hwx with q; injection q
            rw [z2, ← z, np] at y4
            cases y4
          have hpA : (upd HA w (.lst ((nz ((List.range G.length).filter fun x => !decide (x = j))).map V.int))) p = some (.lst ((nz M).map V.int)) := by
            rw [upd_ne npw]
            exact eA _ _ (f11 _ _ npb (e10 _ _ hp9))
          have fA : Fx b H2 (upd HA w (.lst ((nz ((List.range G.length).filter fun x => !decide (x = j))).map V.int))) := ((f4.trans f411).trans (Fx.of eA)).mut hwH
          have bA := (b11.ex eA).off nwb (o := .lst ((nz ((List.range G.length).filter fun x => !decide (x = j))).map V.int))
          generalize (upd HA w (.lst ((nz ((List.range G.length).filter fun x => !decide (x = j))).map V.int))) = HB at gA hpA fA bA ⊢
          refine ⟨s, p, F2, M, rfl, gA.at, okA, by omega, hpA, nd9, fun x hx => by rw [lSet]; exact lt9 x hx, l59, fun HC eC => ?_⟩
          refine ⟨_, rfl, ?_⟩
          rw [if_neg (by decide)]
          exact ⟨F2, _, _, _, _, _, _, rfl, fA.trans (Fx.of eC), (bA.ex eC).mono (by omega), gA.ex eC, okA, lSet⟩
      · obtain ⟨F, l4, l5, l6, l7, l8, l9, rfl, f4, b4, g4, ok4, hF⟩ := hP
        walk_at "sx"
        exact ⟨_, _, _, _, _, _, _, _, _, rfl, ((Fx.of (e.trans e2)).trans f4).ex nbH⟩
    · obtain ⟨l1, l2, l3, l4, l5, l6, l7, l8, l9, rfl, e⟩ := hP
      walk_at "sx"
      exact k _
end
end LW

set_option Elab.async false
set_option linter.all false
set_option maxRecDepth 100000
set_option maxHeartbeats 4000000
namespace LW
open PySem PySem.Spec PyProof.Rows L2 BC Evl TR
theorem all_mk {l : PySem.W.OpenLaw} {w : World} {K : PySem.W.Frag} {h : Heap} {mg : Str → Option Value} {fa : Addr} (X : K.In h) (G : h.Ns mainGlobals mg) (hfa : mg "law" = some (.ref fa))
    {f0 : Addr} {od0 an0 : Option Addr} {sl0 : Array (Option Value)} {oc0 kV0 dc0 pm0 cd0 ct0 : Value}
    {f1 : Addr} {od1 an1 : Option Addr} {sl1 : Array (Option Value)} {oc1 kV1 dc1 pm1 cd1 ct1 : Value}
    {f2 : Addr} {od2 an2 : Option Addr} {sl2 : Array (Option Value)} {oc2 kV2 dc2 pm2 cd2 ct2 : Value}
    {f3 : Addr} {od3 an3 : Option Addr} {sl3 : Array (Option Value)} {oc3 kV3 dc3 pm3 cd3 ct3 : Value}
    {f4 : Addr} {od4 an4 : Option Addr} {sl4 : Array (Option Value)} {oc4 kV4 dc4 pm4 cd4 ct4 : Value}
    {f5 : Addr} {od5 an5 : Option Addr} {sl5 : Array (Option Value)} {oc5 kV5 dc5 pm5 cd5 ct5 : Value}
    {f6 : Addr} {od6 an6 : Option Addr} {sl6 : Array (Option Value)} {oc6 kV6 dc6 pm6 cd6 ct6 : Value}
    {f7 : Addr} {od7 an7 : Option Addr} {sl7 : Array (Option Value)} {oc7 kV7 dc7 pm7 cd7 ct7 : Value}
    {f8 : Addr} {od8 an8 : Option Addr} {sl8 : Array (Option Value)} {oc8 kV8 dc8 pm8 cd8 ct8 : Value}
    {f9 : Addr} {od9 an9 : Option Addr} {sl9 : Array (Option Value)} {oc9 kV9 dc9 pm9 cd9 ct9 : Value}
    {f10 : Addr} {od10 an10 : Option Addr} {sl10 : Array (Option Value)} {oc10 kV10 dc10 pm10 cd10 ct10 : Value}
    {f11 : Addr} {od11 an11 : Option Addr} {sl11 : Array (Option Value)} {oc11 kV11 dc11 pm11 cd11 ct11 : Value}
    {f12 : Addr} {od12 an12 : Option Addr} {sl12 : Array (Option Value)} {oc12 kV12 dc12 pm12 cd12 ct12 : Value}
    {f13 : Addr} {od13 an13 : Option Addr} {sl13 : Array (Option Value)} {oc13 kV13 dc13 pm13 cd13 ct13 : Value}
    {f14 : Addr} {od14 an14 : Option Addr} {sl14 : Array (Option Value)} {oc14 kV14 dc14 pm14 cd14 ct14 : Value}
    {f15 : Addr} {od15 an15 : Option Addr} {sl15 : Array (Option Value)} {oc15 kV15 dc15 pm15 cd15 ct15 : Value}
    {f16 : Addr} {od16 an16 : Option Addr} {sl16 : Array (Option Value)} {oc16 kV16 dc16 pm16 cd16 ct16 : Value}
    {f17 : Addr} {od17 an17 : Option Addr} {sl17 : Array (Option Value)} {oc17 kV17 dc17 pm17 cd17 ct17 : Value}
    {f18 : Addr} {od18 an18 : Option Addr} {sl18 : Array (Option Value)} {oc18 kV18 dc18 pm18 cd18 ct18 : Value}
    {f19 : Addr} {od19 an19 : Option Addr} {sl19 : Array (Option Value)} {oc19 kV19 dc19 pm19 cd19 ct19 : Value}
    {f20 : Addr} {od20 an20 : Option Addr} {sl20 : Array (Option Value)} {oc20 kV20 dc20 pm20 cd20 ct20 : Value}
    {f21 : Addr} {od21 an21 : Option Addr} {sl21 : Array (Option Value)} {oc21 kV21 dc21 pm21 cd21 ct21 : Value}
    {f22 : Addr} {od22 an22 : Option Addr} {sl22 : Array (Option Value)} {oc22 kV22 dc22 pm22 cd22 ct22 : Value}
    {tA_BITS : Addr} {tD_BITS : Option Addr} {tN_BITS : Nat} {tS_BITS : Array (Option Value)} {tt_BITS_0 tt_BITS_1 tt_BITS_2 tt_BITS_3 tt_BITS_4 tt_BITS_5 tt_BITS_6 tt_BITS_7 tt_BITS_8 tt_BITS_9 tt_BITS_10 tt_BITS_11 : Tok}
    {tt_MOST_PAGES : Tok}
    (a0 : PySem.W.nsIn K mainGlobals "is_integer" = some (some (.ref f0))) (l0 : K.lookup f0 = some ⟨oc0, od0, .func (PySem.W.fnOf "is_integer" "is_integer" (defArgs s_is_integer) (defBody s_is_integer) (defScope s_is_integer) .none kV0 dc0 pm0 an0 cd0 ct0), sl0⟩) (c0 : PySem.W.codeIn K cd0 "is_integer" = true) (k0 : PySem.W.keepIn K (.ref f0) = true)
    (a1 : PySem.W.nsIn K mainGlobals "check_number" = some (some (.ref f1))) (l1 : K.lookup f1 = some ⟨oc1, od1, .func (PySem.W.fnOf "check_number" "check_number" (defArgs s_check_number) (defBody s_check_number) (defScope s_check_number) .none kV1 dc1 pm1 an1 cd1 ct1), sl1⟩) (c1 : PySem.W.codeIn K cd1 "check_number" = true) (k1 : PySem.W.keepIn K (.ref f1) = true)
    (a2 : PySem.W.nsIn K mainGlobals "is_row" = some (some (.ref f2))) (l2 : K.lookup f2 = some ⟨oc2, od2, .func (PySem.W.fnOf "is_row" "is_row" (defArgs s_is_row) (defBody s_is_row) (defScope s_is_row) .none kV2 dc2 pm2 an2 cd2 ct2), sl2⟩) (c2 : PySem.W.codeIn K cd2 "is_row" = true) (k2 : PySem.W.keepIn K (.ref f2) = true)
    (a3 : PySem.W.nsIn K mainGlobals "is_site" = some (some (.ref f3))) (l3 : K.lookup f3 = some ⟨oc3, od3, .func (PySem.W.fnOf "is_site" "is_site" (defArgs s_is_site) (defBody s_is_site) (defScope s_is_site) .none kV3 dc3 pm3 an3 cd3 ct3), sl3⟩) (c3 : PySem.W.codeIn K cd3 "is_site" = true) (k3 : PySem.W.keepIn K (.ref f3) = true)
    (a4 : PySem.W.nsIn K mainGlobals "check_site" = some (some (.ref f4))) (l4 : K.lookup f4 = some ⟨oc4, od4, .func (PySem.W.fnOf "check_site" "check_site" (defArgs s_check_site) (defBody s_check_site) (defScope s_check_site) .none kV4 dc4 pm4 an4 cd4 ct4), sl4⟩) (c4 : PySem.W.codeIn K cd4 "check_site" = true) (k4 : PySem.W.keepIn K (.ref f4) = true)
    (a5 : PySem.W.nsIn K mainGlobals "check_pages" = some (some (.ref f5))) (l5 : K.lookup f5 = some ⟨oc5, od5, .func (PySem.W.fnOf "check_pages" "check_pages" (defArgs s_check_pages) (defBody s_check_pages) (defScope s_check_pages) .none kV5 dc5 pm5 an5 cd5 ct5), sl5⟩) (c5 : PySem.W.codeIn K cd5 "check_pages" = true) (k5 : PySem.W.keepIn K (.ref f5) = true)
    (a6 : PySem.W.nsIn K mainGlobals "is_linked_on" = some (some (.ref f6))) (l6 : K.lookup f6 = some ⟨oc6, od6, .func (PySem.W.fnOf "is_linked_on" "is_linked_on" (defArgs s_is_linked_on) (defBody s_is_linked_on) (defScope s_is_linked_on) .none kV6 dc6 pm6 an6 cd6 ct6), sl6⟩) (c6 : PySem.W.codeIn K cd6 "is_linked_on" = true) (k6 : PySem.W.keepIn K (.ref f6) = true)
    (a7 : PySem.W.nsIn K mainGlobals "is_trail_on" = some (some (.ref f7))) (l7 : K.lookup f7 = some ⟨oc7, od7, .func (PySem.W.fnOf "is_trail_on" "is_trail_on" (defArgs s_is_trail_on) (defBody s_is_trail_on) (defScope s_is_trail_on) .none kV7 dc7 pm7 an7 cd7 ct7), sl7⟩) (c7 : PySem.W.codeIn K cd7 "is_trail_on" = true) (k7 : PySem.W.keepIn K (.ref f7) = true)
    (a8 : PySem.W.nsIn K mainGlobals "bits_of" = some (some (.ref f8))) (l8 : K.lookup f8 = some ⟨oc8, od8, .func (PySem.W.fnOf "bits_of" "bits_of" (defArgs s_bits_of) (defBody s_bits_of) (defScope s_bits_of) .none kV8 dc8 pm8 an8 cd8 ct8), sl8⟩) (c8 : PySem.W.codeIn K cd8 "bits_of" = true) (k8 : PySem.W.keepIn K (.ref f8) = true)
    (a9 : PySem.W.nsIn K mainGlobals "has_bit" = some (some (.ref f9))) (l9 : K.lookup f9 = some ⟨oc9, od9, .func (PySem.W.fnOf "has_bit" "has_bit" (defArgs s_has_bit) (defBody s_has_bit) (defScope s_has_bit) .none kV9 dc9 pm9 an9 cd9 ct9), sl9⟩) (c9 : PySem.W.codeIn K cd9 "has_bit" = true) (k9 : PySem.W.keepIn K (.ref f9) = true)
    (a10 : PySem.W.nsIn K mainGlobals "ways_on" = some (some (.ref f10))) (l10 : K.lookup f10 = some ⟨oc10, od10, .func (PySem.W.fnOf "ways_on" "ways_on" (defArgs s_ways_on) (defBody s_ways_on) (defScope s_ways_on) .none kV10 dc10 pm10 an10 cd10 ct10), sl10⟩) (c10 : PySem.W.codeIn K cd10 "ways_on" = true) (k10 : PySem.W.keepIn K (.ref f10) = true)
    (a11 : PySem.W.nsIn K mainGlobals "number_behind" = some (some (.ref f11))) (l11 : K.lookup f11 = some ⟨oc11, od11, .func (PySem.W.fnOf "number_behind" "number_behind" (defArgs s_number_behind) (defBody s_number_behind) (defScope s_number_behind) .none kV11 dc11 pm11 an11 cd11 ct11), sl11⟩) (c11 : PySem.W.codeIn K cd11 "number_behind" = true) (k11 : PySem.W.keepIn K (.ref f11) = true)
    (a12 : PySem.W.nsIn K mainGlobals "number_of_orders" = some (some (.ref f12))) (l12 : K.lookup f12 = some ⟨oc12, od12, .func (PySem.W.fnOf "number_of_orders" "number_of_orders" (defArgs s_number_of_orders) (defBody s_number_of_orders) (defScope s_number_of_orders) .none kV12 dc12 pm12 an12 cd12 ct12), sl12⟩) (c12 : PySem.W.codeIn K cd12 "number_of_orders" = true) (k12 : PySem.W.keepIn K (.ref f12) = true)
    (a13 : PySem.W.nsIn K mainGlobals "next_pages" = some (some (.ref f13))) (l13 : K.lookup f13 = some ⟨oc13, od13, .func (PySem.W.fnOf "next_pages" "next_pages" (defArgs s_next_pages) (defBody s_next_pages) (defScope s_next_pages) .none kV13 dc13 pm13 an13 cd13 ct13), sl13⟩) (c13 : PySem.W.codeIn K cd13 "next_pages" = true) (k13 : PySem.W.keepIn K (.ref f13) = true)
    (a14 : PySem.W.nsIn K mainGlobals "count_orders" = some (some (.ref f14))) (l14 : K.lookup f14 = some ⟨oc14, od14, .func (PySem.W.fnOf "count_orders" "count_orders" (defArgs s_count_orders) (defBody s_count_orders) (defScope s_count_orders) .none kV14 dc14 pm14 an14 cd14 ct14), sl14⟩) (c14 : PySem.W.codeIn K cd14 "count_orders" = true) (k14 : PySem.W.keepIn K (.ref f14) = true)
    (a15 : PySem.W.nsIn K mainGlobals "nth_order" = some (some (.ref f15))) (l15 : K.lookup f15 = some ⟨oc15, od15, .func (PySem.W.fnOf "nth_order" "nth_order" (defArgs s_nth_order) (defBody s_nth_order) (defScope s_nth_order) .none kV15 dc15 pm15 an15 cd15 ct15), sl15⟩) (c15 : PySem.W.codeIn K cd15 "nth_order" = true) (k15 : PySem.W.keepIn K (.ref f15) = true)
    (a16 : PySem.W.nsIn K mainGlobals "order_rank" = some (some (.ref f16))) (l16 : K.lookup f16 = some ⟨oc16, od16, .func (PySem.W.fnOf "order_rank" "order_rank" (defArgs s_order_rank) (defBody s_order_rank) (defScope s_order_rank) .none kV16 dc16 pm16 an16 cd16 ct16), sl16⟩) (c16 : PySem.W.codeIn K cd16 "order_rank" = true) (k16 : PySem.W.keepIn K (.ref f16) = true)
    (a17 : PySem.W.nsIn K mainGlobals "_law_pool" = some (some (.ref f17))) (l17 : K.lookup f17 = some ⟨oc17, od17, .func (PySem.W.fnOf "_law_pool" "_law_pool" (defArgs s_law_pool) (defBody s_law_pool) (defScope s_law_pool) .none kV17 dc17 pm17 an17 cd17 ct17), sl17⟩) (c17 : PySem.W.codeIn K cd17 "_law_pool" = true) (k17 : PySem.W.keepIn K (.ref f17) = true)
    (a18 : PySem.W.nsIn K mainGlobals "_law_draw" = some (some (.ref f18))) (l18 : K.lookup f18 = some ⟨oc18, od18, .func (PySem.W.fnOf "_law_draw" "_law_draw" (defArgs s_law_draw) (defBody s_law_draw) (defScope s_law_draw) .none kV18 dc18 pm18 an18 cd18 ct18), sl18⟩) (c18 : PySem.W.codeIn K cd18 "_law_draw" = true) (k18 : PySem.W.keepIn K (.ref f18) = true)
    (a19 : PySem.W.nsIn K mainGlobals "_law_net" = some (some (.ref f19))) (l19 : K.lookup f19 = some ⟨oc19, od19, .func (PySem.W.fnOf "_law_net" "_law_net" (defArgs s_law_net) (defBody s_law_net) (defScope s_law_net) .none kV19 dc19 pm19 an19 cd19 ct19), sl19⟩) (c19 : PySem.W.codeIn K cd19 "_law_net" = true) (k19 : PySem.W.keepIn K (.ref f19) = true)
    (a20 : PySem.W.nsIn K mainGlobals "_law_every" = some (some (.ref f20))) (l20 : K.lookup f20 = some ⟨oc20, od20, .func (PySem.W.fnOf "_law_every" "_law_every" (defArgs s_law_every) (defBody s_law_every) (defScope s_law_every) .none kV20 dc20 pm20 an20 cd20 ct20), sl20⟩) (c20 : PySem.W.codeIn K cd20 "_law_every" = true) (k20 : PySem.W.keepIn K (.ref f20) = true)
    (a21 : PySem.W.nsIn K mainGlobals "_law_right" = some (some (.ref f21))) (l21 : K.lookup f21 = some ⟨oc21, od21, .func (PySem.W.fnOf "_law_right" "_law_right" (defArgs s_law_right) (defBody s_law_right) (defScope s_law_right) .none kV21 dc21 pm21 an21 cd21 ct21), sl21⟩) (c21 : PySem.W.codeIn K cd21 "_law_right" = true) (k21 : PySem.W.keepIn K (.ref f21) = true)
    (a22 : PySem.W.nsIn K mainGlobals "law" = some (some (.ref f22))) (l22 : K.lookup f22 = some ⟨oc22, od22, .func (PySem.W.fnOf "law" "law" (defArgs s_law) (defBody s_law) (defScope s_law) .none kV22 dc22 pm22 an22 cd22 ct22), sl22⟩) (c22 : PySem.W.codeIn K cd22 "law" = true) (k22 : PySem.W.keepIn K (.ref f22) = true)
    (q_BITS : PySem.W.nsIn K mainGlobals "BITS" = some (some (.ref tA_BITS))) (ql_BITS : K.lookup tA_BITS = some ⟨.type "tuple", tD_BITS, .seq #[.int 1 tt_BITS_0, .int 2 tt_BITS_1, .int 4 tt_BITS_2, .int 8 tt_BITS_3, .int 16 tt_BITS_4, .int 32 tt_BITS_5, .int 64 tt_BITS_6, .int 128 tt_BITS_7, .int 256 tt_BITS_8, .int 512 tt_BITS_9, .int 1024 tt_BITS_10, .int 2048 tt_BITS_11] tN_BITS, tS_BITS⟩)
    (q_MOST_PAGES : PySem.W.nsIn K mainGlobals "MOST_PAGES" = some (some (.int 12 tt_MOST_PAGES)))
    (z_abs : PySem.W.nsIn K mainGlobals "abs" = some none)
    (z_all : PySem.W.nsIn K mainGlobals "all" = some none)
    (z_bool : PySem.W.nsIn K mainGlobals "bool" = some none)
    (z_dict : PySem.W.nsIn K mainGlobals "dict" = some none)
    (z_enumerate : PySem.W.nsIn K mainGlobals "enumerate" = some none)
    (z_int : PySem.W.nsIn K mainGlobals "int" = some none)
    (z_isinstance : PySem.W.nsIn K mainGlobals "isinstance" = some none)
    (z_len : PySem.W.nsIn K mainGlobals "len" = some none)
    (z_list : PySem.W.nsIn K mainGlobals "list" = some none)
    (z_max : PySem.W.nsIn K mainGlobals "max" = some none)
    (z_min : PySem.W.nsIn K mainGlobals "min" = some none)
    (z_range : PySem.W.nsIn K mainGlobals "range" = some none)
    (z_repr : PySem.W.nsIn K mainGlobals "repr" = some none)
    (z_set : PySem.W.nsIn K mainGlobals "set" = some none)
    (z_sorted : PySem.W.nsIn K mainGlobals "sorted" = some none)
    (z_sum : PySem.W.nsIn K mainGlobals "sum" = some none)
    (z_zip : PySem.W.nsIn K mainGlobals "zip" = some none) :
    ∃ fd : FuncData, (∀ (s : Shared) (v : Value), BindsTo s fd ⟨[v], []⟩ [("_law_script", v)]) ∧ ∀ base : Heap, K.In base → base.Ns mainGlobals mg → FnG l.prog w K mg base CX0 7 fa fd ["_law_script"] (spLaw K) := by
  have e := hfa.symm.trans (PySem.W.mg_of X G a22)
  cases e
  let T : Txt K mg := ⟨f0, _, fun_mk (st := s_is_integer) l0 c0 k0, PySem.W.mg_of X G a0, (fun_mk (st := s_is_integer) l0 c0 k0).binds fun _ _ _ _ _ _ us hl => match us, hl with | [_, _, _], _ => rfl,
    f1, _, fun_mk (st := s_check_number) l1 c1 k1, PySem.W.mg_of X G a1, (fun_mk (st := s_check_number) l1 c1 k1).binds fun _ _ _ _ _ _ us hl => match us, hl with | [_, _, _], _ => rfl,
    f2, _, fun_mk (st := s_is_row) l2 c2 k2, PySem.W.mg_of X G a2, (fun_mk (st := s_is_row) l2 c2 k2).binds fun _ _ _ _ _ _ us hl => match us, hl with | [_, _, _], _ => rfl,
    f3, _, fun_mk (st := s_is_site) l3 c3 k3, PySem.W.mg_of X G a3, (fun_mk (st := s_is_site) l3 c3 k3).binds fun _ _ _ _ _ _ us hl => match us, hl with | [_], _ => rfl,
    f4, _, fun_mk (st := s_check_site) l4 c4 k4, PySem.W.mg_of X G a4, (fun_mk (st := s_check_site) l4 c4 k4).binds fun _ _ _ _ _ _ us hl => match us, hl with | [_], _ => rfl,
    f5, _, fun_mk (st := s_check_pages) l5 c5 k5, PySem.W.mg_of X G a5, (fun_mk (st := s_check_pages) l5 c5 k5).binds fun _ _ _ _ _ _ us hl => match us, hl with | [_, _], _ => rfl,
    f6, _, fun_mk (st := s_is_linked_on) l6 c6 k6, PySem.W.mg_of X G a6, (fun_mk (st := s_is_linked_on) l6 c6 k6).binds fun _ _ _ _ _ _ us hl => match us, hl with | [_, _], _ => rfl,
    f7, _, fun_mk (st := s_is_trail_on) l7 c7 k7, PySem.W.mg_of X G a7, (fun_mk (st := s_is_trail_on) l7 c7 k7).binds fun _ _ _ _ _ _ us hl => match us, hl with | [_, _], _ => rfl,
    f8, _, fun_mk (st := s_bits_of) l8 c8 k8, PySem.W.mg_of X G a8, (fun_mk (st := s_bits_of) l8 c8 k8).binds fun _ _ _ _ _ _ us hl => match us, hl with | [_], _ => rfl,
    f9, _, fun_mk (st := s_has_bit) l9 c9 k9, PySem.W.mg_of X G a9, (fun_mk (st := s_has_bit) l9 c9 k9).binds fun _ _ _ _ _ _ us hl => match us, hl with | [_, _], _ => rfl,
    f10, _, fun_mk (st := s_ways_on) l10 c10 k10, PySem.W.mg_of X G a10, (fun_mk (st := s_ways_on) l10 c10 k10).binds fun _ _ _ _ _ _ us hl => match us, hl with | [_, _], _ => rfl,
    f11, _, fun_mk (st := s_number_behind) l11 c11 k11, PySem.W.mg_of X G a11, (fun_mk (st := s_number_behind) l11 c11 k11).binds fun _ _ _ _ _ _ us hl => match us, hl with | [_, _, _], _ => rfl,
    f12, _, fun_mk (st := s_number_of_orders) l12 c12 k12, PySem.W.mg_of X G a12, (fun_mk (st := s_number_of_orders) l12 c12 k12).binds fun _ _ _ _ _ _ us hl => match us, hl with | [_, _], _ => rfl,
    f13, _, fun_mk (st := s_next_pages) l13 c13 k13, PySem.W.mg_of X G a13, (fun_mk (st := s_next_pages) l13 c13 k13).binds fun _ _ _ _ _ _ us hl => match us, hl with | [_, _, _], _ => rfl,
    f14, _, fun_mk (st := s_count_orders) l14 c14 k14, PySem.W.mg_of X G a14, (fun_mk (st := s_count_orders) l14 c14 k14).binds fun _ _ _ _ _ _ us hl => match us, hl with | [_, _], _ => rfl,
    f15, _, fun_mk (st := s_nth_order) l15 c15 k15, PySem.W.mg_of X G a15, (fun_mk (st := s_nth_order) l15 c15 k15).binds fun _ _ _ _ _ _ us hl => match us, hl with | [_, _, _], _ => rfl,
    f16, _, fun_mk (st := s_order_rank) l16 c16 k16, PySem.W.mg_of X G a16, (fun_mk (st := s_order_rank) l16 c16 k16).binds fun _ _ _ _ _ _ us hl => match us, hl with | [_, _], _ => rfl,
    f17, _, fun_mk (st := s_law_pool) l17 c17 k17, PySem.W.mg_of X G a17, (fun_mk (st := s_law_pool) l17 c17 k17).binds fun _ _ _ _ _ _ us hl => match us, hl with | [_, _], _ => rfl,
    f18, _, fun_mk (st := s_law_draw) l18 c18 k18, PySem.W.mg_of X G a18, (fun_mk (st := s_law_draw) l18 c18 k18).binds fun _ _ _ _ _ _ us hl => match us, hl with | [_, _], _ => rfl,
    f19, _, fun_mk (st := s_law_net) l19 c19 k19, PySem.W.mg_of X G a19, (fun_mk (st := s_law_net) l19 c19 k19).binds fun _ _ _ _ _ _ us hl => match us, hl with | [_, _, _], _ => rfl,
    f20, _, fun_mk (st := s_law_every) l20 c20 k20, PySem.W.mg_of X G a20, (fun_mk (st := s_law_every) l20 c20 k20).binds fun _ _ _ _ _ _ us hl => match us, hl with | [_, _], _ => rfl,
    f21, _, fun_mk (st := s_law_right) l21 c21 k21, PySem.W.mg_of X G a21, (fun_mk (st := s_law_right) l21 c21 k21).binds fun _ _ _ _ _ _ us hl => match us, hl with | [_, _], _ => rfl,
    fa, _, fun_mk (st := s_law) l22 c22 k22, PySem.W.mg_of X G a22, (fun_mk (st := s_law) l22 c22 k22).binds fun _ _ _ _ _ _ us hl => match us, hl with | [_], _ => rfl,
    BC.Fun.kb (fun_mk (st := s_count_orders) l14 c14 k14) fun _ _ _ _ _ _ us ws h1 h2 => match us, h1, ws, h2 with | [], _, [_, _], _ => rfl,
    BC.Fun.kb (fun_mk (st := s_nth_order) l15 c15 k15) fun _ _ _ _ _ _ us ws h1 h2 => match us, h1, ws, h2 with | [], _, [_, _, _], _ => rfl,
    BC.Fun.kb (fun_mk (st := s_order_rank) l16 c16 k16) fun _ _ _ _ _ _ us ws h1 h2 => match us, h1, ws, h2 with | [], _, [_, _], _ => rfl,
    tA_BITS, PySem.W.mg_of X G q_BITS, ⟨_, _, _, ql_BITS, rfl, rfl, sz_ok (Nat.le_of_ble_eq_true rfl), (.cons ⟨_, rfl⟩ (.cons ⟨_, rfl⟩ (.cons ⟨_, rfl⟩ (.cons ⟨_, rfl⟩ (.cons ⟨_, rfl⟩ (.cons ⟨_, rfl⟩ (.cons ⟨_, rfl⟩ (.cons ⟨_, rfl⟩ (.cons ⟨_, rfl⟩ (.cons ⟨_, rfl⟩ (.cons ⟨_, rfl⟩ (.cons ⟨_, rfl⟩ .nil))))))))))))⟩,
    tt_MOST_PAGES, PySem.W.mg_of X G q_MOST_PAGES,
    PySem.W.mg_none_of X G z_abs,
    PySem.W.mg_none_of X G z_all,
    PySem.W.mg_none_of X G z_bool,
    PySem.W.mg_none_of X G z_dict,
    PySem.W.mg_none_of X G z_enumerate,
    PySem.W.mg_none_of X G z_int,
    PySem.W.mg_none_of X G z_isinstance,
    PySem.W.mg_none_of X G z_len,
    PySem.W.mg_none_of X G z_list,
    PySem.W.mg_none_of X G z_max,
    PySem.W.mg_none_of X G z_min,
    PySem.W.mg_none_of X G z_range,
    PySem.W.mg_none_of X G z_repr,
    PySem.W.mg_none_of X G z_set,
    PySem.W.mg_none_of X G z_sorted,
    PySem.W.mg_none_of X G z_sum,
    PySem.W.mg_none_of X G z_zip⟩
  exact ⟨T.fd_law, fun s v => .of_eq rfl, fun base _ _ => ok_law T⟩

end LW
open PySem PySem.W PyProof.Rows
set_option maxHeartbeats 0 in
theorem PySem.Challenge.cw_breadcrumbs_k80_orders_of_few_pages_holds : PySem.Challenge.rw_breadcrumbs_k80_orders_of_few_pages.Holds := by
  w_on; o_law; k_head; (case hw => w_witness2)
  k_fill
  refine BC.walk_G (l := PySem.Challenge.rw_breadcrumbs_k80_orders_of_few_pages) (n := 63) (k := 7) (x := "_law_script") (sp := fun w => LW.spLaw _) rfl (by decide) rfl ⟨rfl, by decide, by decide⟩ (fun w h Y => PySem.W.kIn_of Y) ?F (fun w H a ns hl hS => ⟨a, ns, rfl, hS, hl, fun _ => rfl⟩)
  case F =>
    intro w mg fa h KX G hmg
    refine' LW.all_mk KX G hmg ?a0 ?l0 ?c0 ?k0 ?a1 ?l1 ?c1 ?k1 ?a2 ?l2 ?c2 ?k2 ?a3 ?l3 ?c3 ?k3 ?a4 ?l4 ?c4 ?k4 ?a5 ?l5 ?c5 ?k5 ?a6 ?l6 ?c6 ?k6 ?a7 ?l7 ?c7 ?k7 ?a8 ?l8 ?c8 ?k8 ?a9 ?l9 ?c9 ?k9 ?a10 ?l10 ?c10 ?k10 ?a11 ?l11 ?c11 ?k11 ?a12 ?l12 ?c12 ?k12 ?a13 ?l13 ?c13 ?k13 ?a14 ?l14 ?c14 ?k14 ?a15 ?l15 ?c15 ?k15 ?a16 ?l16 ?c16 ?k16 ?a17 ?l17 ?c17 ?k17 ?a18 ?l18 ?c18 ?k18 ?a19 ?l19 ?c19 ?k19 ?a20 ?l20 ?c20 ?k20 ?a21 ?l21 ?c21 ?k21 ?a22 ?l22 ?c22 ?k22 ?q_BITS ?ql_BITS ?q_MOST_PAGES ?z_abs ?z_all ?z_bool ?z_dict ?z_enumerate ?z_int ?z_isinstance ?z_len ?z_list ?z_max ?z_min ?z_range ?z_repr ?z_set ?z_sorted ?z_sum ?z_zip
    (case a0 => k_is); (case l0 => k_is); (case c0 => k_is); (case k0 => k_is); (case a1 => k_is); (case l1 => k_is); (case c1 => k_is); (case k1 => k_is); (case a2 => k_is); (case l2 => k_is); (case c2 => k_is); (case k2 => k_is); (case a3 => k_is); (case l3 => k_is); (case c3 => k_is); (case k3 => k_is); (case a4 => k_is); (case l4 => k_is); (case c4 => k_is); (case k4 => k_is); (case a5 => k_is); (case l5 => k_is); (case c5 => k_is); (case k5 => k_is); (case a6 => k_is); (case l6 => k_is); (case c6 => k_is); (case k6 => k_is); (case a7 => k_is); (case l7 => k_is); (case c7 => k_is); (case k7 => k_is); (case a8 => k_is); (case l8 => k_is); (case c8 => k_is); (case k8 => k_is); (case a9 => k_is); (case l9 => k_is); (case c9 => k_is); (case k9 => k_is); (case a10 => k_is); (case l10 => k_is); (case c10 => k_is); (case k10 => k_is); (case a11 => k_is); (case l11 => k_is); (case c11 => k_is); (case k11 => k_is); (case a12 => k_is); (case l12 => k_is); (case c12 => k_is); (case k12 => k_is); (case a13 => k_is); (case l13 => k_is); (case c13 => k_is); (case k13 => k_is); (case a14 => k_is); (case l14 => k_is); (case c14 => k_is); (case k14 => k_is); (case a15 => k_is); (case l15 => k_is); (case c15 => k_is); (case k15 => k_is); (case a16 => k_is); (case l16 => k_is); (case c16 => k_is); (case k16 => k_is); (case a17 => k_is); (case l17 => k_is); (case c17 => k_is); (case k17 => k_is); (case a18 => k_is); (case l18 => k_is); (case c18 => k_is); (case k18 => k_is); (case a19 => k_is); (case l19 => k_is); (case c19 => k_is); (case k19 => k_is); (case a20 => k_is); (case l20 => k_is); (case c20 => k_is); (case k20 => k_is); (case a21 => k_is); (case l21 => k_is); (case c21 => k_is); (case k21 => k_is); (case a22 => k_is); (case l22 => k_is); (case c22 => k_is); (case k22 => k_is); (case q_BITS => k_is); (case ql_BITS => k_is); (case q_MOST_PAGES => k_is); (case z_abs => k_is); (case z_all => k_is); (case z_bool => k_is); (case z_dict => k_is); (case z_enumerate => k_is); (case z_int => k_is); (case z_isinstance => k_is); (case z_len => k_is); (case z_list => k_is); (case z_max => k_is); (case z_min => k_is); (case z_range => k_is); (case z_repr => k_is); (case z_set => k_is); (case z_sorted => k_is); (case z_sum => k_is); (case z_zip => k_is)

