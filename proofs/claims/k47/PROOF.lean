import PyProof.Rows.All
import Wide.All
import OpenK.AllK
import Wide.FinOn
import HandS.ForMost
import HandS.IsInst
import HandS.Style
import HandS.Wide
import HandS.Evl
import HandS.Zip
import HandS.SortKw
import HandS.Conv
import HandS.TupLe
import HandS.RaiseMore
import HandS.Defaults
import HandS.SetFor
import HandS.Strs
import HandS.Dict
import HandS.FStr
import HandS.Text
import PyProof.StrBlock2
import PyProof.Rows.StrIntSpec
import PyProof.FString3
import HandS.ExcIs
import HandS.ExcValue
import HandS.TryOnly
import HandS.HotCalls
import HandS.WordsExc
import HandS.ExcOwn
import HandS.CallSlots
import PyProof.CollectIter
import HandS.Steps
import PySem.Challenge.RW_breadcrumbs_k47_errors_of_loops
set_option Elab.async false
set_option linter.all false
set_option maxRecDepth 100000
set_option maxHeartbeats 4000000
namespace BC
open PySem PySem.Spec PyProof.Rows L2
section
variable {X : Cx}
/-- a power of a number of any size that matters here -/
def CPowX (i j : Int) : Prop := 0 ≤ j ∧ j ≤ 1000 ∧ i.natAbs.log2 < 100000
theorem op_powX : OpR X (binaryOp .Pow) (rI CPowX fun i j => .int (i ^ j.toNat)) := opI fun i j _ _ _ _ _ hc q => by
  obtain ⟨h0, h1, h2⟩ := hc
  refine pow_int h0 ?_ q
  have hb : Builtin.Int.intBits i ≤ 100000 := by
    unfold Builtin.Int.intBits
    split <;> omega
  have h3 : (Builtin.Int.intBits i : Int) * j ≤ 100000 * j := Int.mul_le_mul_of_nonneg_right (by omega) h0
  omega
/-- a product: one factor small, or both of bounded size -/
def CMulX (i j : Int) : Prop := CMul i j ∨ CMulW i j
theorem op_mulX : OpR X (binaryOp .Mult) (rI CMulX fun i j => .int (i * j)) := opI fun _ _ _ _ _ _ _ hc q => by
  rcases hc with hc | hc
  · exact mul_int q hc.ok
  · exact mul_int q hc.ok
theorem op_fdivX : OpR X (binaryOp .FloorDiv) (rI CDivW fun i j => .int (i / j)) := op_fdivW
theorem op_modX : OpR X (binaryOp .Mod) (rI (fun _ j => 0 < j) fun i j => .int (i % j)) := opI fun i j _ _ _ _ _ hc q => by
  refine mod_int' (show j ≠ 0 by omega) ?_
  rw [Int.fmod_eq_emod_of_nonneg i (by omega)]
  exact q
def ipC (C : Int → Int → Prop) (f : Int → Int → Int) : TIp := fun x y H Q => ∃ i j, x = .int i ∧ y = .int j ∧ C i j ∧ Q (.int (f i j)) H
theorem ip_mulX : PIp X .Mult (ipC CMulX fun i j => i * j) := by
  intro pins s σ H x y v u Q I r1 r2 h
  obtain ⟨i, j, rfl, rfl, hc, q⟩ := h
  obtain ⟨t, rfl⟩ := r1
  obtain ⟨t', rfl⟩ := r2
  have ok : IntMulOk i j := by
    rcases hc with hc | hc
    · exact hc.ok
    · exact hc.ok
  exact imul_int ⟨.int (i * j), H, I.tok _, ⟨_, rfl⟩, q⟩ ok
end
end BC

/-! ### readings opened one construct at a time: full applications alone, so that what stands in a loop is left closed -/
namespace BC
open PySem PySem.Spec PyProof.Rows L2
section
variable {K : PySem.W.Frag} {σ : L2.St} {H : Hp} {Q : VK} {QT : Bool → Hp → Prop} {QA : List V → Hp → Prop} {D : Ends} {ta tb tc : TE} {t u : TT} {a : TA} {r r' : R2} {i j : Nat} {v x y : V} {s1 s2 : TS} {g : TG} {QG : L2.St → Hp → Prop}
def LoopG (J : It) (g : TG) (tb : TS) : TS := fun D σ H => ∃ W : Nat → Nat → L2.St → Hp → Prop, (∃ m, W 0 m σ H) ∧ ∀ i m σ H, W i m σ H →
  (J.stop i H ∧ D.nx σ H) ∨ (J.go i H ∧ ∃ N : L2.St → Hp → Prop, (∀ σ' H', N σ' H' → ∃ m', m' < m ∧ W (i + 1) m' σ' H') ∧ ∀ x H', J.yld i H x H' → g x σ H' fun σ2 H2 => tb { D with nx := N, ct := N, bk := D.nx } σ2 H2)
def LcG (J : It) (g : TG) (tt : TT) (te : TE) (vs : List Nat) (σ : L2.St) (Dl : Addr) (H1 : Hp) (Q : VK) : Prop := ∃ W : Nat → Nat → Hp → Prop, (∃ m, W 0 m (upd H1 Dl (.lst []))) ∧ ∀ i m H, W i m H →
  (J.stop i H ∧ Q (.ref Dl) H) ∨ (J.go i H ∧ ∃ Nx : Hp → Prop, (∀ H', Nx H' → ∃ m', m' < m ∧ W (i + 1) m' H') ∧ ∀ x H', J.yld i H x H' → g x (wipe σ vs) H' fun σ2 H2 => wipe σ2 vs = wipe σ vs ∧ tt σ2 H2 fun b H3 =>
    if b = true then te σ2 H3 fun y H4 => ∃ acc, H4 Dl = some (.lst acc) ∧ acc.length < sizeLine ∧ Nx (upd H4 Dl (.lst (acc ++ [y]))) else Nx H3)
theorem x_seq : tSeq s1 s2 D σ H = s1 { D with nx := s2 D } σ H := rfl
theorem x_next : tNext D σ H = D.nx σ H := rfl
theorem x_brk : tBreak D σ H = D.bk σ H := rfl
theorem x_cnt : tCont D σ H = D.ct σ H := rfl
theorem x_nev : tNever D σ H = False := rfl
theorem x_ret : tRet ta D σ H = ta σ H D.rt := rfl
theorem x_retN : tRetN D σ H = D.rt .non H := rfl
theorem x_drop : tDrop ta D σ H = ta σ H (fun _ H1 => D.nx σ H1) := rfl
theorem x_ifS : tIfS t s1 s2 D σ H = t σ H (fun b H1 => if b = true then s1 D σ H1 else s2 D σ H1) := rfl
theorem x_asg : tAsg ta g D σ H = ta σ H (fun x H1 => g x σ H1 D.nx) := rfl
theorem x_gn : gName i v σ H QG = QG (σ.set i (some v)) H := rfl
theorem x_gsub {o ix : TE} {st : TSet} : gSub o ix st v σ H QG = o σ H (fun o H1 => ix σ H1 fun i H2 => st o i v H2 fun H3 => QG σ H3) := rfl
theorem x_par : tPar i j a D σ H = a σ H (fun vs H1 => ∃ v w, vs = [v, w] ∧ D.nx ((σ.set i (some v)).set j (some w)) H1) := rfl
theorem x_par3 {l : Nat} : tPar3 i j l a D σ H = a σ H (fun vs H1 => ∃ u v w, vs = [u, v, w] ∧ D.nx (((σ.set i (some u)).set j (some v)).set l (some w)) H1) := rfl
theorem x_aug {ti : TIp} : tAug i ta ti D σ H = ∃ x, σ[i]? = some (some x) ∧ ta σ H fun y H1 => ti x y H1 fun z H2 => D.nx (σ.set i (some z)) H2 := rfl
theorem x_for {wi : TI} : tFor wi g s1 D σ H = wi σ H (fun J H1 => LoopG J g s1 D σ H1) := rfl
theorem x_lc {wi : TI} {vs : List Nat} : tLc wi g t ta vs σ H Q = wi σ H (fun J H1 => ∀ Dl, H1 Dl = none → LcG J g t ta vs σ Dl H1 Q) := rfl
theorem x_rng1 {R : It → Hp → Prop} : iRng1 a σ H R = a σ H (fun vs H1 => ∃ j : Int, vs = [.int j] ∧ -(2 ^ 62) ≤ j ∧ j < 2 ^ 62 ∧ R (Itr 0 j.toNat) H1) := rfl
theorem x_rng2 {R : It → Hp → Prop} : iRng2 a σ H R = a σ H (fun vs H1 => ∃ i j : Int, vs = [.int i, .int j] ∧ (-(2 ^ 62) ≤ i ∧ i < 2 ^ 62 ∧ -(2 ^ 62) ≤ j ∧ j < 2 ^ 62) ∧ R (Itr i (j - i).toNat) H1) := rfl
theorem x_rng3 {R : It → Hp → Prop} : iRng3 a σ H R = a σ H (fun vs H1 => ∃ (i j c : Int) (n : Nat), vs = [.int i, .int j, .int c] ∧ RgC i j c n ∧ R (Itc i c n) H1) := rfl
theorem x_ilist {R : It → Hp → Prop} : iList K ta σ H R = ta σ H (fun x H1 => ∃ a, x = .ref a ∧ (∃ xs, SqL K H1 a xs) ∧ R (Itl K a) H1) := rfl
theorem x_itup {R : It → Hp → Prop} : iTup K ta σ H R = ta σ H (fun x H1 => ∃ a, x = .ref a ∧ (∃ xs, SqT K H1 a xs) ∧ R (Itt K a) H1) := rfl
theorem x_ienum {R : It → Hp → Prop} : iEnum K a σ H R = a σ H (fun vs H1 => ∃ a xs, vs = [.ref a] ∧ SqL K H1 a xs ∧ R (Ite K a) H1) := rfl
theorem x_izip {R : It → Hp → Prop} : iZip K a σ H R = a σ H (fun vs H1 => ∃ a b xs ys, vs = [.ref a, .ref b] ∧ SqL K H1 a xs ∧ SqL K H1 b ys ∧ R (Itz K a b) H1) := rfl
theorem x_istr {R : It → Hp → Prop} : iStr ta σ H R = ta σ H (fun v H1 => ∃ x, v = .str x ∧ R (Its x) H1) := rfl
theorem x_var : tVar i σ H Q = ∃ v, σ[i]? = some (some v) ∧ Q v H := rfl
theorem x_c : tC v σ H Q = Q v H := rfl
theorem x_op : tOp r ta tb σ H Q = ta σ H (fun x H1 => tb σ H1 fun y H2 => r x y H2 Q) := rfl
theorem x_un {ru : V → Hp → VK → Prop} : tUn ru ta σ H Q = ta σ H (fun x H1 => ru x H1 Q) := rfl
theorem x_test : tTest ta σ H QT = ta σ H (fun x H' => ∃ k, x = .bl k ∧ QT k H') := rfl
theorem x_b : tB ta σ H QT = ta σ H (fun x H' => ∃ k, x = .bl k ∧ QT k H') := rfl
theorem x_chain : tChain r r' ta tb tc σ H Q = ta σ H (fun x H1 => tb σ H1 fun y H2 => r x y H2 fun z H3 => ∃ k, z = .bl k ∧ (if k = true then tc σ H3 fun w' H4 => r' y w' H4 Q else Q (.bl false) H3)) := rfl
theorem x_and : tAnd t u σ H QT = t σ H (fun c H1 => if c = true then u σ H1 QT else QT false H1) := rfl
theorem x_or : tOr t u σ H QT = t σ H (fun c H1 => if c = true then QT true H1 else u σ H1 QT) := rfl
theorem x_not : tNot t σ H QT = t σ H (fun c H1 => QT (!c) H1) := rfl
theorem x_andV : tAndV ta tb σ H Q = ta σ H (fun x H1 => ∃ c, x = .bl c ∧ if c = true then tb σ H1 Q else Q (.bl false) H1) := rfl
theorem x_orV : tOrV ta tb σ H Q = ta σ H (fun x H1 => ∃ c, x = .bl c ∧ if c = true then Q (.bl true) H1 else tb σ H1 Q) := rfl
theorem x_notV : tNotV ta σ H Q = ta σ H (fun x H1 => ∃ c, x = .bl c ∧ Q (.bl (!c)) H1) := rfl
theorem x_ife : tIf t ta tb σ H Q = t σ H (fun c H1 => if c = true then ta σ H1 Q else tb σ H1 Q) := rfl
theorem x_nil : tNil σ H QA = QA [] H := rfl
theorem x_cons {rest : TA} : tCons ta rest σ H QA = ta σ H (fun x H1 => rest σ H1 fun xs H2 => QA (x :: xs) H2) := rfl
theorem x_lst : tLst a σ H Q = a σ H (fun xs H1 => xs.length ≤ sizeLine ∧ ∀ p, H1 p = none → Q (.ref p) (upd H1 p (.lst xs))) := rfl
theorem x_tup : tTup a σ H Q = a σ H (fun xs H1 => xs.length ≤ sizeLine ∧ ∀ p, H1 p = none → Q (.ref p) (upd H1 p (.tup xs))) := rfl
theorem x_cb {rc : List V → Hp → VK → Prop} : tCB rc a σ H Q = a σ H (fun vs H1 => rc vs H1 Q) := rfl
theorem x_call {sp : Sp} {dvs : List V} {E : XK} : tCall sp dvs E a σ H Q = a σ H (fun vs H1 => sp (vs ++ dvs) H1 Q E) := rfl
theorem x_callK {sp : Sp} {gV : List V → List V → List V} {E : XK} {b : TA} : tCallK sp gV E a b σ H Q = a σ H (fun vs H1 => b σ H1 fun zs H2 => sp (gV vs zs) H2 Q E) := rfl
theorem x_bm {T : String} {rm : V → List V → Hp → VK → Prop} : tBM K T rm ta a σ H Q = ta σ H (fun x H1 => tyV K T x H1 ∧ a σ H1 fun xs H2 => rm x xs H2 Q) := rfl
theorem x_bm0 {T : String} {rm : V → List V → Hp → VK → Prop} : tBM0 K T rm ta σ H Q = ta σ H (fun x H1 => tyV K T x H1 ∧ rm x [] H1 Q) := rfl
theorem x_sl {rs : V → Option Int → Option Int → Hp → VK → Prop} {tl th : TO} : tSl rs ta tl th σ H Q = ta σ H (fun x H1 => tl σ H1 fun l H2 => th σ H2 fun u H3 => rs x l u H3 Q) := rfl
theorem x_nopart {QO : Option Int → Hp → Prop} : tNoPart σ H QO = QO none H := rfl
theorem x_part {QO : Option Int → Hp → Prop} : tPart ta σ H QO = ta σ H (fun x H1 => ∃ i, x = .int i ∧ QO (some i) H1) := rfl
theorem x_revL : tRevL K ta σ H Q = ta σ H (fun x H1 => ∃ a xs, x = .ref a ∧ SqL K H1 a xs ∧ ∀ p, H1 p = none → Q (.ref p) (upd H1 p (.lst xs.reverse))) := rfl
theorem x_I0 {f : Int → Int → V} {m n : Int} : rI0 f (.int m) (.int n) H Q ↔ Q (f m n) H := ⟨fun ⟨i, j, e1, e2, q⟩ => by cases e1; cases e2; exact q, fun q => ⟨m, n, rfl, rfl, q⟩⟩
theorem x_I {C : Int → Int → Prop} {f : Int → Int → V} {m n : Int} : rI C f (.int m) (.int n) H Q ↔ C m n ∧ Q (f m n) H := ⟨fun ⟨i, j, e1, e2, q⟩ => by cases e1; cases e2; exact q, fun q => ⟨m, n, rfl, rfl, q⟩⟩
theorem x_U {f : Int → V} {m : Int} : rU f (.int m) H Q ↔ Q (f m) H := ⟨fun ⟨i, e1, q⟩ => by cases e1; exact q, fun q => ⟨m, rfl, q⟩⟩
theorem x_ip {f : Int → Int → Int} {m n : Int} : ipI f (.int m) (.int n) H Q ↔ Q (.int (f m n)) H := ⟨fun ⟨i, j, e1, e2, q⟩ => by cases e1; cases e2; exact q, fun q => ⟨m, n, rfl, rfl, q⟩⟩
theorem x_ipC {C : Int → Int → Prop} {f : Int → Int → Int} {m n : Int} : ipC C f (.int m) (.int n) H Q ↔ C m n ∧ Q (.int (f m n)) H := ⟨fun ⟨i, j, e1, e2, q⟩ => by cases e1; cases e2; exact q, fun q => ⟨m, n, rfl, rfl, q⟩⟩
theorem x_eqI {m n : Int} : rEq (.int m) (.int n) H Q ↔ Q (.bl (decide (m = n))) H := by
  unfold rEq
  rw [show scal (V.int m) (V.int n) = true from rfl]
  by_cases e : m = n
  · subst e; simp
  · simp [e]
theorem x_neI {m n : Int} : rNe (.int m) (.int n) H Q ↔ Q (.bl (!decide (m = n))) H := by
  unfold rNe
  rw [show scal (V.int m) (V.int n) = true from rfl]
  by_cases e : m = n
  · subst e; simp
  · simp [e]
end
/-! ### the rules that speak of the written part, by its own name -/
section
variable {X : Cx} {K : PySem.W.Frag}
theorem k_pi_list {tg l : Expr} {tl : TE} (hK : X.K = K) (hl : PE X l tl) : PI X tg l (iList K tl) := by subst hK; exact pi_list hl
theorem k_pi_tup {tg l : Expr} {tl : TE} (hK : X.K = K) (hl : PE X l tl) : PI X tg l (iTup K tl) := by subst hK; exact pi_tup hl
theorem k_pi_enum {e : Expr} {ta : TA} {p pos tpos : Pos} {elts : List Expr} {kk : Nat} (hK : X.K = K) (hg : Gl X "enumerate") (hm : X.mg "enumerate" = none) (ha : PA X [e] ta) (hs : starEach [e] X.env = [(false, eval e X.env)] := by rfl) : PI X (.Tuple elts kk tpos) (.Call (.Name "enumerate" p) [e] [] pos) (iEnum K ta) := by subst hK; exact pi_enum hg hm ha hs
theorem k_pi_zip {e e2 : Expr} {ta : TA} {p pos tpos : Pos} {elts : List Expr} {kk : Nat} (hK : X.K = K) (hg : Gl X "zip") (hm : X.mg "zip" = none) (ha : PA X [e, e2] ta)
    (hs : starEach [e, e2] X.env = (false, eval e X.env) :: starEach [e2] X.env := by rfl) (hpl : (backTo pos (starEach [e2] X.env)).any (·.1) = false := by rfl) : PI X (.Tuple elts kk tpos) (.Call (.Name "zip" p) [e, e2] [] pos) (iZip K ta) := by subst hK; exact pi_zip hg hm ha hs hpl
theorem k_ix_list (hK : X.K = K) : IxR X (rIxL K) := by subst hK; exact ix_list
theorem k_ix_tup (hK : X.K = K) : IxR X (rIxT K) := by subst hK; exact ix_tup
theorem k_sl_list (hK : X.K = K) : SlR X (rSlL K) := by subst hK; exact sl_list
theorem k_in (hK : X.K = K) : OpR X (compareOp .In) (rIn K false) := by subst hK; exact op_in_seq
theorem k_notIn (hK : X.K = K) : OpR X (compareOp .NotIn) (rIn K true) := by subst hK; exact op_notIn_seq
theorem k_eqD (hK : X.K = K) (hu : X.A.units + 64 < cLine) : OpR X (compareOp .Eq) (rEqD K) := by subst hK; exact op_eqD hu
theorem k_neD (hK : X.K = K) (hu : X.A.units + 64 < cLine) : OpR X (compareOp .NotEq) (rNeD K) := by subst hK; exact op_neD hu
def rLen (K : PySem.W.Frag) : List V → Hp → VK → Prop := fun xs H Q => ∃ p ys, xs = [.ref p] ∧ (SqL K H p ys ∨ SqT K H p ys) ∧ Q (.int ys.length) H
def rListOf (K : PySem.W.Frag) : List V → Hp → VK → Prop := fun xs H Q => ∃ p ys, xs = [.ref p] ∧ (SqL K H p ys ∨ SqT K H p ys) ∧ ∀ l, H l = none → Q (.ref l) (upd H l (.lst ys))
def rTupOf (K : PySem.W.Frag) : List V → Hp → VK → Prop := fun xs H Q => ∃ p ys, xs = [.ref p] ∧ ((SqL K H p ys ∧ ∀ l, H l = none → Q (.ref l) (upd H l (.tup ys))) ∨ (SqT K H p ys ∧ Q (.ref p) H))
theorem k_len (hK : X.K = K) : CallR X (.builtin "len") (rLen K) := by subst hK; exact call_len_seq
theorem k_listOf (hK : X.K = K) : CallR X (.type "list") (rListOf K) := by subst hK; exact call_list_of
theorem k_tupOf (hK : X.K = K) : CallR X (.type "tuple") (rTupOf K) := by subst hK; exact call_tuple_of
theorem k_isi (hK : X.K = K) : CallR X (.builtin "isinstance") (rIsi K) := by subst hK; exact call_isi
theorem k_sum (hK : X.K = K) (hc : X.calm = true) : CallR X (.builtin "sum") (rSum K) := by subst hK; exact cr_sum hc
theorem k_all (hK : X.K = K) (hc : X.calm = true) : CallR X (.builtin "all") (rAll K) := by subst hK; exact cr_all hc
theorem k_any (hK : X.K = K) (hc : X.calm = true) : CallR X (.builtin "any") (rAny K) := by subst hK; exact cr_any hc
theorem k_sorted (hK : X.K = K) : CallR X (.builtin "sorted") (rSorted K) := by subst hK; exact cr_sorted
def tTruK (K : PySem.W.Frag) (ta : TE) : TT := fun σ H Q => ta σ H fun x H' => ∃ k, TruV K x H' k ∧ Q k H'
theorem k_truth {a : Expr} {ta : TE} (hK : X.K = K) (ha : PE X a ta) (he : ∀ whole, isTrue a X.env whole = (do let v ← whole; standAt a.pos; holding [v] (truthy v))) : PT X a (tTruK K ta) := by subst hK; exact pt_truth ha he
theorem k_tup {es : List Expr} {k n : Nat} {pos : Pos} {t : TGs} (hK : X.K = K) (hc : X.calm = true) (h : PGs X es t)
    (hn : (assignEach es X.env).length = n := by rfl) (hst : (assignEach es X.env).findIdx? (·.1) = none := by rfl) : PG X (.Tuple es k pos) (gTup K n t) := by subst hK; exact pg_tup hc h hn hst
theorem k_bm0 {T : String} {to : TE} {r : V → List V → Hp → VK → Prop} {e : Expr} (hK : X.K = K) (h : PE X e (tBM0 X.K T r to)) : PE X e (tBM0 K T r to) := by subst hK; exact h
theorem k_bm {T : String} {to : TE} {ta : TA} {r : V → List V → Hp → VK → Prop} {e : Expr} (hK : X.K = K) (h : PE X e (tBM X.K T r to ta)) : PE X e (tBM K T r to ta) := by subst hK; exact h
theorem k_rev {e : Expr} {te : TE} {k : Nat} {p1 p2 p3 pos : Pos} (hK : X.K = K) (he : PE X e te) : PE X (.Subscript e (.Slice none none (some (.UnaryOp .USub (.Constant (.int 1) k p1) p2)) p3) pos) (tRevL K te) := by subst hK; exact pe_revL he
theorem k_index (hK : X.K = K) : MtR X "list.index" (rIndex K) := by subst hK; exact mt_index
end
section
variable {K : PySem.W.Frag} {σ : L2.St} {H : Hp} {ta : TE} {QT : Bool → Hp → Prop}
theorem x_tru : tTruK K ta σ H QT = ta σ H (fun x H' => ∃ k, TruV K x H' k ∧ QT k H') := rfl
end
/-! ### loops -/
section
variable {K : PySem.W.Frag} {σ : L2.St} {H : Hp} {D : Ends} {g : TG} {tb : TS}
theorem lg_rng {lo : Int} {n : Nat} (Pv : Nat → L2.St → Hp → Prop) (h0 : Pv 0 σ H)
    (hs : ∀ i σ H, i < n → Pv i σ H → g (.int (lo + i)) σ H fun σ2 H2 => tb { D with nx := Pv (i + 1), ct := Pv (i + 1), bk := D.nx } σ2 H2) (hd : ∀ σ H, Pv n σ H → D.nx σ H) : LoopG (Itr lo n) g tb D σ H := for_range Pv h0 hs hd
theorem lg_rngC {lo c : Int} {n : Nat} (Pv : Nat → L2.St → Hp → Prop) (h0 : Pv 0 σ H)
    (hs : ∀ i σ H, i < n → Pv i σ H → g (.int (lo + (i : Nat) * c)) σ H fun σ2 H2 => tb { D with nx := Pv (i + 1), ct := Pv (i + 1), bk := D.nx } σ2 H2) (hd : ∀ σ H, Pv n σ H → D.nx σ H) : LoopG (Itc lo c n) g tb D σ H := for_rangeC Pv h0 hs hd
theorem lg_list {a : Addr} {xs : List V} (Pv : Nat → L2.St → Hp → Prop) (h0 : Pv 0 σ H) (hl : ∀ i σ H, i ≤ xs.length → Pv i σ H → SqL K H a xs)
    (hs : ∀ i x σ H, xs[i]? = some x → Pv i σ H → g x σ H fun σ2 H2 => tb { D with nx := Pv (i + 1), ct := Pv (i + 1), bk := D.nx } σ2 H2) (hd : ∀ σ H, Pv xs.length σ H → D.nx σ H) : LoopG (Itl K a) g tb D σ H := for_list Pv h0 hl hs hd
/-- enumerate over a list that stands still: each pair is a new tuple -/
theorem lg_enum {a : Addr} {xs : List V} (Pv : Nat → L2.St → Hp → Prop) (h0 : Pv 0 σ H) (hl : ∀ i σ H, i ≤ xs.length → Pv i σ H → SqL K H a xs)
    (hs : ∀ i x σ H T, xs[i]? = some x → Pv i σ H → H T = none → g (.ref T) σ (upd H T (.tup [.int (i : Nat), x])) fun σ2 H2 => tb { D with nx := Pv (i + 1), ct := Pv (i + 1), bk := D.nx } σ2 H2) (hd : ∀ σ H, Pv xs.length σ H → D.nx σ H) : LoopG (Ite K a) g tb D σ H := by
  refine ⟨fun i m σ H => m = xs.length - i ∧ i ≤ xs.length ∧ Pv i σ H, ⟨xs.length, by simp, Nat.zero_le _, h0⟩, ?_⟩
  rintro i m σ H ⟨rfl, hi, p⟩
  have q := hl i σ H hi p
  by_cases hlt : i < xs.length
  · refine .inr ⟨⟨xs, xs[i], q, by simp [hlt]⟩, Pv (i + 1), fun σ' H' p' => ⟨xs.length - (i + 1), by omega, rfl, hlt, p'⟩, fun x H' y => ?_⟩
    obtain ⟨T, x', rfl, hT, rfl, f⟩ := y
    exact hs i x' σ H T (f xs q) p hT
  · have e : i = xs.length := by omega
    subst e
    exact .inl ⟨⟨xs, q, Nat.le_refl _⟩, hd σ H p⟩
/-- a pair unpacked -/
theorem g_two {i j : Nat} {T : Addr} {x y : V} {QG : L2.St → Hp → Prop} (h : H T = some (.tup [x, y])) (q : QG ((σ.set i (some x)).set j (some y)) H) : gTup K 2 (gCons (gName i) (gCons (gName j) gNil)) (.ref T) σ H QG :=
  ⟨T, [x, y], rfl, .inl (.inl h), rfl, x, [y], rfl, y, [], rfl, rfl, q⟩
end
/-! ### comprehensions over lists whose elements are given by a function of the turn -/
section
variable {K : PySem.W.Frag} {σ : L2.St} {H1 : Hp} {g : TG} {tt : TT} {te : TE} {vs : List Nat} {Dl : Addr} {Q : VK}
theorem lc_g (n : Nat) {J : It} (Pv : Nat → Hp → Prop) (h0 : Pv 0 (upd H1 Dl (.lst []))) (hst : ∀ H, Pv n H → J.stop n H) (hgo : ∀ i H, i < n → Pv i H → J.go i H)
    (hs : ∀ i H x H', i < n → Pv i H → J.yld i H x H' → g x (wipe σ vs) H' fun σ2 H2 => wipe σ2 vs = wipe σ vs ∧ tt σ2 H2 fun b H3 =>
      if b = true then te σ2 H3 fun y H4 => ∃ acc, H4 Dl = some (.lst acc) ∧ acc.length < sizeLine ∧ Pv (i + 1) (upd H4 Dl (.lst (acc ++ [y]))) else Pv (i + 1) H3) (hd : ∀ H, Pv n H → Q (.ref Dl) H) : LcG J g tt te vs σ Dl H1 Q := by
  refine ⟨fun i m H => m = n - i ∧ i ≤ n ∧ Pv i H, ⟨n, by simp, Nat.zero_le _, h0⟩, ?_⟩
  rintro i m H ⟨rfl, hi, p⟩
  by_cases hlt : i < n
  · exact .inr ⟨hgo i H hlt p, Pv (i + 1), fun H' p' => ⟨n - (i + 1), by omega, rfl, hlt, p'⟩, fun x H' y => hs i H x H' hlt p y⟩
  · have e : i = n := by omega
    subst e
    exact .inl ⟨hst H p, hd H p⟩
end
/-! ### comprehensions that change nothing -/
section
variable {K : PySem.W.Frag} {σ : L2.St} {H1 : Hp} {g : TG} {tt : TT} {te : TE} {vs : List Nat} {Dl : Addr} {Q : VK}
def kept (n : Nat) (keep : Nat → Bool) (f : Nat → V) : List V := ((List.range n).filter keep).map f
theorem kept_yes {n : Nat} {k : Nat → Bool} {f : Nat → V} (h : k n = true) : kept (n + 1) k f = kept n k f ++ [f n] := by
  unfold kept
  rw [List.range_succ, List.filter_append, List.map_append]
  simp [h]
theorem kept_no {n : Nat} {k : Nat → Bool} {f : Nat → V} (h : k n = false) : kept (n + 1) k f = kept n k f := by
  unfold kept
  rw [List.range_succ, List.filter_append, List.map_append]
  simp [h]
theorem kept_len (n : Nat) (k : Nat → Bool) (f : Nat → V) : (kept n k f).length ≤ n := by
  unfold kept
  rw [List.length_map]
  exact Nat.le_trans (List.length_filter_le _ _) (by rw [List.length_range]; exact Nat.le_refl _)
theorem kept_all (n : Nat) (f : Nat → V) : kept n (fun _ => true) f = (List.range n).map f := by
  unfold kept
  rw [List.filter_eq_self.mpr (by simp)]
theorem lc_pure {J : It} (n : Nat) (item : Nat → L2.St) (keep : Nat → Bool) (f : Nat → V) (hD : H1 Dl = none) (hn : n ≤ 100000)
    (hst : ∀ H', Evl.Ex H1 H' → J.stop n H') (hgo : ∀ i H', i < n → Evl.Ex H1 H' → J.go i H')
    (hy : ∀ i H' x H'' (QG : L2.St → Hp → Prop), i < n → Evl.Ex H1 H' → J.yld i H' x H'' → (Evl.Ex H' H'' → QG (item i) H'') → g x (wipe σ vs) H'' QG)
    (hw : ∀ i, i < n → wipe (item i) vs = wipe σ vs) (ht : ∀ i, i < n → Evl.EvT tt (item i) H1 (keep i)) (he : ∀ i, i < n → keep i = true → Evl.Ev te (item i) H1 (f i))
    (hd : ∀ H', Evl.Ex H1 H' → H' Dl = some (.lst (kept n keep f)) → Q (.ref Dl) H') : LcG J g tt te vs σ Dl H1 Q := by
  refine lc_g n (fun i H' => Evl.Ex H1 H' ∧ H' Dl = some (.lst (kept i keep f))) ⟨Evl.Ex.new hD, upd_same⟩ (fun H' h => hst H' h.1) (fun i H' hi h => hgo i H' hi h.1) (fun i H' x H'' hi h y => ?_) (fun H' h => hd H' h.1 h.2)
  obtain ⟨e, hl⟩ := h
  refine hy i H' x H'' _ hi e y fun e2 => ⟨hw i hi, ht i hi H'' (e.trans e2) _ fun H3 e3 => ?_⟩
  have hl3 := e3 _ _ (e2 _ _ hl)
  cases hk : keep i with
  | false =>
    show (if false = true then _ else _)
    rw [if_neg Bool.false_ne_true, kept_no hk]
    exact ⟨(e.trans e2).trans e3, hl3⟩
  | true =>
    show (if true = true then _ else _)
    rw [if_pos rfl]
    refine he i hi hk H3 ((e.trans e2).trans e3) _ fun H4 e4 => ⟨_, e4 _ _ hl3, Nat.lt_of_lt_of_le (Nat.lt_of_le_of_lt (kept_len i keep f) hi) (Nat.le_trans hn (by decide)), ?_⟩
    rw [kept_yes hk]
    exact ⟨(((e.trans e2).trans e3).trans e4).mut hD, upd_same⟩
theorem tyes {σ : L2.St} {H : Hp} : Evl.EvT tYes σ H true := fun H1 _ _ q => q H1 (Evl.Ex.refl H1)
theorem lc_enum {a : Addr} {xs : List V} {j k : Nat} (keep : Nat → Bool) (f : Nat → V) (hx : SqL K H1 a xs) (hD : H1 Dl = none) (hn : xs.length ≤ 100000)
    (hw : ∀ u v : V, wipe (((wipe σ vs).set j (some u)).set k (some v)) vs = wipe σ vs)
    (ht : ∀ i x, xs[i]? = some x → Evl.EvT tt (((wipe σ vs).set j (some (.int (i : Nat)))).set k (some x)) H1 (keep i))
    (he : ∀ i x, xs[i]? = some x → keep i = true → Evl.Ev te (((wipe σ vs).set j (some (.int (i : Nat)))).set k (some x)) H1 (f i))
    (hd : ∀ H', Evl.Ex H1 H' → H' Dl = some (.lst (kept xs.length keep f)) → Q (.ref Dl) H') : LcG (Ite K a) (gTup K 2 (gCons (gName j) (gCons (gName k) gNil))) tt te vs σ Dl H1 Q := by
  refine lc_pure xs.length (fun i => ((wipe σ vs).set j (some (.int (i : Nat)))).set k (some (xs.getD i .non))) keep f hD hn (fun H' e => ⟨xs, Evl.ex_l e hx, Nat.le_refl _⟩) (fun i H' hi e => ⟨xs, xs[i], Evl.ex_l e hx, List.getElem?_eq_getElem hi⟩)
    (fun i H' x H'' QG hi e y q => ?_) (fun i hi => hw _ _) (fun i hi => ht i _ (by rw [List.getD_eq_getElem?_getD, List.getElem?_eq_getElem hi]; rfl)) (fun i hi => he i _ (by rw [List.getD_eq_getElem?_getD, List.getElem?_eq_getElem hi]; rfl)) hd
  obtain ⟨T, v, rfl, hT, rfl, hf⟩ := y
  have hv := hf xs (Evl.ex_l e hx)
  have e1 : xs.getD i .non = v := by rw [List.getD_eq_getElem?_getD, hv]; rfl
  refine g_two upd_same ?_
  have q2 := q (Evl.Ex.new hT)
  rw [e1] at q2
  exact q2
theorem lc_list {a : Addr} {xs : List V} {j : Nat} (keep : Nat → Bool) (f : Nat → V) (hx : SqL K H1 a xs) (hD : H1 Dl = none) (hn : xs.length ≤ 100000)
    (hw : ∀ u : V, wipe ((wipe σ vs).set j (some u)) vs = wipe σ vs)
    (ht : ∀ i x, xs[i]? = some x → Evl.EvT tt ((wipe σ vs).set j (some x)) H1 (keep i))
    (he : ∀ i x, xs[i]? = some x → keep i = true → Evl.Ev te ((wipe σ vs).set j (some x)) H1 (f i))
    (hd : ∀ H', Evl.Ex H1 H' → H' Dl = some (.lst (kept xs.length keep f)) → Q (.ref Dl) H') : LcG (Itl K a) (gName j) tt te vs σ Dl H1 Q := by
  refine lc_pure xs.length (fun i => (wipe σ vs).set j (some (xs.getD i .non))) keep f hD hn (fun H' e => ⟨xs, Evl.ex_l e hx, Nat.le_refl _⟩) (fun i H' hi e => ⟨xs, xs[i], Evl.ex_l e hx, List.getElem?_eq_getElem hi⟩)
    (fun i H' x H'' QG hi e y q => ?_) (fun i hi => hw _) (fun i hi => ht i _ (by rw [List.getD_eq_getElem?_getD, List.getElem?_eq_getElem hi]; rfl)) (fun i hi => he i _ (by rw [List.getD_eq_getElem?_getD, List.getElem?_eq_getElem hi]; rfl)) hd
  obtain ⟨rfl, hf⟩ := y
  have hv := hf xs (Evl.ex_l e hx)
  have e1 : xs.getD i .non = x := by rw [List.getD_eq_getElem?_getD, hv]; rfl
  show QG _ _
  rw [← e1]
  exact q (Evl.Ex.refl _)
theorem lc_rng {lo : Int} {n j : Nat} (keep : Nat → Bool) (f : Nat → V) (hD : H1 Dl = none) (hn : n ≤ 100000)
    (hw : ∀ u : V, wipe ((wipe σ vs).set j (some u)) vs = wipe σ vs)
    (ht : ∀ i, i < n → Evl.EvT tt ((wipe σ vs).set j (some (.int (lo + i)))) H1 (keep i))
    (he : ∀ i, i < n → keep i = true → Evl.Ev te ((wipe σ vs).set j (some (.int (lo + i)))) H1 (f i))
    (hd : ∀ H', Evl.Ex H1 H' → H' Dl = some (.lst (kept n keep f)) → Q (.ref Dl) H') : LcG (Itr lo n) (gName j) tt te vs σ Dl H1 Q := by
  refine lc_pure n (fun i => (wipe σ vs).set j (some (.int (lo + i)))) keep f hD hn (fun H' e => Nat.le_refl _) (fun i H' hi e => hi)
    (fun i H' x H'' QG hi e y q => ?_) (fun i hi => hw _) ht he hd
  obtain ⟨rfl, rfl⟩ := y
  exact q (Evl.Ex.refl _)
end
/-! ### operations on values -/
section
variable {K : PySem.W.Frag} {H : Hp} {Q : VK}
theorem isi_int {i : Int} {T : String} {b : Bool} (h : kitB "int" T = some b) (q : Q (.bl b) H) : rIsi K [.int i, .ty T] H Q :=
  ⟨.int i, .ty T, .type "int", .type T, b, rfl, .ty T, .base (.int i), kit_ty h, q⟩
theorem ixL {p : Addr} {xs : List V} {i : Int} {v : V} (h : SqL K H p xs) (hi : atI xs i = some v) (q : Q v H) : rIxL K (.ref p) (.int i) H Q := ⟨p, xs, i, v, rfl, rfl, h, hi, q⟩
theorem setL {p : Addr} {xs : List V} {i : Int} {j : Nat} {v : V} {R : Hp → Prop} (h : H p = some (.lst xs)) (hj : ixN xs.length i = some j) (q : R (upd H p (.lst (xs.set j v)))) : rSetL (.ref p) (.int i) v H R := ⟨p, xs, i, j, rfl, rfl, h, hj, q⟩
theorem repL {p : Addr} {xs : List V} {k : Int} (h : H p = some (.lst xs)) (h1 : -(2 ^ 63) ≤ k) (h2 : k < 2 ^ 63) (hz : xs.length * k.toNat ≤ sizeLine) (q : ∀ l, H l = none → Q (.ref l) (upd H l (.lst (List.replicate k.toNat xs).flatten))) : rRep (.ref p) (.int k) H Q := ⟨p, k, xs, rfl, rfl, h, h1, h2, hz, q⟩
theorem catL {p b : Addr} {xs ys : List V} (h : H p = some (.lst xs)) (hb : H b = some (.lst ys)) (hz : xs.length + ys.length ≤ sizeLine) (q : ∀ l, H l = none → Q (.ref l) (upd H l (.lst (xs ++ ys)))) : rCat (.ref p) (.ref b) H Q := ⟨p, b, xs, ys, rfl, rfl, h, hb, hz, q⟩
theorem sumL {p : Addr} {ns : List Int} (h : SqL K H p (ns.map V.int)) (q : Q (.int ns.sum) H) : rSum K [.ref p] H Q := ⟨p, ns, rfl, h, q⟩
theorem appL {p : Addr} {xs : List V} {y : V} (h : H p = some (.lst xs)) (hz : xs.length < sizeLine) (q : Q .non (upd H p (.lst (xs ++ [y])))) : rAppend (.ref p) [y] H Q := ⟨p, xs, y, rfl, rfl, h, hz, q⟩
theorem tyL {p : Addr} {xs : List V} (h : H p = some (.lst xs)) : tyV K "list" (.ref p) H := Or.inl ⟨rfl, _, Or.inl (Or.inl h)⟩
theorem atI_n {xs : List V} {i : Int} {j : Nat} {v : V} (e : i = (j : Int)) (h : xs[j]? = some v) : atI xs i = some v := by
  subst e
  have hj := (List.getElem?_eq_some_iff.mp h).1
  unfold atI ixN
  rw [if_pos (by omega), if_pos (by omega)]
  exact h
theorem ixN_n {n : Nat} {i : Int} {j : Nat} (e : i = (j : Int)) (h : j < n) : ixN n i = some j := by
  subst e
  unfold ixN
  rw [if_pos (by omega), if_pos (by omega)]
  rfl
theorem sz_ok {n : Nat} (h : n ≤ 100000) : n ≤ sizeLine := Nat.le_trans h (by decide)
theorem sz_lt {n : Nat} (h : n < 100000) : n < sizeLine := Nat.lt_of_lt_of_le h (by decide)
end
end BC

set_option Elab.async false
set_option linter.all false
set_option maxRecDepth 100000
set_option maxHeartbeats 4000000
namespace BC
open PySem PySem.Spec PyProof.Rows L2 Evl RZ
/-! ### all but the object at b stands -/
def Fx (b : Addr) (H H' : Hp) : Prop := ∀ a o, a ≠ b → H a = some o → H' a = some o
theorem Fx.refl (b : Addr) (H : Hp) : Fx b H H := fun _ _ _ h => h
theorem Fx.trans {b : Addr} {H H1 H2 : Hp} (x : Fx b H H1) (y : Fx b H1 H2) : Fx b H H2 := fun a o n h => y a o n (x a o n h)
theorem Fx.of {b : Addr} {H H' : Hp} (e : Ex H H') : Fx b H H' := fun a o _ h => e a o h
theorem Fx.put {b : Addr} {H : Hp} {o : HO} : Fx b H (upd H b o) := fun a u n h => by rw [upd_ne n]; exact h
theorem Fx.ex {b : Addr} {H H' : Hp} (x : Fx b H H') (h : H b = none) : Ex H H' := fun a o e => x a o (ne_of_none e h) e
theorem Fx.l {K : PySem.W.Frag} {b a : Addr} {H H' : Hp} {xs : List V} (x : Fx b H H') (n : a ≠ b) (h : SqL K H a xs) : SqL K H' a xs := by
  rcases h with h | h
  · rcases h with h | ⟨o, h⟩
    · exact .inl (.inl (x a _ n h))
    · exact .inl (.inr ⟨o, x a _ n h⟩)
  · exact .inr h
/-! ### lists -/
theorem cutV_mem {xs : List V} {lo hi : Option Int} {x : V} (h : x ∈ cutV xs lo hi) : x ∈ xs := by
  unfold cutV at h
  exact List.mem_of_mem_drop (List.mem_of_mem_take h)
theorem cutV_len (xs : List V) (lo hi : Option Int) : (cutV xs lo hi).length ≤ xs.length := by
  unfold cutV
  rw [List.length_take, List.length_drop]
  omega
theorem two_at0 {x y r : Int} {n : Nat} (h0 : 0 ≤ r) (h1 : r < 2) (hx0 : 0 ≤ x) (hx1 : x ≤ n) (hy0 : 0 ≤ y) (hy1 : y ≤ n) : ∃ m : Nat, m ≤ n ∧ atI [V.int x, V.int y] r = some (.int m) := by
  by_cases e : r = 0
  · exact ⟨x.toNat, by omega, by rw [Int.toNat_of_nonneg hx0]; exact atI_n (j := 0) e rfl⟩
  · exact ⟨y.toNat, by omega, by rw [Int.toNat_of_nonneg hy0]; exact atI_n (j := 1) (by omega) rfl⟩
theorem two_at {x y r : Int} {n : Nat} (h0 : 0 ≤ r) (h1 : r < 2) (hx0 : 1 ≤ x) (hx1 : x ≤ n) (hy0 : 1 ≤ y) (hy1 : y ≤ n) : ∃ m : Nat, 1 ≤ m ∧ m ≤ n ∧ atI [V.int x, V.int y] r = some (.int m) := by
  by_cases e : r = 0
  · exact ⟨x.toNat, by omega, by omega, by rw [Int.toNat_of_nonneg (by omega)]; exact atI_n (j := 0) e rfl⟩
  · exact ⟨y.toNat, by omega, by omega, by rw [Int.toNat_of_nonneg (by omega)]; exact atI_n (j := 1) (by omega) rfl⟩
/-- a written list read at a drawn place -/
theorem pick {xs : List V} {r : Int} (h0 : 0 ≤ r) (h1 : r < xs.length) : ∃ v, v ∈ xs ∧ atI xs r = some v := by
  have hj : r.toNat < xs.length := by omega
  exact ⟨xs[r.toNat], List.getElem_mem hj, atI_n (j := r.toNat) (by omega) (List.getElem?_eq_getElem hj)⟩
theorem rep_one (n : Nat) (v : V) : (List.replicate n [v]).flatten = List.replicate n v := by
  induction n with
  | zero => rfl
  | succ n ih => rw [List.replicate_succ, List.flatten_cons, ih]; rfl
theorem take_succ {xs : List V} {i : Nat} {v : V} (h : xs[i]? = some v) : xs.take (i + 1) = xs.take i ++ [v] := by
  rw [List.take_add_one, h]
  rfl
theorem log2_small {i : Int} {k : Nat} (hk : 0 < k) (h : i.natAbs < 2 ^ k) : i.natAbs.log2 < k := PySem.Flt.log2_lt_of hk h
/-! ### kinds -/
section
variable {X : Cx} {K : PySem.W.Frag} {H : Hp} {Q : VK}
theorem k_pi_zipA {e e2 : Expr} {ta : TA} {p pos tpos : Pos} {elts : List Expr} {kk : Nat} (hK : X.K = K) (hg : Gl X "zip") (hm : X.mg "zip" = none) (ha : PA X [e, e2] ta)
    (hs : starEach [e, e2] X.env = (false, eval e X.env) :: starEach [e2] X.env := by rfl) (hpl : (backTo pos (starEach [e2] X.env)).any (·.1) = false := by rfl) : PI X (.Tuple elts kk tpos) (.Call (.Name "zip" p) [e, e2] [] pos) (iZipA K ta) := by subst hK; exact pi_zipA hg hm ha hs hpl
theorem k_isiT (hK : X.K = K) : CallR X (.builtin "isinstance") (rIsiT K) := by subst hK; exact call_isiT
theorem tyx_l {a : Addr} {xs : List V} (h : SqL K H a xs) : TyX K H (.ref a) (.type "list") := by
  rcases h with (h | ⟨o, h⟩) | ⟨o, its, n, h, c, _⟩
  · exact .base (.lst h)
  · exact .base (.frz h)
  · exact .kList h c
theorem tyx_t {a : Addr} {xs : List V} (h : SqT K H a xs) : TyX K H (.ref a) (.type "tuple") := by
  rcases h with (h | ⟨o, h⟩) | ⟨o, its, n, h, c, _⟩
  · exact .base (.tup h)
  · exact .fTuple h
  · exact .kTuple h c
def tyn : PyData → String
  | .none => "NoneType"
  | .bool _ => "bool"
  | .int _ => "int"
  | .str _ => "str"
  | .list _ => "list"
  | .tuple _ => "tuple"
  | .dict _ => "dict"
theorem tyx_d {v : V} {d : PyData} (h : Dp K H v d) : TyX K H v (.type (tyn d)) := by
  cases h with
  | non => exact .base .non
  | bl b => exact .base (.bl b)
  | int i => exact .base (.int i)
  | str x => exact .base (.str x)
  | lst h _ => exact tyx_l h
  | tup h _ => exact tyx_t h
theorem isi_x {v : V} {A T : String} {b : Bool} (h : TyX K H v (.type A)) (hk : kitB A T = some b) (q : Q (.bl b) H) : rIsi K [v, .ty T] H Q :=
  ⟨v, .ty T, .type A, .type T, b, rfl, .ty T, h, kit_ty hk, q⟩
theorem kit_two {A B C : String} {b c : Bool} (h1 : kitB A B = some b) (h2 : kitB A C = some c) : PySem.W.kitAny K (.type A) [.type B, .type C] = some (b || c) := by
  refine kitAny_cons (kit_ty h1) (fun e => ?_) (fun e => by rw [e]; rfl)
  subst e
  refine kitAny_cons (kit_ty h2) (fun e => ?_) (fun e => by rw [e]; rfl)
  subst e
  exact kitAny_nil
theorem isiT2 {v : V} {p : Addr} {A B C : String} {b c : Bool} (h : TyX K H v (.type A)) (hp : H p = some (.tup [.ty B, .ty C])) (h1 : kitB A B = some b) (h2 : kitB A C = some c) (q : Q (.bl (b || c)) H) : rIsiT K [v, .ref p] H Q :=
  ⟨v, p, [.ty B, .ty C], .type A, [.type B, .type C], b || c, rfl, hp, .cons (.ty B) (.cons (.ty C) .nil), h, kit_two h1 h2, q⟩
theorem ex_d {H H' : Hp} (e : Ex H H') : ∀ (d : PyData) (v : V), Dp K H v d → Dp K H' v d
  | .none, _, h => by cases h; exact .non
  | .bool _, _, h => by cases h; exact .bl _
  | .int _, _, h => by cases h; exact .int _
  | .str _, _, h => by cases h; exact .str _
  | .dict _, _, h => by cases h
  | .list ds, _, h => by
    cases h with
    | lst h1 h2 => exact .lst (ex_l e h1) (all ds _ h2)
  | .tuple ds, _, h => by
    cases h with
    | tup h1 h2 => exact .tup (ex_t e h1) (all ds _ h2)
where
  all : ∀ (ds : List PyData) (vs : List V), DpAll K H vs ds → DpAll K H' vs ds
  | [], _, h => by cases h; exact .nil
  | d :: ds, _, h => by
    cases h with
    | cons h1 h2 => exact .cons (ex_d e d _ h1) (all ds _ h2)
theorem dp_len : ∀ {vs : List V} {ds : List PyData}, DpAll K H vs ds → vs.length = ds.length
  | _, _, .nil => rfl
  | _, _, .cons _ h => by rw [List.length_cons, List.length_cons, dp_len h]
theorem dp_at : ∀ {vs : List V} {ds : List PyData} {i : Nat} {v : V}, DpAll K H vs ds → vs[i]? = some v → ∃ d, ds[i]? = some d ∧ Dp K H v d
  | _, _, _, _, .nil, e => by simp at e
  | _, _, 0, _, .cons h _, e => by simp at e; subst e; exact ⟨_, rfl, h⟩
  | _, _, i + 1, _, .cons _ h, e => by
    obtain ⟨d, e1, e2⟩ := dp_at (i := i) h (by simpa using e)
    exact ⟨d, by simpa using e1, e2⟩
theorem dp_ints : ∀ ns : List Int, DpAll K H (ns.map V.int) (ns.map PyData.int)
  | [] => .nil
  | n :: ns => .cons (.int n) (dp_ints ns)
/-- data of so many levels, of moderate size -/
inductive Sh : Nat → PyData → Prop
  | non (n : Nat) : Sh n .none
  | bl (n : Nat) (b : Bool) : Sh n (.bool b)
  | int (n : Nat) (i : Int) : Sh n (.int i)
  | str (n : Nat) (x : Str) : Sh n (.str x)
  | lst {n : Nat} {ds : List PyData} (hl : ds.length ≤ 100000) (h : ∀ d ∈ ds, Sh n d) : Sh (n + 1) (.list ds)
  | tup {n : Nat} {ds : List PyData} (hl : ds.length ≤ 100000) (h : ∀ d ∈ ds, Sh n d) : Sh (n + 1) (.tuple ds)
theorem sh_ints (ns : List Int) (h : ns.length ≤ 100000) : Sh 1 (.list (ns.map PyData.int)) := .lst (by rw [List.length_map]; exact h) fun d hd => by
  obtain ⟨n, _, rfl⟩ := List.mem_map.mp hd
  exact .int 0 n
end
/-! ### more readings -/
section
variable {K : PySem.W.Frag} {σ : L2.St} {H H1 : Hp} {g : TG} {tt : TT} {te : TE} {vs : List Nat} {Dl : Addr} {Q : VK}
theorem x_eqB {m n : Bool} : rEq (.bl m) (.bl n) H Q ↔ Q (.bl (decide (m = n))) H := by
  unfold rEq
  rw [show scal (V.bl m) (V.bl n) = true from rfl]
  cases m <;> cases n <;> simp
theorem x_neB {m n : Bool} : rNe (.bl m) (.bl n) H Q ↔ Q (.bl (!decide (m = n))) H := by
  unfold rNe
  rw [show scal (V.bl m) (V.bl n) = true from rfl]
  cases m <;> cases n <;> simp
theorem x_eqS {m n : Str} : rEq (.str m) (.str n) H Q ↔ Q (.bl (decide (m = n))) H := by
  unfold rEq
  rw [show scal (V.str m) (V.str n) = true from rfl]
  by_cases e : m = n
  · subst e; simp
  · simp [e]
theorem x_neS {m n : Str} : rNe (.str m) (.str n) H Q ↔ Q (.bl (!decide (m = n))) H := by
  unfold rNe
  rw [show scal (V.str m) (V.str n) = true from rfl]
  by_cases e : m = n
  · subst e; simp
  · simp [e]
theorem allL {p : Addr} {bs : List Bool} (h : SqL K H p (bs.map V.bl)) (q : Q (.bl (bs.all id)) H) : rAll K [.ref p] H Q := ⟨p, bs, rfl, h, q⟩
theorem anyL {p : Addr} {bs : List Bool} (h : SqL K H p (bs.map V.bl)) (q : Q (.bl (bs.any id)) H) : rAny K [.ref p] H Q := ⟨p, bs, rfl, h, q⟩
theorem lenL {p : Addr} {xs : List V} (h : SqL K H p xs) (q : Q (.int (xs.length : Nat)) H) : rLen K [.ref p] H Q := ⟨p, xs, rfl, .inl h, q⟩
theorem lenT {p : Addr} {xs : List V} (h : SqT K H p xs) (q : Q (.int (xs.length : Nat)) H) : rLen K [.ref p] H Q := ⟨p, xs, rfl, .inr h, q⟩
theorem x_izipA {a : TA} {R : It → Hp → Prop} : iZipA K a σ H R = a σ H (fun vs H1 => ∃ a b xs ys, vs = [.ref a, .ref b] ∧ ((SqL K H1 a xs ∧ SqL K H1 b ys ∧ R (Itz K a b) H1) ∨ (SqT K H1 a xs ∧ SqT K H1 b ys ∧ R (ItzT K a b) H1))) := rfl
theorem eq_same {v : V} (h : scal v v = true) (q : Q (.bl true) H) : rEq v v H Q := ⟨h, by rw [decide_eq_true rfl]; exact q⟩
theorem g_three {i j l : Nat} {T : Addr} {x y z : V} {QG : L2.St → Hp → Prop} (h : H T = some (.tup [x, y, z])) (q : QG (((σ.set i (some x)).set j (some y)).set l (some z)) H) : gTup K 3 (gCons (gName i) (gCons (gName j) (gCons (gName l) gNil))) (.ref T) σ H QG :=
  ⟨T, [x, y, z], rfl, .inl (.inl h), rfl, x, [y, z], rfl, y, [z], rfl, z, [], rfl, rfl, q⟩
theorem lc_zip {a b : Addr} {xs ys : List V} {j k : Nat} (keep : Nat → Bool) (f : Nat → V) (hx : SqL K H1 a xs) (hy : SqL K H1 b ys) (he0 : xs.length = ys.length) (hD : H1 Dl = none) (hn : xs.length ≤ 100000)
    (hw : ∀ u v : V, wipe (((wipe σ vs).set j (some u)).set k (some v)) vs = wipe σ vs)
    (ht : ∀ i x y, xs[i]? = some x → ys[i]? = some y → Evl.EvT tt (((wipe σ vs).set j (some x)).set k (some y)) H1 (keep i))
    (he : ∀ i x y, xs[i]? = some x → ys[i]? = some y → keep i = true → Evl.Ev te (((wipe σ vs).set j (some x)).set k (some y)) H1 (f i))
    (hd : ∀ H', Evl.Ex H1 H' → H' Dl = some (.lst (kept xs.length keep f)) → Q (.ref Dl) H') : LcG (Itz K a b) (gTup K 2 (gCons (gName j) (gCons (gName k) gNil))) tt te vs σ Dl H1 Q := by
  have gx : ∀ i, i < xs.length → xs[i]? = some (xs.getD i .non) := fun i hi => by rw [List.getD_eq_getElem?_getD, List.getElem?_eq_getElem hi]; rfl
  have gy : ∀ i, i < xs.length → ys[i]? = some (ys.getD i .non) := fun i hi => by rw [List.getD_eq_getElem?_getD, List.getElem?_eq_getElem (by omega)]; rfl
  refine lc_pure xs.length (fun i => ((wipe σ vs).set j (some (xs.getD i .non))).set k (some (ys.getD i .non))) keep f hD hn (fun H' e => ⟨xs, ys, Evl.ex_l e hx, Evl.ex_l e hy, .inl (Nat.le_refl _)⟩)
    (fun i H' hi e => ⟨xs, ys, _, _, Evl.ex_l e hx, Evl.ex_l e hy, gx i hi, gy i hi⟩)
    (fun i H' x H'' QG hi e y q => ?_) (fun i hi => hw _ _) (fun i hi => ht i _ _ (gx i hi) (gy i hi)) (fun i hi => he i _ _ (gx i hi) (gy i hi)) hd
  obtain ⟨T, u, v, rfl, hT, rfl, hf, hf2⟩ := y
  have hu := hf xs (Evl.ex_l e hx)
  have hv := hf2 ys (Evl.ex_l e hy)
  have e1 : xs.getD i .non = u := by rw [List.getD_eq_getElem?_getD, hu]; rfl
  have e2 : ys.getD i .non = v := by rw [List.getD_eq_getElem?_getD, hv]; rfl
  refine g_two upd_same ?_
  have q2 := q (Evl.Ex.new hT)
  rw [e1, e2] at q2
  exact q2
theorem lc_zipT {a b : Addr} {xs ys : List V} {j k : Nat} (keep : Nat → Bool) (f : Nat → V) (hx : SqT K H1 a xs) (hy : SqT K H1 b ys) (he0 : xs.length = ys.length) (hD : H1 Dl = none) (hn : xs.length ≤ 100000)
    (hw : ∀ u v : V, wipe (((wipe σ vs).set j (some u)).set k (some v)) vs = wipe σ vs)
    (ht : ∀ i x y, xs[i]? = some x → ys[i]? = some y → Evl.EvT tt (((wipe σ vs).set j (some x)).set k (some y)) H1 (keep i))
    (he : ∀ i x y, xs[i]? = some x → ys[i]? = some y → keep i = true → Evl.Ev te (((wipe σ vs).set j (some x)).set k (some y)) H1 (f i))
    (hd : ∀ H', Evl.Ex H1 H' → H' Dl = some (.lst (kept xs.length keep f)) → Q (.ref Dl) H') : LcG (ItzT K a b) (gTup K 2 (gCons (gName j) (gCons (gName k) gNil))) tt te vs σ Dl H1 Q := by
  have gx : ∀ i, i < xs.length → xs[i]? = some (xs.getD i .non) := fun i hi => by rw [List.getD_eq_getElem?_getD, List.getElem?_eq_getElem hi]; rfl
  have gy : ∀ i, i < xs.length → ys[i]? = some (ys.getD i .non) := fun i hi => by rw [List.getD_eq_getElem?_getD, List.getElem?_eq_getElem (by omega)]; rfl
  refine lc_pure xs.length (fun i => ((wipe σ vs).set j (some (xs.getD i .non))).set k (some (ys.getD i .non))) keep f hD hn (fun H' e => ⟨xs, ys, Evl.ex_t e hx, Evl.ex_t e hy, .inl (Nat.le_refl _)⟩)
    (fun i H' hi e => ⟨xs, ys, _, _, Evl.ex_t e hx, Evl.ex_t e hy, gx i hi, gy i hi⟩)
    (fun i H' x H'' QG hi e y q => ?_) (fun i hi => hw _ _) (fun i hi => ht i _ _ (gx i hi) (gy i hi)) (fun i hi => he i _ _ (gx i hi) (gy i hi)) hd
  obtain ⟨T, u, v, rfl, hT, rfl, hf, hf2⟩ := y
  have hu := hf xs (Evl.ex_t e hx)
  have hv := hf2 ys (Evl.ex_t e hy)
  have e1 : xs.getD i .non = u := by rw [List.getD_eq_getElem?_getD, hu]; rfl
  have e2 : ys.getD i .non = v := by rw [List.getD_eq_getElem?_getD, hv]; rfl
  refine g_two upd_same ?_
  have q2 := q (Evl.Ex.new hT)
  rw [e1, e2] at q2
  exact q2
theorem all_true (n : Nat) : ((List.replicate n true).all id) = true := by
  induction n with
  | zero => rfl
  | succ n ih => rw [List.replicate_succ, List.all_cons, ih]; rfl
theorem kept_const (n : Nat) (v : V) : kept n (fun _ => true) (fun _ => v) = List.replicate n v := by
  rw [kept_all]
  apply List.ext_getElem?
  intro j
  rw [List.getElem?_map]
  by_cases h : j < n
  · rw [List.getElem?_range h, List.getElem?_replicate, if_pos h]
    rfl
  · rw [List.getElem?_eq_none (by rw [List.length_range]; omega), List.getElem?_eq_none (by rw [List.length_replicate]; omega)]
    rfl
end
end BC

set_option Elab.async false
set_option linter.all false
set_option maxRecDepth 100000
set_option maxHeartbeats 4000000
/-! repr of lists wants to know that no repr is under way around: promises that hold where nothing is guarded -/
namespace BC
open PySem PySem.Spec PyProof.Rows L2 Evl
/-- nothing is guarded around -/
def G0 (A : Around) : Prop := A.guards = some []
theorem G0.deeper {A : Around} (g : G0 A) (env : Env) : G0 (A.deeper env) := g
/-- FnOk where nothing is guarded around -/
structure FnG (P : Program) (w : World) (K : PySem.W.Frag) (mg : Str → Option Value) (base : Heap) (CX : CXT) (k : Nat) (f : Addr) (fd : FuncData) (ps : List Str) (sp : Sp) : Prop where
  size : ∀ vs H Q E, sp vs H Q E → vs.length = ps.length
  go : ∀ (A : Around) (outer : List Env) (s : Shared) (H : Hp) (args : Args) (us : List Value) (vs : List V) (Q : VK) (E : XK), G0 A → Room k A → Env0 P w K mg base A outer s H →
    BindsTo s fd args (ps.zip us) → Vals vs us → sp vs H Q E → codeAny (model P w) A (.call (.ref f) args) (CR CX outer P w H s Q E) s
section
variable {P : Program} {w : World} {K : PySem.W.Frag} {mg : Str → Option Value} {base : Heap} {CX : CXT} {k : Nat} {f : Addr} {fd : FuncData} {ps : List Str} {sp : Sp}
theorem FnG.of (F : FnOk P w K mg base CX k f fd ps sp) : FnG P w K mg base CX k f fd ps sp :=
  ⟨F.len, fun A outer s H args us vs Q E _ => F.run A outer s H args us vs Q E⟩
theorem FnG.up (F : FnG P w K mg base CX k f fd ps sp) {j : Nat} (h : k ≤ j) : FnG P w K mg base CX j f fd ps sp :=
  ⟨F.size, fun A outer s H args us vs Q E g hr => F.go A outer s H args us vs Q E g (hr.mono h)⟩
/-- the rule for a def -/
theorem fun_okG {x qual : Str} {st : Stmt} {N : List Str} (F : Fun K x qual st f fd) (S : FnScope N ps (defScope st)) (size : ∀ vs H Q E, sp vs H Q E → vs.length = ps.length)
    (body : ∀ (cdv : Value) (A : Around) (outer : List Env) (s : Shared) (H : Hp) (vs : List V) (Q : VK) (E : XK), G0 (A.deeper (envOfC qual (defScope st) s.heap.objs.size f cdv)) → Room k (A.deeper (envOfC qual (defScope st) s.heap.objs.size f cdv)) → sp vs H Q E →
      ∃ t, PSs (cxOf CX P w K mg base N qual (defScope st) f cdv A outer s H E) (defBody st) t ∧ t { nx := fun _ H' => Q .non H', rt := Q } (start N vs) H) : FnG P w K mg base CX (k + 1) f fd ps sp := by
  obtain ⟨oc, od, kV, doc, pm, an, cdv, ct, osl, rfl, lk, hcd⟩ := F.ex
  refine ⟨size, fun A outer s H args us vs Q E g room env bind vals prom => ?_⟩
  have inK : K.In s.heap := env.mod.kin.keeps fun b o q => (env.bs b o q).1
  have loose : s.heap.NoLimit := env.mod.nolimit.keeps fun b o q => (env.bs b o q).1
  have kinds : ∀ z ∈ ps.zip us, (defScope st).names.lookup z.1 = some .local ∨ ((defScope st).names.lookup z.1 = some .cell ∧ ((cellsFrom (s.heap.objs.size + 1) (defScope st).names []).lookup z.1).isSome = true) := by
    rintro ⟨n, v⟩ hz
    have hn := (List.of_mem_zip hz).1
    rcases S.par n hn with h | h
    · exact Or.inl h
    · exact Or.inr ⟨h, PySem.W.cellsFrom_some _ _ _ (Or.inl h)⟩
  refine codeAny_call_function room.depth (inK _ _ lk) rfl S.co S.gen rfl (PySem.W.codeRec_of inK hcd) (bind _ _ _ _ ?_)
  refine wpAny_newFunctionEnv_cells S.kind kinds fun env' e1 s1 into => ?_
  subst e1
  refine ⟨loose.keeps into.toInCall.keep, codeAny_func ?_⟩
  obtain ⟨t, deriv, read⟩ := body cdv A outer s H vs Q E (g.deeper _) (room.deeper _) prom
  have I := inv_start (CX := CX) (E := E) S room.hd env (size _ _ _ _ prom) vals into
  refine wpAny_mono (deriv.run [] s1 (start N vs) H _ I read) (fun flow s' ends => ?_) fun _ _ q => q
  have done : ∀ {σ2 : L2.St} {H2 : Hp} {v : V} {u : Value}, Inv (cxOf CX P w K mg base N qual (defScope st) f cdv A outer s H E) [] σ2 H2 s' → RelV v u → Q v H2 → CE outer P w H s Q u s' := by
    intro σ2 H2 v u J rel q
    exact ⟨v, H2, J.os, J.bare, J.base, J.hok, rel, q⟩
  match flow, ends with
  | .ret u, ends =>
    obtain ⟨v, σ2, H2, J, rel, q⟩ := ends
    exact done J rel q
  | .next, ends =>
    obtain ⟨σ2, H2, J, q⟩ := ends
    exact done (v := V.non) (u := Value.none) J rfl q
  | .brk, ends =>
    obtain ⟨_, _, _, q⟩ := ends
    exact q.elim
  | .cont, ends =>
    obtain ⟨_, _, _, q⟩ := ends
    exact q.elim
end
section
variable {X : Cx} {CX : CXT} {k : Nat} {f : Addr} {fd : FuncData} {ps : List Str} {sp : Sp} {dvs : List V} {ds : List Value} {E : XK} {x : Str} {p pos : Pos} {e : Expr} {es : List Expr} {t : TA}
theorem call_G {pins : List (Addr × Obj)} {σ : L2.St} {H : Hp} {s : Shared} {Q : VK} {us : List Value} {vs : List V} (F : FnG X.prog X.w X.K X.mg X.base CX k f fd ps sp) (g : G0 X.A) (hr : Room k X.A) (hb : Binds X.K fd ps ds) (hd : Vals dvs ds)
    (hx : Passes CX X E) (I : Inv X pins σ H s) (r : Vals vs us) (h : sp (vs ++ dvs) H Q E) : wpAny (model X.prog X.w) X.A (call (.ref f) us) (EP X pins σ Q) X.xe s := by
  have both : Vals (vs ++ dvs) (us ++ ds) := r.append hd
  have many : (us ++ ds).length = ps.length := both.length.symm.trans (F.size _ _ _ _ h)
  have run := F.go X.A X.stack s H ⟨us, []⟩ (us ++ ds) (vs ++ dvs) Q E g hr I.env0 (hb s us I.kIn many) both h
  refine wpAny_call (codeAny_mono run fun res s' q => ?_)
  match res, q with
  | .error err, q => exact hx pins σ H s err s' I q
  | .ok (.ret u), q => exact I.after q
theorem pe_callG (F : FnG X.prog X.w X.K X.mg X.base CX k f fd ps sp) (g : G0 X.A) (hr : Room k X.A) (hg : Gl X x) (hm : X.mg x = some (.ref f)) (hk : PySem.W.keepIn X.K (.ref f) = true) (hb : Binds X.K fd ps ds) (hd : Vals dvs ds) (hx : Passes CX X E)
    (ha : PA X (e :: es) t) (hdb : (x == ("__debug__" : Str)) = false := by decide) (he : starEach (e :: es) X.env = (false, eval e X.env) :: starEach es X.env := by rfl) (hpl : (backTo pos (starEach es X.env)).any (·.1) = false := by rfl) :
    PE X (.Call (.Name x p) (e :: es) [] pos) (tCall sp dvs E t) := by
  constructor
  intro pins s σ H Q I h
  have args := ha.run pos pins s σ H _ I h
  refine wpAny_Call_Name_kw (ld_glob I hg hm (PySem.W.callWith_K (h₀ := X.base) I.ok.mod.kin hk (thn args ?_) he hpl) hdb)
  rintro us s1 ⟨vs, H1, I1, r, q⟩
  exact ⟨I1.kIn, call_G F g hr hb hd hx I1 r q⟩
end

/-! ### the law's own call, for a promise of this kind -/
section
variable {P : Program} {w : World} {K : PySem.W.Frag} {mg mb : Str → Option Value} {k : Nat} {fa a : Addr} {fd : FuncData} {x : Str} {sp : Sp} {s : Shared} {vs : List Value} {ns : List Int}
/-- the abstract heap at the entry: the script alone, locked; or nothing, where the script is the module's own -/
def entryH (a : Addr) (vs : List Value) (ns : List Int) (own : Bool) : Hp := fun b => if own = false ∧ b = a then some (.frz { cls := .type "list", data := .seq vs.toArray } (.lst (ns.map V.int))) else none
theorem entry_other {own : Bool} {b : Addr} (h : b ≠ a) : entryH a vs ns own b = none := if_neg fun z => h z.2
theorem entry_own {b : Addr} : entryH a vs ns true b = none := if_neg fun z => nomatch z.1
theorem entry_at : entryH a vs ns false a = some (.frz { cls := .type "list", data := .seq vs.toArray } (.lst (ns.map V.int))) := if_pos ⟨rfl, rfl⟩
theorem entry_case {own : Bool} {b : Addr} {o : HO} (h : entryH a vs ns own b = some o) : own = false ∧ b = a ∧ o = .frz { cls := .type "list", data := .seq vs.toArray } (.lst (ns.map V.int)) := by
  unfold entryH at h
  by_cases q : own = false ∧ b = a
  · rw [if_pos q] at h
    exact ⟨q.1, q.2, (Option.some.inj h).symm⟩
  · rw [if_neg q] at h
    cases h
theorem law_goG (hK : K.In s.heap) (hns : s.heap.Ns mainGlobals mg) (hb : s.heap.Ns builtinsNs mb) (hbb : ∀ x : Str, x ≠ "__name__" → mb x = bootBuiltins x) (hlim : s.heap.NoLimit) (hg : s.gens = #[])
    (ha : s.heap.get? a = some { cls := .type "list", data := .seq vs.toArray }) (hi : IntsAre vs ns) (hl : ns.length ≤ sizeLine) (hr : Room k callerA)
    (F : ∀ base : Heap, K.In base → base.Ns mainGlobals mg → FnG P w K mg base CX0 k fa fd [x] sp) (bind : ∀ (s : Shared) (u : Value), BindsTo s fd ⟨[u], []⟩ [(x, u)])
    (prom : ∀ H : Hp, SqL K H a (ns.map V.int) → sp [.ref a] H (fun v _ => v = .bl true) fun _ _ _ => False) :
    codeAny (model P w) callerA (.call (.ref fa) ⟨[.ref a], []⟩) (fun r s' => r = .ok (.ret (.bool true)) ∧ OldK s.heap s'.heap ∧ s'.os = s.os ∧ AllBare s'.gens) s := by
  have rv := vals_ints hi
  have many := hi.length
  obtain ⟨own, hown⟩ : ∃ own : Bool, own = (K.lookup a).isSome := ⟨_, rfl⟩
  let H : Hp := entryH a vs ns own
  have reads : SqL K H a (ns.map V.int) := by
    cases q : K.lookup a with
    | none =>
      have e : own = false := by rw [hown, q]; rfl
      exact Or.inl (Or.inr ⟨_, by show entryH a vs ns own a = _; rw [e]; exact entry_at⟩)
    | some o =>
      have z := hK a o q
      rw [ha] at z
      cases z
      refine Or.inr ⟨_, vs.toArray, _, q, rfl, rfl, rfl, ?_, ?_⟩
      · rw [List.size_toArray, many]
        exact hl
      · exact rv
  have held : HOk P w H s.heap := fun b o q => by
    obtain ⟨_, rfl, rfl⟩ := entry_case q
    exact ⟨ha, by rw [List.length_map]; exact hl, vs, _, rv, ha⟩
  have spare : ∀ {b : Addr} {o : Obj}, s.heap.get? b = some o → (∀ u n, o.data ≠ .seq u n) → H b = none := fun {b o} e d => by
    cases q : H b with
    | none => rfl
    | some u =>
      obtain ⟨_, rfl, _⟩ := entry_case q
      rw [ha] at e
      cases e
      exact absurd rfl (d _ _)
  have nsT : ∀ {b : Addr} {m : Str → Option Value}, s.heap.Ns b m → (hidT s.heap H).Ns b m := by
    rintro b m ⟨o, es, ep, e, d, r⟩
    exact ⟨o, es, ep, hidT_get e (spare e fun u n z => by rw [d] at z; cases z), d, r⟩
  have kT : K.In (hidT s.heap H) := fun b o e => hidT_get (hK b o e) (by
    cases q : H b with
    | none => rfl
    | some u =>
      obtain ⟨z, rfl, _⟩ := entry_case q
      rw [hown, e] at z
      cases z)
  have module : Mod K mg (hidT s.heap H) := ⟨kT, nsT hns, ⟨mb, nsT hb, hbb⟩, by obtain ⟨mc, h1, h2⟩ := hlim; exact ⟨mc, nsT h1, h2⟩⟩
  have entry : Env0 P w K mg (hidT s.heap H) callerA [] s H :=
    ⟨rfl, module, fun b o e => of_hidT e, Nat.le_of_eq (hidT_size _ _), trivial, fun b z => (List.not_mem_nil z).elim, held, .of_eq hg⟩
  have ran := (F _ kT (nsT hns)).go callerA [] s H ⟨[.ref a], []⟩ [.ref a] [.ref a] _ _ rfl hr entry (bind s (.ref a)) (.cons rfl .nil) (prom H reads)
  refine codeAny_mono ran fun r s' q => ?_
  match r, q with
  | .ok (.ret u), q =>
    obtain ⟨v, H', os, bare, un, held', rel, fin⟩ := q
    obtain rfl : v = .bl true := fin
    obtain rfl : u = Value.bool true := rel
    refine ⟨rfl, OldK.of_keep fun b o e => ?_, os, bare⟩
    cases q : H b with
    | none => exact un.keep b o e q (fun z => (List.not_mem_nil z).elim) List.not_mem_nil
    | some u =>
      obtain ⟨_, rfl, rfl⟩ := entry_case q
      have z := (held' _ _ (un.frzs _ _ _ q)).1
      rw [ha] at e
      cases e
      exact z
theorem walk_G {l : PySem.W.OpenLaw} {n k : Nat} {q : Program} {loose : List Str} {XP : (Str → Option Value) → Heap → Prop} {YP : World → Heap → Prop} {d : DefRec} {K : Params → PySem.W.Frag} {sp : World → Sp} {x : Str}
    (hn : l.most = some n) (hn2 : n ≤ sizeLine) (hdf : d.params.defaults = []) (hr : Room k callerA) (hY : ∀ (w : World) (h : Heap), YP w h → (K w.params).In h)
    (F : ∀ (w : World) (mg : Str → Option Value) (fa : Addr) (h : Heap), (K w.params).In h → h.Ns mainGlobals mg → mg d.name = some (.ref fa) →
      ∃ fd : FuncData, (∀ (s : Shared) (u : Value), BindsTo s fd ⟨[u], []⟩ [(x, u)]) ∧ ∀ base : Heap, (K w.params).In base → base.Ns mainGlobals mg → FnG l.prog w (K w.params) mg base CX0 k fa fd [x] (sp w))
    (prom : ∀ (w : World) (H : Hp) (a : Addr) (ns : List Int), ns.length ≤ n → SqL (K w.params) H a (ns.map V.int) → sp w [.ref a] H (fun v _ => v = .bl true) fun _ _ _ => False) :
    PySem.W.WalkO q loose XP YP l.row.toRowW d [] (fun f vs => PySem.call f vs) := by
  refine Att.attach_call hn hdf ?_
  intro w s0 s1 mg mb fa o pm cd doc a vs ns G Y _ hd hcd hmg hobj hints hlen hg
  have inK := hY w _ Y
  obtain ⟨fd, bind, keep⟩ := F w mg fa _ inK G.T.g hmg
  exact law_goG inK G.T.g G.T.b G.T.builtins G.T.nolimit hg hobj hints (Nat.le_trans hlen hn2) hr keep bind fun H hS => prom w H a ns hlen hS
end
end BC

set_option Elab.async false
set_option linter.all false
set_option maxRecDepth 100000
set_option maxHeartbeats 4000000
/-! repr, keywords, more readings -/
namespace BC
open PySem PySem.Spec PyProof.Rows L2 Evl
section
variable {X : Cx} {K : PySem.W.Frag} {σ : L2.St} {H : Hp} {Q : VK}
/-- repr of lists, tuples and what lies in them -/
def rRepr (K : PySem.W.Frag) : List V → Hp → VK → Prop := fun xs H Q => ∃ a d, xs = [.ref a] ∧ Dp K H (.ref a) d ∧ d.showable = true ∧ d.depth ≤ 60 ∧ d.hasDict = false ∧ d.shown.length ≤ sizeLine ∧ Q (.str d.shown) H
theorem k_repr (hK : X.K = K) (g : G0 X.A) (hu : X.A.units + 64 < cLine) : CallR X (.builtin "repr") (rRepr K) := by
  subst hK
  intro pins s σ H xs us Q I r h
  obtain ⟨a, d, rfl, hd, h1, h2, h3, h4, q⟩ := h
  obtain ⟨u, rfl, rfl⟩ := vals1 r
  obtain ⟨as, rd⟩ := Dp.reads I d (.ref a) (.ref a) hd rfl
  exact repr_of_reads' rd h1 (PyData.noDict_hsm h3) g (by omega) (fun _ _ e => e) (fun h' u tk hk => ⟨.str _, H, I.kept hk, ⟨_, rfl⟩, q⟩) h4
def rIsB : R2 := fun x y H Q => ∃ a b, x = .bl a ∧ y = .bl b ∧ Q (.bl (decide (a = b))) H
def rIsNB : R2 := fun x y H Q => ∃ a b, x = .bl a ∧ y = .bl b ∧ Q (.bl (!decide (a = b))) H
theorem op_isB : OpR X (compareOp .Is) rIsB := op_is_bl
theorem op_isNB : OpR X (compareOp .IsNot) rIsNB := op_isnot_bl
theorem x_isB {a b : Bool} : rIsB (.bl a) (.bl b) H Q ↔ Q (.bl (decide (a = b))) H := ⟨fun ⟨i, j, e1, e2, q⟩ => by cases e1; cases e2; exact q, fun q => ⟨a, b, rfl, rfl, q⟩⟩
theorem x_isNB {a b : Bool} : rIsNB (.bl a) (.bl b) H Q ↔ Q (.bl (!decide (a = b))) H := ⟨fun ⟨i, j, e1, e2, q⟩ => by cases e1; cases e2; exact q, fun q => ⟨a, b, rfl, rfl, q⟩⟩
theorem x_lrg {te : L2.St → Hp → (Int → Int → Hp → Prop) → Prop} : tLstRg te σ H Q = te σ H fun a b H1 => RgOk a b ∧ ∀ q, H1 q = none → Q (.ref q) (upd H1 q (.lst (rgV a b))) := rfl
theorem x_rg1 {ta : TE} {R : Int → Int → Hp → Prop} : tRg1 ta σ H R = ta σ H fun x H1 => ∃ n, x = .int n ∧ R 0 n H1 := rfl
theorem x_rg2 {ta tb : TE} {R : Int → Int → Hp → Prop} : tRg2 ta tb σ H R = ta σ H fun x H1 => tb σ H1 fun y H2 => ∃ i j, x = .int i ∧ y = .int j ∧ R i j H2 := rfl
end
theorem Fx.mut {b r : Addr} {H H' : Hp} {o : HO} (f : Fx b H H') (n : H r = none) : Fx b H (upd H' r o) := fun a u na h => by rw [upd_ne (ne_of_none h n)]; exact f a u na h
theorem fx_none {b x : Addr} {H H' : Hp} (h : Fx b H H') (n : H' x = none) (nb : x ≠ b) : H x = none := by
  cases e : H x with
  | none => rfl
  | some o => rw [h _ _ nb e] at n; cases n
/-- a promise that asks for more -/
theorem weak {P : Program} {w : World} {K : PySem.W.Frag} {mg : Str → Option Value} {base : Heap} {CX : CXT} {k : Nat} {f : Addr} {fd : FuncData} {ps : List Str} {sp sp' : Sp} (F : FnOk P w K mg base CX k f fd ps sp) (h : ∀ vs H Q E, sp' vs H Q E → sp vs H Q E) : FnOk P w K mg base CX k f fd ps sp' :=
  ⟨fun vs H Q E q => F.len vs H Q E (h _ _ _ _ q), fun A outer s H args us vs Q E hr env bind vals q => F.run A outer s H args us vs Q E hr env bind vals (h _ _ _ _ q)⟩
/-! ### a cut: what stands after one statement -/
section
variable {σ : L2.St} {H : Hp} {D : Ends} {ta : TE} {s1 s2 : TS} {i : Nat}
theorem seq_asg (C : V → Hp → Prop) (h1 : ∀ R : VK, (∀ v H', C v H' → R v H') → ta σ H R) (h2 : ∀ v H', C v H' → s2 D (σ.set i (some v)) H') : tSeq (tAsg ta (gName i)) s2 D σ H := h1 _ h2
theorem seq_cut (C : L2.St → Hp → Prop) (h1 : ∀ N : L2.St → Hp → Prop, (∀ σ' H', C σ' H' → N σ' H') → s1 { D with nx := N } σ H) (h2 : ∀ σ' H', C σ' H' → s2 D σ' H') : tSeq s1 s2 D σ H := h1 _ h2
end
/-! ### keywords -/
def kg {α : Type} (d : α) (a b : Nat) (perm : List Nat) (us ws : List α) : List α := if us.length = a ∧ ws.length = b then perm.map fun i => (us ++ ws).getD i d else []
theorem vals_getD : ∀ {vs : List V} {us : List Value}, Vals vs us → ∀ i, RelV (vs.getD i .non) (us.getD i .none)
  | [], [], .nil, _ => rfl
  | _ :: _, _ :: _, .cons h _, 0 => h
  | _ :: _, _ :: _, .cons _ r, i + 1 => vals_getD r i
theorem vals_perm {vs : List V} {us : List Value} (r : Vals vs us) : ∀ p : List Nat, Vals (p.map fun i => vs.getD i .non) (p.map fun i => us.getD i .none)
  | [] => .nil
  | i :: p => .cons (vals_getD r i) (vals_perm r p)
theorem kg_rel {a b : Nat} {p : List Nat} {vs : List V} {us : List Value} {zs : List V} {ws : List Value} (r : Vals vs us) (z : Vals zs ws) : Vals (kg .non a b p vs zs) (kg .none a b p us ws) := by
  unfold kg
  rw [r.length, z.length]
  split
  · exact vals_perm (r.append z) p
  · exact .nil
theorem kg_mk {K : PySem.W.Frag} {fd : FuncData} {q : Str} {ps ks : List Str} {a b : Nat} {p : List Nat} (h : ∀ us ws : List Value, us.length = a → ws.length = b → bindArgs fd ⟨us, ks.zip ws⟩ = pure ((q :: ps).zip (p.map fun i => (us ++ ws).getD i .none))) :
    KBinds K fd (q :: ps) ks (kg .none a b p) (kg .non a b p) := by
  refine ⟨fun s us ws _ hl => ?_, kg_rel⟩
  unfold kg at hl ⊢
  split at hl
  · next c =>
    rw [if_pos c]
    exact .of_eq (h us ws c.1 c.2)
  · cases hl
theorem fun_okN {P : Program} {w : World} {K : PySem.W.Frag} {mg : Str → Option Value} {base : Heap} {CX : CXT} {k : Nat} {f : Addr} {fd : FuncData} {ps : List Str} {sp : Sp} {x qual : Str} {st : Stmt} {N : List Str} (F : Fun K x qual st f fd) (S : FnScope N ps (defScope st)) (size : ∀ vs H Q E, sp vs H Q E → vs.length = ps.length)
    (body : ∀ (cdv : Value) (A : Around) (outer : List Env) (s : Shared) (H : Hp) (vs : List V) (Q : VK) (E : XK), G0 (A.deeper (envOfC qual (defScope st) s.heap.objs.size f cdv)) → Room k (A.deeper (envOfC qual (defScope st) s.heap.objs.size f cdv)) → sp vs H Q E →
      ∃ t, PSs (cxOf CX P w K mg base N qual (defScope st) f cdv A outer s H E).nox (defBody st) t ∧ t { nx := fun _ H' => Q .non H', rt := Q } (start N vs) H) : FnG P w K mg base CX (k + 1) f fd ps sp :=
  fun_okG F S size fun cdv A outer s H vs Q E hG hr h => let ⟨t, d, q⟩ := body cdv A outer s H vs Q E hG hr h; ⟨t, d.nox, q⟩
theorem Fun.kb {K : PySem.W.Frag} {x qual q : Str} {st : Stmt} {f : Addr} {fd : FuncData} {ps ks : List Str} {a b : Nat} {p : List Nat} (F : Fun K x qual st f fd)
    (h : ∀ (kV doc pm : Value) (an : Option Addr) (cdv ct : Value) (us ws : List Value), us.length = a → ws.length = b → bindArgs (PySem.W.fnOf x qual (defArgs st) (defBody st) (defScope st) .none kV doc pm an cdv ct) ⟨us, ks.zip ws⟩ = pure ((q :: ps).zip (p.map fun i => (us ++ ws).getD i .none))) :
    KBinds K fd (q :: ps) ks (kg .none a b p) (kg .non a b p) := by
  obtain ⟨oc, od, kV, doc, pm, an, cdv, ct, osl, rfl, lk, hcd⟩ := F.ex
  exact kg_mk (h kV doc pm an cdv ct)
section
variable {X : Cx} {CX : CXT} {k : Nat} {f : Addr} {fd : FuncData} {ps ks : List Str} {sp : Sp} {E : XK} {x : Str} {p pos : Pos} {e : Expr} {es : List Expr} {kws : List Keyword} {t tk : TA} {g : List Value → List Value → List Value} {gV : List V → List V → List V}
theorem pe_callK0 (F : FnOk X.prog X.w X.K X.mg X.base CX k f fd ps sp) (hr : Room k X.A) (hg : Gl X x) (hm : X.mg x = some (.ref f)) (hk : PySem.W.keepIn X.K (.ref f) = true) (hb : KBinds X.K fd ps ks g gV) (hx : Passes CX X E)
    (hkw : PK X kws tk) (hall : (backToKw pos (keywordEach kws X.env)).all (·.1.isSome) = true := by rfl) (hks : (backToKw pos (keywordEach kws X.env)).filterMap (·.1) = ks := by rfl)
    (hdb : (x == ("__debug__" : Str)) = false := by decide)
    (hpl : ((backTo pos (starEach [] X.env)).any (·.1) || (backToKw pos (keywordEach kws X.env)).any (·.1.isNone)) = false := by rfl) :
    PE X (.Call (.Name x p) [] kws pos) (tCallK sp gV E tNil tk) := by
  refine ⟨fun pins s σ H Q I h => ?_⟩
  refine wpAny_Call_Name_kw (ld_glob I hg hm ?_ hdb)
  refine PySem.W.callWith_KW0 (h₀ := X.base) I.ok.mod.kin hk hall (thn (hkw.run pos pins s σ H _ I h) fun ws s2 ⟨zs, H2, I2, rz, q2⟩ => ⟨I2.kIn, ?_⟩) hpl
  rw [hks]
  exact run_fnk F hr hb hx I2 .nil rz q2
theorem run_fnkG {pins : List (Addr × Obj)} {σ : L2.St} {H : Hp} {s : Shared} {Q : VK} {us ws : List Value} {vs zs : List V} (F : FnG X.prog X.w X.K X.mg X.base CX k f fd ps sp) (g0 : G0 X.A) (hr : Room k X.A) (hb : KBinds X.K fd ps ks g gV) (hx : Passes CX X E)
    (I : Inv X pins σ H s) (r : Vals vs us) (rz : Vals zs ws) (h : sp (gV vs zs) H Q E) : wpAny (model X.prog X.w) X.A (call (.ref f) us (ks.zip ws)) (EP X pins σ Q) X.xe s := by
  have r2 := hb.rel r rz
  have hl : (g us ws).length = ps.length := by rw [← r2.length]; exact F.size _ _ _ _ h
  refine wpAny_call (codeAny_mono (F.go X.A X.stack s H ⟨us, ks.zip ws⟩ (g us ws) (gV vs zs) Q E g0 hr I.env0 (hb.to s us ws I.kIn hl) r2 h) fun r s' hq => ?_)
  cases r with
  | error e => exact hx pins σ H s e s' I hq
  | ok fl =>
    cases fl with
    | ret u => exact I.after hq
    | next => exact False.elim hq
    | brk => exact False.elim hq
    | cont => exact False.elim hq
theorem pe_callKG (F : FnG X.prog X.w X.K X.mg X.base CX k f fd ps sp) (g0 : G0 X.A) (hr : Room k X.A) (hg : Gl X x) (hm : X.mg x = some (.ref f)) (hk : PySem.W.keepIn X.K (.ref f) = true) (hb : KBinds X.K fd ps ks g gV) (hx : Passes CX X E)
    (ha : PA X (e :: es) t) (hkw : PK X kws tk) (hall : (backToKw pos (keywordEach kws X.env)).all (·.1.isSome) = true := by rfl) (hks : (backToKw pos (keywordEach kws X.env)).filterMap (·.1) = ks := by rfl)
    (hdb : (x == ("__debug__" : Str)) = false := by decide) (he : starEach (e :: es) X.env = (false, eval e X.env) :: starEach es X.env := by rfl)
    (hpl : ((backTo pos (starEach (e :: es) X.env)).any (·.1) || (backToKw pos (keywordEach kws X.env)).any (·.1.isNone)) = false := by rfl) :
    PE X (.Call (.Name x p) (e :: es) kws pos) (tCallK sp gV E t tk) := by
  refine ⟨fun pins s σ H Q I h => ?_⟩
  refine wpAny_Call_Name_kw (ld_glob I hg hm ?_ hdb)
  refine PySem.W.callWith_KW (h₀ := X.base) I.ok.mod.kin hk hall (thn (ha.run pos pins s σ H _ I h) fun us s1 ⟨vs, H1, I1, r, q⟩ => ?_) hpl he
  refine thn (hkw.run pos pins s1 σ H1 _ I1 q) fun ws s2 ⟨zs, H2, I2, rz, q2⟩ => ⟨I2.kIn, ?_⟩
  rw [hks]
  exact run_fnkG F g0 hr hb hx I2 r rz q2
end
end BC

set_option Elab.async false
set_option linter.all false
set_option maxRecDepth 100000
set_option maxHeartbeats 4000000
/-! xs[:] = ys -/
namespace BC
open PySem PySem.Spec PyProof.Rows L2 Evl
theorem bounds_all (n : Nat) : sliceBounds none none none n = (((0 : Nat) : Int), ((n : Nat) : Int), 1) := by
  simp [sliceBounds]
section
variable {prog : Program} {w : World} {A : Around} {s : Shared} {E : Value → Shared → Prop}
theorem setItem_all {l b sl : Addr} {items new : Array Value} {n n2 : Nat} {vl vu : Value} {Q : Unit → Shared → Prop}
    (e : s.heap.get? l = some { cls := .type "list", data := .seq items n }) (e2 : s.heap.get? b = some { cls := .type "list", data := .seq new n2 }) (hne : l ≠ b)
    (hs : s.heap.IsSliceOf sl vl vu .none) (pl : IsPart vl none) (pu : IsPart vu none)
    (hsz : items.size + new.size ≤ sizeLine) (h : Q () { s with heap := s.heap.update l (Obj.mapSeq fun xs => xs.extract 0 0 ++ new ++ xs.extract items.size xs.size) }) :
    wpAny (model prog w) A (setItem (.ref l) (.ref sl) (.ref b)) Q E s := by
  have hl : s.heap.IsList l items := PySem.IsL.isList e
  have hb : s.heap.IsList b new := PySem.IsL.isList e2
  obtain ⟨os, hos, hcs, hds⟩ := id hs
  have hTs : s.TypeIs (.ref sl) "slice" := ⟨os, hos, hcs⟩
  have hstep : ¬ ((rawPart none == rawInt 0) = true) := Bool.false_ne_true
  have hsame : Builtin.List.listSameRef (.ref l) (.ref b) = false := by
    unfold Builtin.List.listSameRef
    exact beq_eq_false_iff_ne.mpr hne
  have hmax : (max ((0 : Nat) : Int) ((items.size : Nat) : Int)).toNat = items.size := by omega
  have hz' : ((fun xs : Array Value => xs.extract 0 0 ++ new ++ xs.extract items.size xs.size) items).size ≤ sizeLine + 1 := by
    simp only [Array.size_append, Array.size_extract]
    omega
  unfold setItem
  try with_reducible refine wpAny_holding ?_
  first | refine wpAny_bind (wpAny_pure ?_) | skip
  refine wpAny_bind (wpAny_sequenceKey hl.typeIs (by decide) ?_)
  refine wpAny_bind (wpAny_callSpecial?_slot (name := Str.ofString "__setitem__") hl.typeIs slot_list_setitem
    (wpAny_call_entry slot_list_setitem hl.typeIs entry_list_setitem ?_ (args_list_setitem _ _ _)))
  show wpAny _ _ (Builtin.List.listSubscript? (.ref sl) >>= _) _ _ s
  refine wpAny_bind ?_
  unfold Builtin.List.listSubscript?
  refine wpAny_bind (wpAny_specialOf hTs slice_no_index ?_)
  simp only [Option.isNone_none, if_true]
  refine wpAny_pure ?_
  show wpAny _ _ (typeOf (.ref sl) >>= _) _ _ s
  refine wpAny_bind (wpAny_typeOf hTs ?_)
  first
    | rw [if_neg (by decide)]
    | refine PySem.W.KFB.if_not (by decide) ?_
  rw [listSliceParts_eq]
  refine wpAny_bind (wpAny_bind (wpAny_field hos hds (x := .none) rfl (wpAny_bind (wpAny_listPart .none ?_))))
  rw [if_neg hstep]
  refine wpAny_bind (wpAny_field hos hds (x := vl) rfl (wpAny_bind (wpAny_listPart pl ?_)))
  refine wpAny_bind (wpAny_field hos hds (x := vu) rfl (wpAny_bind (wpAny_listPart pu (wpAny_pure ?_))))
  first
    | simp only [hsame, Bool.false_eq_true, if_false]
    | refine PySem.W.KFB.if_not hsame ?_
    | (dsimp only
       rw [if_neg (by rw [hsame]; exact Bool.false_ne_true)])
  refine wpAny_bind (m := Builtin.List.listAllItems (.ref b) "must assign iterable to extended slice") ?_
  unfold Builtin.List.listAllItems
  refine wpAny_bind (wpAny_typeOf hb.typeIs ?_)
  first
    | refine PySem.W.KFB.if_so (by decide) ?_
    | rw [if_pos (by decide)]
    | simp only [beq_self_eq_true, Bool.true_or, if_true]
  unfold Builtin.List.listItems
  refine wpAny_bind (wpAny_seqItems e2 rfl (wpAny_pure ?_))
  refine wpAny_bind (wpAny_bind (wpAny_seqItems e rfl (wpAny_pure ?_)))
  refine wpAny_bind (wpAny_of_eq ((sliceIndices_raw none none none items.size (by simp)).trans (congrArg (pure : Int × Int × Int → Sem (Int × Int × Int)) (bounds_all items.size))) ?_)
  show wpAny _ _ (if ((1 : Int) == 1) = true then _ else _) _ _ s
  rw [if_pos (by decide)]
  refine wpAny_bind (wpAny_rule ?_)
  first
    | simp only [notLongL hsz, Bool.false_eq_true, if_false]
    | refine PySem.W.KFB.if_not (notLongL hsz) ?_
  first | refine wpAny_bind (wpAny_pure ?_) | skip
  show wpAny _ _ (updateSeq l (fun xs => xs.extract 0 ((0 : Nat) : Int).toNat ++ new ++ xs.extract (max ((0 : Nat) : Int) ((items.size : Nat) : Int)).toNat xs.size) >>= _) _ _ s
  rw [hmax, Int.toNat_natCast]
  refine wpAny_bind (wpAny_updateSeq (hz := Nat.le_trans (Nat.le_add_right _ _) hsz) (_hz' := hz') e rfl ?_)
  refine wpAny_bind (wpAny_letGo ?_)
  first
    | exact wpAny_bind (wpAny_pure (wpAny_pure ⟨.none, rfl, wpAny_pure h⟩))
    | exact wpAny_pure ⟨.none, rfl, wpAny_pure h⟩
end
section
variable {X : Cx} {o e : Expr} {to : TE} {p2 pos : Pos}
/-- o[:] = v, both lists -/
def gAll (to : TE) : TG := fun v σ H QG => to σ H fun x H1 => ∃ a b xs ys, x = .ref a ∧ v = .ref b ∧ a ≠ b ∧ H1 a = some (.lst xs) ∧ H1 b = some (.lst ys) ∧ xs.length + ys.length ≤ sizeLine ∧ QG σ (upd H1 a (.lst ys))
theorem set_all {pins : List (Addr × Obj)} {s : Shared} {σ : L2.St} {H : Hp} {l b sl : Addr} {xs ys : List V} {vl vu : Value} {Q : Unit → Shared → Prop} (I : Inv X pins σ H s)
    (hH : H l = some (.lst xs)) (hB : H b = some (.lst ys)) (hne : l ≠ b) (hs : s.heap.IsSliceOf sl vl vu .none) (pl : IsPart vl none) (pu : IsPart vu none)
    (hz : xs.length + ys.length ≤ sizeLine) (h : ∀ s', Inv X pins σ (upd H l (.lst ys)) s' → Q () s') :
    wpAny (model X.prog X.w) X.A (setItem (.ref l) (.ref sl) (.ref b)) Q X.xe s := by
  obtain ⟨z, its, n, r, hl, e⟩ := I.lstM hH
  obtain ⟨z2, its2, n2, r2, hl2, e2⟩ := I.lstM hB
  refine setItem_all e e2 hne hs pl pu (by rw [List.size_toArray, List.size_toArray]; omega) (h _ ?_)
  refine I.lset (its' := its2) (t' := s.toks) hH e ?_ r2 (by omega)
  simp
theorem pg_all (ho : PE X o to)
    (ha0 : ∀ v, assign (.Subscript o (.Slice none none none p2) pos) X.env v = (do
      let ov ← holding [v] (eval o X.env)
      let iv ← holding [v, ov] (eval (.Slice none none none p2) X.env)
      standAt pos
      holding [v, ov, iv] (setItem ov iv v)
      release [iv, v, ov] []) := by intro _; rfl) : PG X (.Subscript o (.Slice none none none p2) pos) (gAll to) := by
  refine ⟨fun pins s σ H v u Q I r h => ?_⟩
  rw [ha0]
  refine wpAny_bind (wpAny_holding (thn (ho.run pins s σ H _ I h) fun ov s1 ⟨x, H1, I1, r1, q1⟩ => ?_))
  obtain ⟨a, b, xs, ys, rfl, rfl, hne, ha, hb, hz, q⟩ := q1
  cases r1
  cases r
  refine wpAny_bind (wpAny_holding ?_)
  refine wpAny_Slice ?_
  rw [evalPart_none]
  refine wpAny_pure ?_
  refine wpAny_pure ?_
  refine wpAny_pure ?_
  have I4 : Inv X pins σ H1 { s1 with heap := s1.heap.push { cls := .type "slice", data := .fields #[.none, .none, .none] } } := I1.kept (t' := s1.toks) fun b ob q => Heap.get?_push_of_some _ q
  refine wpAny_bind (wpAny_standAt (wpAny_bind (wpAny_holding ?_)))
  refine set_all I4 ha hb hne (Heap.IsSliceOf.new ..) .none .none hz fun s' I5 => ?_
  exact wpAny_release ⟨σ, _, I5, q⟩
def rDivmod : List V → Hp → VK → Prop := fun xs H Q => ∃ i j, xs = [.int i, .int j] ∧ CDivW i j ∧ ∀ p, H p = none → Q (.ref p) (upd H p (.tup [.int (i / j), .int (i % j)]))
theorem call_dmX : CallR X (.builtin "divmod") rDivmod := by
  intro pins s σ H xs us Q I r h
  obtain ⟨i, j, rfl, hc, q⟩ := h
  obtain ⟨u, u2, rfl, ⟨t, rfl⟩, ⟨t2, rfl⟩⟩ := vals2 r
  have pos : 0 < j := hc.1
  have new := I.hok.fresh (Nat.le_refl s.heap.objs.size)
  refine divmod_int (by omega) ?_ (.inl (PyProof.noPylong_of_log2 hc.2))
  rw [Int.fdiv_eq_ediv_of_nonneg i (by omega), Int.fmod_eq_emod_of_nonneg i (by omega)]
  refine ⟨.ref s.heap.objs.size, _, ?_, rfl, q _ new⟩
  refine I.laid (fun b o e => Heap.get?_push_of_some _ e) (Nat.le_refl _) ⟨?_, [.int (i / j) s.toks, .int (i % j) (s.toks + 1)], .cons ⟨_, rfl⟩ (.cons ⟨_, rfl⟩ .nil), ?_⟩
  · exact Evl.sz_of (by simp)
  · exact ⟨_, Heap.get?_push_size s.heap rfl, rfl, 0, rfl⟩
theorem x_gall {σ : L2.St} {H : Hp} {v : V} {QG : L2.St → Hp → Prop} : gAll to v σ H QG = to σ H fun x H1 => ∃ a b xs ys, x = .ref a ∧ v = .ref b ∧ a ≠ b ∧ H1 a = some (.lst xs) ∧ H1 b = some (.lst ys) ∧ xs.length + ys.length ≤ sizeLine ∧ QG σ (upd H1 a (.lst ys)) := rfl
end
end BC

set_option Elab.async false
set_option linter.all false
set_option maxRecDepth 100000
set_option maxHeartbeats 4000000
/-! comprehensions that change what stands, or whose values are chosen as they come -/
namespace BC
open PySem PySem.Spec PyProof.Rows L2 Evl
section
variable {K : PySem.W.Frag} {σ : L2.St} {H1 : Hp} {g : TG} {te : TE} {vs : List Nat} {Dl : Addr} {Q : VK}
theorem lc_rngE {lo : Int} {n : Nat} (Pv : Nat → Hp → Prop) (h0 : Pv 0 (upd H1 Dl (.lst [])))
    (hs : ∀ i H, i < n → Pv i H → g (.int (lo + i)) (wipe σ vs) H fun σ2 H2 => wipe σ2 vs = wipe σ vs ∧ te σ2 H2 fun y H4 => ∃ acc, H4 Dl = some (.lst acc) ∧ acc.length < sizeLine ∧ Pv (i + 1) (upd H4 Dl (.lst (acc ++ [y]))))
    (hd : ∀ H, Pv n H → Q (.ref Dl) H) : LcG (Itr lo n) g tYes te vs σ Dl H1 Q := by
  refine lc_g n Pv h0 (fun H h => Nat.le_refl _) (fun i H hi h => hi) (fun i H x H' hi h y => ?_) hd
  obtain ⟨rfl, rfl⟩ := y
  have q := hs i _ hi h
  exact q
theorem lc_listE {a : Addr} {xs : List V} (Pv : Nat → Hp → Prop) (h0 : Pv 0 (upd H1 Dl (.lst []))) (hl : ∀ i H, i ≤ xs.length → Pv i H → SqL K H a xs)
    (hs : ∀ i x H, xs[i]? = some x → Pv i H → g x (wipe σ vs) H fun σ2 H2 => wipe σ2 vs = wipe σ vs ∧ te σ2 H2 fun y H4 => ∃ acc, H4 Dl = some (.lst acc) ∧ acc.length < sizeLine ∧ Pv (i + 1) (upd H4 Dl (.lst (acc ++ [y]))))
    (hd : ∀ H, Pv xs.length H → Q (.ref Dl) H) : LcG (Itl K a) g tYes te vs σ Dl H1 Q := by
  refine lc_g xs.length Pv h0 (fun H h => ⟨xs, hl _ H (Nat.le_refl _) h, Nat.le_refl _⟩) (fun i H hi h => ⟨xs, xs[i], hl i H (by omega) h, List.getElem?_eq_getElem hi⟩) (fun i H x H' hi h y => ?_) hd
  obtain ⟨rfl, hf⟩ := y
  exact hs i x _ (hf xs (hl i _ (by omega) h)) h
end
/-- a fourfold tuple unpacked -/
theorem g_four {K : PySem.W.Frag} {σ : L2.St} {H : Hp} {i j l m : Nat} {T : Addr} {x y z u : V} {QG : L2.St → Hp → Prop} (h : H T = some (.tup [x, y, z, u])) (q : QG ((((σ.set i (some x)).set j (some y)).set l (some z)).set m (some u)) H) : gTup K 4 (gCons (gName i) (gCons (gName j) (gCons (gName l) (gCons (gName m) gNil)))) (.ref T) σ H QG :=
  ⟨T, [x, y, z, u], rfl, .inl (.inl h), rfl, x, [y, z, u], rfl, y, [z, u], rfl, z, [u], rfl, u, [], rfl, rfl, q⟩
theorem revL {H : Hp} {Q : VK} {p : Addr} {xs : List V} (h : H p = some (.lst xs)) (q : Q .non (upd H p (.lst xs.reverse))) : rReverse (.ref p) [] H Q := ⟨p, xs, rfl, rfl, h, q⟩
theorem Sh.mono {n m : Nat} {d : PyData} (h : Sh n d) (e : n ≤ m) : Sh m d := by
  induction h generalizing m with
  | non n => exact .non m
  | bl n b => exact .bl m b
  | int n i => exact .int m i
  | str n x => exact .str m x
  | @lst n ds hl h ih =>
    cases m with
    | zero => omega
    | succ m => exact .lst hl fun d hd => ih d hd (by omega)
  | @tup n ds hl h ih =>
    cases m with
    | zero => omega
    | succ m => exact .tup hl fun d hd => ih d hd (by omega)
end BC

set_option Elab.async false
set_option linter.all false
set_option maxRecDepth 100000
set_option maxHeartbeats 4000000
/-! visits and their trails, lists of numbers, their repr -/
namespace BC
open PySem PySem.Spec PyProof.Rows L2 Evl
/-! ### data whose repr is short -/
structure Tm (d : PyData) : Prop where
  s : d.showable = true
  n : d.hasDict = false
  l : d.leavesShort 13 = true
theorem Tm.int {i : Int} (h : i.natAbs < 10 ^ 12) : Tm (.int i) := ⟨by
  show decide (i.natAbs.log2 < 1920) = true
  refine decide_eq_true ?_
  by_cases z : i.natAbs = 0
  · rw [z]; decide
  · exact (Nat.log2_lt z).mpr (Nat.lt_of_lt_of_le h (by decide +kernel)), rfl, by
  show decide (_ ≤ 13) = true
  exact decide_eq_true (PyData.shown_int_le h)⟩
theorem Tm.all {ds : List PyData} (h : ∀ d ∈ ds, Tm d) : PyData.showableAll ds = true ∧ PyData.hasDictAll ds = false ∧ PyData.leavesShortAll 13 ds = true := by
  induction ds with
  | nil => exact ⟨rfl, rfl, rfl⟩
  | cons d ds ih =>
    have a := h d List.mem_cons_self
    obtain ⟨b1, b2, b3⟩ := ih fun e m => h e (List.mem_cons_of_mem _ m)
    refine ⟨?_, ?_, ?_⟩
    · show (d.showable && _) = true
      rw [a.s, b1]; rfl
    · show (d.hasDict || _) = false
      rw [a.n, b2]; rfl
    · show (d.leavesShort 13 && _) = true
      rw [a.l, b3]; rfl
theorem Tm.list {ds : List PyData} (h : ∀ d ∈ ds, Tm d) : Tm (.list ds) := ⟨by simp only [PyData.showable]; exact (Tm.all h).1, by simp only [PyData.hasDict]; exact (Tm.all h).2.1, by simp only [PyData.leavesShort]; exact (Tm.all h).2.2⟩
theorem Tm.tuple {ds : List PyData} (h : ∀ d ∈ ds, Tm d) : Tm (.tuple ds) := ⟨by simp only [PyData.showable]; exact (Tm.all h).1, by simp only [PyData.hasDict]; exact (Tm.all h).2.1, by simp only [PyData.leavesShort]; exact (Tm.all h).2.2⟩
theorem wt_int {i : Int} (h : i.natAbs < 2 ^ 40) : (PyData.int i).weight ≤ 40 := by
  simp only [PyData.weight]
  split
  · omega
  · next z =>
    have z0 : i.natAbs ≠ 0 := fun e => z (by rw [Int.natAbs_eq_zero.mp e]; rfl)
    have := (Nat.log2_lt z0).mpr h
    omega
theorem wt_all {ds : List PyData} {n : Nat} (h : ∀ d ∈ ds, d.weight ≤ n) : PyData.weightAll ds ≤ (n + 1) * ds.length := by
  induction ds with
  | nil => simp [PyData.weightAll]
  | cons d ds ih =>
    have a := h d List.mem_cons_self
    have b := ih fun e m => h e (List.mem_cons_of_mem _ m)
    simp only [PyData.weightAll, List.length_cons, Nat.mul_add]
    omega
theorem dep_all {ds : List PyData} {n : Nat} (h : ∀ d ∈ ds, d.depth ≤ n) : PyData.depthAll ds ≤ n := by
  induction ds with
  | nil => simp [PyData.depthAll]
  | cons d ds ih =>
    have a := h d List.mem_cons_self
    have b := ih fun e m => h e (List.mem_cons_of_mem _ m)
    simp only [PyData.depthAll]
    omega
section
variable {K : PySem.W.Frag} {H : Hp} {Q : VK} {a : Addr}
theorem reprX {d : PyData} (h : Dp K H (.ref a) d) (t : Tm d) (dp : d.depth ≤ 60) (wt : d.weight ≤ 2 ^ 20) (q : Q (.str d.shown) H) : rRepr K [.ref a] H Q :=
  ⟨a, d, rfl, h, t.s, dp, t.n, PyData.shown_fits (B := 13) (by decide) (by decide) t.l wt, q⟩
/-- what repr of a list of numbers says -/
def shInts (ns : List Int) : Str := (PyData.list (ns.map PyData.int)).shown
theorem reprInts {ns : List Int} (h : SqL K H a (ns.map V.int)) (hs : ∀ n ∈ ns, n.natAbs < 10 ^ 12) (hl : ns.length ≤ 20000) (q : Q (.str (shInts ns)) H) : rRepr K [.ref a] H Q := by
  refine reprX (.lst h (dp_ints ns)) (.list fun d m => ?_) ?_ ?_ q
  · obtain ⟨n, hn, rfl⟩ := List.mem_map.mp m
    exact .int (hs n hn)
  · simp only [PyData.depth]
    have := dep_all (ds := ns.map PyData.int) (n := 0) fun d m => by
      obtain ⟨n, hn, rfl⟩ := List.mem_map.mp m
      simp [PyData.depth]
    omega
  · simp only [PyData.weight]
    have := wt_all (ds := ns.map PyData.int) (n := 40) fun d m => by
      obtain ⟨n, hn, rfl⟩ := List.mem_map.mp m
      exact wt_int (Nat.lt_of_lt_of_le (hs n hn) (by decide +kernel))
    rw [List.length_map] at this
    omega
/-! ### in, index, a part of a list of numbers -/
theorem flat_ints (ns : List Int) : (ns.map V.int).all flatV = true := by
  rw [List.all_eq_true]
  intro x hx
  obtain ⟨n, _, rfl⟩ := List.mem_map.mp hx
  rfl
theorem inV_ints (p : Int) (ns : List Int) : inV (.int p) (ns.map V.int) = decide (p ∈ ns) := by
  unfold inV
  rw [List.any_map]
  by_cases h : p ∈ ns
  · rw [decide_eq_true h, List.any_eq_true]
    exact ⟨p, h, by simp [eqV]⟩
  · rw [decide_eq_false h, List.any_eq_false]
    intro x hx
    have : x ≠ p := fun e => h (e ▸ hx)
    simp [eqV, this]
theorem inL {p : Int} {ns : List Int} (h : SqL K H a (ns.map V.int)) (q : Q (.bl (decide (p ∈ ns))) H) : rIn K false (.int p) (.ref a) H Q :=
  ⟨a, _, rfl, .inl h, rfl, flat_ints ns, by rw [inV_ints]; exact q⟩
theorem ninL {p : Int} {ns : List Int} (h : SqL K H a (ns.map V.int)) (q : Q (.bl (!decide (p ∈ ns))) H) : rIn K true (.int p) (.ref a) H Q :=
  ⟨a, _, rfl, .inl h, rfl, flat_ints ns, by rw [inV_ints]; exact q⟩
theorem idxL {p : Int} {ns : List Int} (h : SqL K H a (ns.map V.int)) (hp : p ∈ ns) (q : Q (.int (ns.idxOf p : Nat)) H) : rIndex K (.ref a) [.int p] H Q := by
  have hl := List.idxOf_lt_length_of_mem hp
  refine ⟨a, _, _, ns.idxOf p, .int p, rfl, rfl, h, rfl, flat_ints ns, ?_, by simp [eqV], fun m z hm hz => ?_, q⟩
  · rw [List.getElem?_map, List.getElem?_eq_getElem hl, List.getElem_idxOf hl]
    rfl
  · rw [List.getElem?_map] at hz
    have hml : m < ns.length := by omega
    rw [List.getElem?_eq_getElem hml] at hz
    cases hz
    have ne : ns[m] ≠ p := fun e => by
      have := List.not_of_lt_findIdx (p := fun x => x == p) (xs := ns) hm
      simp [e] at this
    simp [eqV, ne]
/-- numbers that are kept -/
theorem kept_ints (n : Nat) (k : Nat → Bool) (f : Nat → Int) : ∃ fr : List Int, kept n k (fun i => V.int (f i)) = fr.map V.int ∧ (∀ x ∈ fr, ∃ i, i < n ∧ k i = true ∧ x = f i) ∧ (fr = [] → ∀ i, i < n → k i = false) := by
  induction n with
  | zero => exact ⟨[], rfl, fun x h => (List.not_mem_nil h).elim, fun _ i h => by omega⟩
  | succ n ih =>
    obtain ⟨fr, h1, h2, h3⟩ := ih
    cases c : k n with
    | true =>
      refine ⟨fr ++ [f n], by rw [kept_yes c, h1, List.map_append]; rfl, fun x h => ?_, fun e => by simp at e⟩
      rcases List.mem_append.mp h with h | h
      · obtain ⟨i, a, b⟩ := h2 x h
        exact ⟨i, by omega, b⟩
      · exact ⟨n, by omega, c, List.mem_singleton.mp h⟩
    | false =>
      refine ⟨fr, by rw [kept_no c, h1], fun x h => ?_, fun e i hi => ?_⟩
      · obtain ⟨i, a, b⟩ := h2 x h
        exact ⟨i, by omega, b⟩
      · by_cases q : i = n
        · rw [q]; exact c
        · exact h3 e i (by omega)
theorem rgV_ints (a b : Int) : rgV a b = ((List.range (b - a).toNat).map fun i => a + ((i : Nat) : Int)).map V.int := by
  unfold rgV
  rw [List.map_map]
  rfl
theorem shp_ints (ns : List Int) : SeqAt.shaped (.list (ns.map PyData.int)) = true := by
  have h1 : ∀ ns : List Int, PyData.canLayAll0 (ns.map PyData.int) = true := fun ns => by
    induction ns with
    | nil => simp [PyData.canLayAll0]
    | cons n ns ih => simp [PyData.canLayAll0, PyData.canLay0, ih]
  have h2 := dep_all (ds := ns.map PyData.int) (n := 0) fun d m => by
      obtain ⟨n, hn, rfl⟩ := List.mem_map.mp m
      simp [PyData.depth]
  show (PyData.canLay0 _ && decide (PyData.depth _ ≤ 64)) = true
  rw [Bool.and_eq_true]
  refine ⟨?_, decide_eq_true ?_⟩
  · simp only [PyData.canLay0]; exact h1 ns
  · simp only [PyData.depth]; omega
theorem eqv_ints : ∀ ns ms : List Int, PyData.eqv (.list (ns.map PyData.int)) (.list (ms.map PyData.int)) = decide (ns = ms) := fun ns ms => by
  simp only [PyData.eqv]
  induction ns generalizing ms with
  | nil => cases ms <;> simp [PyData.eqvAll]
  | cons n ns ih =>
    cases ms with
    | nil => simp [PyData.eqvAll]
    | cons m ms =>
      simp only [List.map_cons, PyData.eqvAll, PyData.eqv, ih]
      by_cases h : n = m
      · subst h; simp
      · simp [h]
theorem eqInts {b : Addr} {ns ms : List Int} (h : SqL K H a (ns.map V.int)) (g : SqL K H b (ms.map V.int)) (q : Q (.bl (decide (ns = ms))) H) : rEqD K (.ref a) (.ref b) H Q :=
  ⟨_, _, .lst h (dp_ints ns), .lst g (dp_ints ms), shp_ints ns, shp_ints ms, by rw [eqv_ints]; exact q⟩
theorem neInts {b : Addr} {ns ms : List Int} (h : SqL K H a (ns.map V.int)) (g : SqL K H b (ms.map V.int)) (q : Q (.bl (!decide (ns = ms))) H) : rNeD K (.ref a) (.ref b) H Q :=
  ⟨_, _, .lst h (dp_ints ns), .lst g (dp_ints ms), shp_ints ns, shp_ints ms, by rw [eqv_ints]; exact q⟩
theorem pickI {ns : List Int} {r : Int} (h0 : 0 ≤ r) (h1 : r < ns.length) : ∃ n, n ∈ ns ∧ atI (ns.map V.int) r = some (.int n) := by
  obtain ⟨v, hv, e⟩ := pick (xs := ns.map V.int) h0 (by rw [List.length_map]; exact h1)
  obtain ⟨n, hn, rfl⟩ := List.mem_map.mp hv
  exact ⟨n, hn, e⟩
theorem cut_to (xs : List V) {i : Int} {j : Nat} (e : i = (j : Int)) (h : j ≤ xs.length) : cutV xs none (some i) = xs.take j := by
  subst e
  unfold cutV
  have e1 : HT.sIx xs.length 0 none = 0 := rfl
  rw [HT.sIx_nat, e1, List.drop_zero, Nat.sub_zero, Nat.min_eq_left h]
theorem slL {lo hi : Option Int} {xs : List V} (h : SqL K H a xs) (q : ∀ p, H p = none → Q (.ref p) (upd H p (.lst (cutV xs lo hi)))) : rSlL K (.ref a) lo hi H Q := ⟨a, xs, rfl, h, q⟩
theorem tyLL {xs : List V} (h : SqL K H a xs) : tyV K "list" (.ref a) H := Or.inl ⟨rfl, _, h⟩
end
end BC
namespace TR
/-! ### trails -/
def Pg (w : Int) (l : List Int) : Prop := ∀ x ∈ l, 0 ≤ x ∧ x < w
def vis (t : List Int) (p : Int) : List Int := if p ∈ t then t.take (t.idxOf p + 1) else t ++ [p]
def trl (row : List Int) : List Int := row.foldl vis []
/-- the lengths of the trails -/
def lens (row : List Int) : List Int := (List.range row.length).map fun i => ((trl (row.take (i + 1))).length : Int)
theorem vis_mem {t : List Int} {p x : Int} (h : x ∈ vis t p) : x ∈ t ∨ x = p := by
  unfold vis at h
  split at h
  · exact .inl (List.mem_of_mem_take h)
  · simpa using h
theorem vis_nodup {t : List Int} {p : Int} (h : t.Nodup) : (vis t p).Nodup := by
  unfold vis
  split
  · exact h.sublist (List.take_sublist _ _)
  · next n =>
    rw [List.nodup_append]
    exact ⟨h, List.nodup_cons.mpr ⟨List.not_mem_nil, List.nodup_nil⟩, fun a ha b hb e => n (by simp at hb; rw [← hb, ← e]; exact ha)⟩
theorem vis_pos (t : List Int) (p : Int) : 1 ≤ (vis t p).length := by
  unfold vis
  split
  · next h =>
    have := List.idxOf_lt_length_of_mem h
    rw [List.length_take]; omega
  · rw [List.length_append, List.length_singleton]; omega
theorem vis_le (t : List Int) (p : Int) : (vis t p).length ≤ t.length + 1 := by
  unfold vis
  split
  · rw [List.length_take]; omega
  · rw [List.length_append, List.length_singleton]; omega
theorem vis_pg {w : Int} {t : List Int} {p : Int} (h : Pg w t) (h0 : 0 ≤ p) (h1 : p < w) : Pg w (vis t p) := fun x hx => by
  rcases vis_mem hx with h2 | rfl
  · exact h x h2
  · exact ⟨h0, h1⟩
theorem trl_snoc {row : List Int} {i : Nat} {p : Int} (h : row[i]? = some p) : trl (row.take (i + 1)) = vis (trl (row.take i)) p := by
  unfold trl
  rw [List.take_add_one, h, List.foldl_append]
  rfl
theorem fold_ok {w : Int} : ∀ {row t : List Int}, Pg w row → Pg w t → t.Nodup → Pg w (row.foldl vis t) ∧ (row.foldl vis t).Nodup
  | [], _, _, h2, h3 => ⟨h2, h3⟩
  | p :: row, t, h1, h2, h3 => fold_ok (row := row) (t := vis t p) (fun x hx => h1 x (List.mem_cons_of_mem _ hx)) (vis_pg h2 (h1 p List.mem_cons_self).1 (h1 p List.mem_cons_self).2) (vis_nodup h3)
theorem Pg.take {w : Int} {l : List Int} (h : Pg w l) (n : Nat) : Pg w (l.take n) := fun x hx => h x (List.mem_of_mem_take hx)
theorem Pg.mono {w v : Int} {l : List Int} (h : Pg w l) (e : w ≤ v) : Pg v l := fun x hx => ⟨(h x hx).1, by have := (h x hx).2; omega⟩
theorem Pg.at {w : Int} {l : List Int} (h : Pg w l) {i : Nat} {p : Int} (e : l[i]? = some p) : 0 ≤ p ∧ p < w := h p (List.mem_of_getElem? e)
theorem pg_nil (w : Int) : Pg w [] := fun _ m => (List.not_mem_nil m).elim
theorem trl_pg {w : Int} {row : List Int} (h : Pg w row) : Pg w (trl row) := (fold_ok h (pg_nil w) List.nodup_nil).1
theorem trl_nodup {w : Int} {row : List Int} (h : Pg w row) : (trl row).Nodup := (fold_ok h (pg_nil w) List.nodup_nil).2
/-- so many different pages at most -/
theorem nodup_len : ∀ (n : Nat) {l : List Int}, l.Nodup → Pg n l → l.length ≤ n
  | 0, [], _, _ => Nat.le_refl _
  | 0, x :: l, _, h => by have := h x List.mem_cons_self; omega
  | n + 1, l, h1, h2 => by
    by_cases m : ((n : Nat) : Int) ∈ l
    · have h3 := nodup_len n (l := l.erase (n : Int)) (h1.erase _) (fun x hx => by
        have a := h2 x (List.mem_of_mem_erase hx)
        have b : x ≠ (n : Int) := fun e => by
          rw [h1.mem_erase_iff] at hx
          exact hx.1 e
        omega)
      have := List.length_erase_of_mem m
      omega
    · have h3 := nodup_len n h1 (fun x hx => by
        have a := h2 x hx
        have b : x ≠ (n : Int) := fun e => m (e ▸ hx)
        omega)
      omega
theorem trl_len {n : Nat} {row : List Int} (h : Pg n row) : (trl row).length ≤ n := nodup_len n (trl_nodup h) (trl_pg h)
theorem lens_len (row : List Int) : (lens row).length = row.length := by unfold lens; rw [List.length_map, List.length_range]
theorem lens_at {row : List Int} {i : Nat} (h : i < row.length) : (lens row)[i]? = some ((trl (row.take (i + 1))).length : Int) := by
  unfold lens
  rw [List.getElem?_map, List.getElem?_range h]
  rfl
end TR

set_option Elab.async false
set_option linter.all false
set_option maxRecDepth 100000
set_option maxHeartbeats 4000000
/-! defs with one keyword-only parameter that has a default -/
namespace BC
open PySem PySem.Spec PyProof.Rows L2 Evl
theorem kwd1 {K : PySem.W.Frag} {x qual : Str} {st : Stmt} {f D : Addr} {ps : List Str} {nm : Str} {v : V} {u : Value} {n : Nat} {oc : Value} {od : Option Addr} {doc pm : Value} {an : Option Addr} {cdv ct : Value} {osl : Array (Option Value)}
    (lk : K.lookup f = some ⟨oc, od, .func (PySem.W.fnOf x qual (defArgs st) (defBody st) (defScope st) .none (.ref D) doc pm an cdv ct), osl⟩) (hcd : PySem.W.codeIn K cdv qual = true) (kp : PySem.W.keepIn K (.ref f) = true)
    (hq : PySem.W.nsIn K D nm = some (some u)) (hr : RelV v u) (hn : n + 1 = ps.length)
    (h : ∀ (D : Addr) (doc pm : Value) (an : Option Addr) (cdv ct : Value) (us ks : List Value), us.length = n → ks.length = 1 →
      KwChain D ([nm].zip ks) (bindArgs (PySem.W.fnOf x qual (defArgs st) (defBody st) (defScope st) .none (.ref D) doc pm an cdv ct) ⟨us, []⟩) (ps.zip (us ++ ks))) :
    ∃ ds, Vals [v] ds ∧ Binds K (PySem.W.fnOf x qual (defArgs st) (defBody st) (defScope st) .none (.ref D) doc pm an cdv ct) ps ds := by
  have F : FunD K x qual (defArgs st) (defBody st) (defScope st) [] [(nm, v)] f (PySem.W.fnOf x qual (defArgs st) (defBody st) (defScope st) .none (.ref D) doc pm an cdv ct) :=
    ⟨⟨oc, od, _, _, doc, pm, an, cdv, ct, osl, rfl, lk, hcd, .inl ⟨rfl, rfl⟩, .inr ⟨D, rfl, fun q hm => by
      obtain rfl : q = (nm, v) := by simpa using hm
      exact ⟨u, hq, hr⟩⟩⟩, kp⟩
  have z := F.binds0 n (by simp) (by simpa using hn) h
  exact z
/-! ### the bag of draws: a list of three numbers -/
def BagAt (H : Hp) (b : Addr) (c : Nat) : Prop := ∃ x0 x1 x2 : Int, H b = some (.lst [.int x0, .int x1, .int x2]) ∧ 0 ≤ x1 ∧ x1 < 10 ^ 65 ∧ 0 ≤ x2 ∧ x2 ≤ c
theorem BagAt.ex {H H' : Hp} {b : Addr} {c : Nat} (h : BagAt H b c) (e : Ex H H') : BagAt H' b c := by
  obtain ⟨x0, x1, x2, hb, r⟩ := h
  exact ⟨x0, x1, x2, e _ _ hb, r⟩
theorem BagAt.mono {H : Hp} {b : Addr} {c d : Nat} (h : BagAt H b c) (e : c ≤ d) : BagAt H b d := by
  obtain ⟨x0, x1, x2, hb, h1, h2, h3, h4⟩ := h
  exact ⟨x0, x1, x2, hb, h1, h2, h3, by omega⟩
theorem BagAt.some {H : Hp} {b : Addr} {c : Nat} (h : BagAt H b c) : ∃ o, H b = Option.some o := by
  obtain ⟨x0, x1, x2, hb, _⟩ := h
  exact ⟨_, hb⟩
theorem BagAt.apart {H : Hp} {b z : Addr} {c : Nat} (h : BagAt H b c) (nz : H z = none) : z ≠ b := fun e => by
  obtain ⟨o, ho⟩ := h.some
  subst e
  rw [ho] at nz
  cases nz
theorem BagAt.off {H : Hp} {b z : Addr} {c : Nat} {o : HO} (h : BagAt H b c) (nz : z ≠ b) : BagAt (upd H z o) b c := by
  obtain ⟨x0, x1, x2, hb, r⟩ := h
  exact ⟨x0, x1, x2, by rw [upd_ne (Ne.symm nz)]; exact hb, r⟩
theorem BagAt.ne {H : Hp} {b z : Addr} {c : Nat} (h : BagAt H b c) (nb : H z = none) : b ≠ z := fun e => h.apart nb e.symm
/-- the greatest number of ways that is drawn from -/
def BIG : Int := 2 ^ 2000
theorem big_of {m : Int} (h : m ≤ 100000) : m ≤ BIG := Int.le_trans h (by decide +kernel)
theorem big_lt {m : Int} (h : 0 < m) (h2 : m ≤ BIG) : m.natAbs < 2 ^ 2001 := by
  have a : m.natAbs ≤ BIG.natAbs := by omega
  exact Nat.lt_of_le_of_lt a (by decide +kernel)
def spDraw : Sp := fun vs H Q _ => ∃ (b : Addr) (m : Int) (c : Nat), vs = [.ref b, .int m] ∧ 0 < m ∧ m ≤ BIG ∧ BagAt H b c ∧ c ≤ 1000000 ∧ ∀ r H', 0 ≤ r → r < m → Fx b H H' → BagAt H' b (c + 1) → Q (.int r) H'
/-! ### lists of lists of numbers, shown -/
def dLL (ls : List (List Int)) : PyData := .list (ls.map fun l => .list (l.map PyData.int))
theorem tm_ints {l : List Int} (h : ∀ x ∈ l, x.natAbs < 10 ^ 12) : Tm (.list (l.map PyData.int)) := .list fun d m => by
  obtain ⟨x, hx, rfl⟩ := List.mem_map.mp m
  exact .int (h x hx)
theorem wt_ints {l : List Int} (h : ∀ x ∈ l, x.natAbs < 10 ^ 12) : (PyData.list (l.map PyData.int)).weight ≤ 41 * l.length := by
  simp only [PyData.weight]
  have := wt_all (ds := l.map PyData.int) (n := 40) fun d m => by
      obtain ⟨n, hn, rfl⟩ := List.mem_map.mp m
      exact wt_int (Nat.lt_of_lt_of_le (h n hn) (by decide +kernel))
  rw [List.length_map] at this
  exact this
theorem dp_ll {K : PySem.W.Frag} {H : Hp} {ps : List Addr} : ∀ {ls : List (List Int)}, ps.length = ls.length → (∀ (i : Nat) (p : Addr) (l : List Int), ps[i]? = some p → ls[i]? = some l → SqL K H p (l.map V.int)) → DpAll K H (ps.map V.ref) (ls.map fun l => PyData.list (l.map PyData.int)) := fun {ls} => by
  induction ps generalizing ls with
  | nil =>
    intro h _
    cases ls with
    | nil => exact .nil
    | cons l ls => simp at h
  | cons p ps ih =>
    intro h g
    cases ls with
    | nil => simp at h
    | cons l ls => exact .cons (.lst (g 0 p l rfl rfl) (dp_ints l)) (ih (by simpa using h) fun i q m a b => g (i + 1) q m (by rw [List.getElem?_cons_succ]; exact a) (by rw [List.getElem?_cons_succ]; exact b))
theorem reprLL {K : PySem.W.Frag} {H : Hp} {Q : VK} {a : Addr} {ls : List (List Int)} {n : Nat} (h : Dp K H (.ref a) (dLL ls)) (hv : ∀ l ∈ ls, ∀ x ∈ l, x.natAbs < 10 ^ 12) (hl : ∀ l ∈ ls, l.length ≤ n) (hz : (41 * n + 1) * ls.length ≤ 2 ^ 20) (q : Q (.str (dLL ls).shown) H) : rRepr K [.ref a] H Q := by
  refine reprX h (.list fun d m => ?_) ?_ ?_ q
  · obtain ⟨l, hm, rfl⟩ := List.mem_map.mp m
    exact tm_ints (hv l hm)
  · unfold dLL
    simp only [PyData.depth]
    have := dep_all (ds := ls.map fun l => PyData.list (l.map PyData.int)) (n := 1) fun d m => by
      obtain ⟨l, hm, rfl⟩ := List.mem_map.mp m
      simp only [PyData.depth]
      have := dep_all (ds := l.map PyData.int) (n := 0) fun d m => by
        obtain ⟨x, hx, rfl⟩ := List.mem_map.mp m
        simp [PyData.depth]
      omega
    omega
  · unfold dLL
    simp only [PyData.weight]
    have := wt_all (ds := ls.map fun l => PyData.list (l.map PyData.int)) (n := 41 * n) fun d m => by
      obtain ⟨l, hm, rfl⟩ := List.mem_map.mp m
      exact Nat.le_trans (wt_ints (hv l hm)) (Nat.mul_le_mul_left _ (hl l hm))
    rw [List.length_map] at this
    omega
theorem k_lenSet {X : Cx} {K : PySem.W.Frag} {a : Expr} {ta : TE} {p p2 q pos : Pos} (hK : X.K = K) (hg : Gl X "len") (hm : X.mg "len" = none) (hg2 : Gl X "set") (hm2 : X.mg "set" = none) (ha : PE X a ta) (hc : X.calm = true := by rfl)
    (na : starEach [a] X.env = (false, eval a X.env) :: starEach [] X.env := by rfl) : PE X (.Call (.Name "len" p) [.Call (.Name "set" p2) [a] [] q] [] pos) (RZ.tLenSetI K ta) := by subst hK; exact RZ.pe_lenSetI hg hm hg2 hm2 ha hc na
theorem x_lenSet {K : PySem.W.Frag} {ta : TE} {σ : L2.St} {H : Hp} {Q : VK} : RZ.tLenSetI K ta σ H Q = ta σ H fun x H1 => ∃ (l : Addr) (ns : List Int), x = .ref l ∧ SqL K H1 l (ns.map V.int) ∧ ns.Nodup ∧ ns.length ≤ 4000 ∧ Q (.int (ns.length : Nat)) H1 := rfl
end BC

set_option Elab.async false
set_option linter.all false
set_option maxRecDepth 100000
set_option maxHeartbeats 4000000
/-! sorted(set(xs)) of a list of numbers -/
namespace BC
open PySem PySem.Spec PyProof.Rows L2 Evl RZ
/-- the set that set() starts with -/
abbrev set0 (w : World) : Obj := { cls := .type "set", dict := none, data := .set #[] 0 (.fresh 0 0 (!w.params.followText "set-order")) }
abbrev with0 (w : World) (s : Shared) : Shared := { s with heap := s.heap.push (set0 w) }
section
variable {P : Program} {w : World} {A : Around} {E : Value → Shared → Prop} {s : Shared}
set_option maxHeartbeats 3200000 in
theorem set_of_list {l : Addr} {its : Array Value} (ns : List Int) {Q : Value → Shared → Prop} (hh : A.handled = none) (hl : s.heap.IsList l its) (hit : IntsAre its.toList ns) (hb : ns.length + 1 < scanBound)
    (fin : ∀ (h' : Heap) (tk c : Nat), SetR w h' s.heap.objs.size (fun j => decide (j ∈ ns)) c → c ≤ ns.length → (∀ b o, s.heap.get? b = some o → h'.get? b = some o) → Q (.ref s.heap.objs.size) { s with heap := h', toks := tk }) :
    wpAny (model P w) A (call (.type "set") [.ref l]) Q E s := by
  have many : its.size = ns.length := by rw [← IntsAre.length hit, Array.length_toList]
  obtain ⟨c, tl, hmro⟩ := F.called_set.mro
  have m1 := F.called_set.made
  have m2 := F.called_set.sub
  refine wpAny_call (codeAny_of_tree (wpAny_pure ⟨Code.quiet_builtin _ (by decide +kernel), codeAny_builtin F.entry_type_call ?_⟩))
  rw [Around.under_plain (weight_type_call_type "set" [.ref l] []) rfl]
  have m3 := F.called_set.notType
  have m4 := F.called_set.canCreate
  have m5 := F.typeCall_set_1 (.ref l)
  repeat (any_goals (first | assumption | wp_step))
  refine codeAny_mono (code_set_led1 (.ref l) (E := E) (Q₁ := fun obj s₁ => obj = .ref s.heap.objs.size ∧ s₁ = with0 w s) ⟨rfl, rfl⟩) fun r s₁ hr => ?_
  match r, hr with
  | .error e, hr => exact hr
  | .ok .next, hr => exact hr.elim
  | .ok .brk, hr => exact hr.elim
  | .ok .cont, hr => exact hr.elim
  | .ok (.ret obj), hr =>
    obtain ⟨rfl, rfl⟩ := hr
    have at0 : (s.heap.push (set0 w)).get? s.heap.objs.size = some (set0 w) := Heap.get?_push_size _ rfl
    have ty0 : Shared.TypeIs (with0 w s) (.ref s.heap.objs.size) "set" := ⟨_, at0, rfl⟩
    have i1 := F.called_set.init.lookup
    have i2 := F.called_set.init.bind (.ref s.heap.objs.size)
    repeat (any_goals (first | assumption | wp_step))
    refine codeAny_mono (codeAny_call_builtin (R := wants (fun r s₂ => r = .none ∧ ∃ h' tk c, s₂ = { s with heap := h', toks := tk } ∧ SetR w h' s.heap.objs.size (fun j => decide (j ∈ ns)) c ∧ c ≤ ns.length ∧ (∀ b o, s.heap.get? b = some o → h'.get? b = some o)) E)
      F.called_set.init.plain F.entry_set_init (check_set_init_1 ty0 ?_)) fun r₂ s₂ hr₂ => ?_
    · obtain ⟨⟨oc, od, dt, osl⟩, old, e1, nl, e2⟩ := hl
      obtain rfl : oc = .type "list" := e1
      obtain rfl : dt = .seq its nl := e2
      have pushed := Heap.get?_push_of_some (set0 w) old
      have isl : (s.heap.push (set0 w)).IsList l its := ⟨_, pushed, rfl, nl, rfl⟩
      have k1 := F.sub_list_set
      have k2 := F.sub_list_frozenset
      have k3 : (Value.type "list" == Value.type "dict") = false := by decide
      have hltl : l < s.heap.objs.size := Heap.lt_size old
      unfold Builtin.«set.__init__» noKeywords Builtin.Frozenset.updateFrom
      generalize hPI : pyIter = PI
      wp_walk
      subst hPI
      refine wpAny_pyIter_list isl (wpAny_bind (wpAny_runValue ?_))
      have calm3 : A.in1.in1.in1.handled = none := by simp [hh]
      have psz : (s.heap.push (set0 w)).objs.size = s.heap.objs.size + 1 := Heap.size_push ..
      have apart : l ≠ (s.heap.push (set0 w)).objs.size := fun z => Nat.lt_irrefl l (by rw [psz] at z; exact Nat.lt_of_lt_of_le hltl (by rw [z]; exact Nat.le_succ _))
      have away : s.heap.objs.size ∉ [(s.heap.push (set0 w)).objs.size, l] := by
        rw [psz]
        intro z
        simp only [List.mem_cons, List.mem_nil_iff, or_false] at z
        rcases z with z | z
        · exact absurd z (Nat.ne_of_lt (Nat.lt_succ_self _))
        · exact absurd z (Nat.ne_of_gt hltl)
      have items : ∀ (i : Nat) (v : Value), its[i]? = some v → ∃ k t, ns[i]? = some k ∧ v = .int k t := fun i v hv => by
        have hi : i < ns.length := by rw [← many]; exact (Array.getElem?_eq_some_iff.mp hv).1
        obtain ⟨t, e⟩ := IntsAre.int_at hit i v (by rw [Array.getElem?_toList]; exact hv)
        refine ⟨ns[i], t, List.getElem?_eq_getElem hi, ?_⟩
        rw [e, List.getD_eq_getElem?_getD, List.getElem?_eq_getElem hi]
        rfl
      refine set_update_ints ((Walks.list calm3 _ l apart its).toS) s.heap.objs.size away ns many hb items its.size 0 _ (by omega) (Nat.zero_le _) ⟨⟨_, Heap.get?_push_size _ rfl, rfl, rfl⟩, (isl.push _)⟩ ⟨0, Nat.le_refl 0, ?_⟩ fun s' c' mv hc' hS' => ?_
      · exact setR_new_at (Heap.get?_push_of_some _ at0)
      · obtain ⟨h', g2, d', tk', os'⟩ := s'
        obtain rfl : g2 = s.gens := mv.gens
        obtain rfl : d' = s.drawn := mv.drawn
        obtain rfl : os' = s.os := mv.os
        refine wpAny_pure (wpAny_pure ⟨rfl, h', tk', c', rfl, hS', by rw [many] at hc'; exact hc', fun b o e => ?_⟩)
        have lt := Heap.lt_size e
        refine mv.heap b o ?_ (Heap.get?_push_of_some _ (Heap.get?_push_of_some _ e))
        intro z
        rw [psz] at z
        simp only [List.mem_cons, List.mem_nil_iff, or_false] at z
        rcases z with z | z
        · exact absurd z (Nat.ne_of_lt lt)
        · exact absurd z (Nat.ne_of_lt (Nat.lt_succ_of_lt lt))
    · match r₂, hr₂ with
      | .error e, hr₂ => exact hr₂
      | .ok .next, hr₂ => exact hr₂.elim
      | .ok .brk, hr₂ => exact hr₂.elim
      | .ok .cont, hr₂ => exact hr₂.elim
      | .ok (.ret r), hr₂ =>
        obtain ⟨rfl, h', tk, c', rfl, q1, q2, q3⟩ := hr₂
        repeat (any_goals (first | assumption | wp_step))
        exact fin _ _ _ q1 q2 q3
end
section
variable {X : Cx} {K : PySem.W.Frag} {a : Expr} {ta : TE} {p p2 q pos : Pos}
/-- sorted(set(xs)): the different numbers in order -/
def tSortSet (K : PySem.W.Frag) (ta : TE) : TE := fun σ H Q => ta σ H fun x H1 => ∃ (l : Addr) (ns : List Int), x = .ref l ∧ SqL K H1 l (ns.map V.int) ∧ ns.length < 64 ∧
  ∀ (ms : List Int) r, ms.Pairwise (· < ·) → (∀ k : Int, k ∈ ms ↔ k ∈ ns) → H1 r = none → Q (.ref r) (upd H1 r (.lst (ms.map V.int)))
theorem k_sortSet (hK : X.K = K) (hg : Gl X "sorted") (hm : X.mg "sorted" = none) (hg2 : Gl X "set") (hm2 : X.mg "set" = none) (ha : PE X a ta) (hc : X.calm = true := by rfl)
    (na : starEach [a] X.env = (false, eval a X.env) :: starEach [] X.env := by rfl) : PE X (.Call (.Name "sorted" p) [.Call (.Name "set" p2) [a] [] q] [] pos) (tSortSet K ta) := by
  subst hK
  refine ⟨fun pins s σ H Q I h => ?_⟩
  refine Call_ (ld_blt I hg hm (show bootBuiltins ("sorted" : Str) = some (.builtin "sorted") by decide +kernel) ?_)
  refine callWith_builtin1 (args_cons ?_ rfl) rfl rfl
  refine Call_ (ld_blt I hg2 hm2 boot_set ?_)
  refine callWith_type1 (args_cons (thn (ha.run pins s σ H _ I h) fun v s1 ⟨x, H1, I1, r1, q1⟩ => args_nil ?_) na) na rfl
  obtain ⟨l, ns, rfl, hq, hl, q1⟩ := q1
  cases r1
  obtain ⟨its, r, pl, hz⟩ := I1.list hq
  refine set_of_list ns (I1.ok.hd hc) pl.isList (by simpa using intsAre_vals r) (by unfold scanBound; omega) fun h' tk c hS hcl hk => ?_
  refine args_nil ?_
  have I2 : Inv X pins σ H1 { s1 with heap := h', toks := tk } := I1.kept hk
  refine sorted_set hS (I2.ok.hd hc) (by omega) fun s' p out c2 ms k g o hp hg hi hs hm hlen => ?_
  have few : (ms.map V.int).length ≤ sizeLine := by rw [List.length_map, hlen, sizeLine_eq]; omega
  have hn : H1 p = none := I2.hok.fresh hp
  have J : Inv X pins σ (upd H1 p (.lst (ms.map V.int))) { ({ s1 with heap := h', toks := tk } : Shared) with heap := s'.heap, gens := s'.gens, drawn := s'.drawn, toks := s'.toks } :=
    I2.call (ch := []) (Un.laid k hp hn) (I2.hok.laid k hp ⟨few, out.toList, c2, vals_of_ints hi, hg⟩) (by rw [g]; exact I2.bare) (fun _ z => nomatch z)
  have e : s' = { ({ s1 with heap := h', toks := tk } : Shared) with heap := s'.heap, gens := s'.gens, drawn := s'.drawn, toks := s'.toks } := by
    cases s'
    cases o
    rfl
  rw [e]
  exact ⟨.ref p, _, J, rfl, q1 ms p hs (fun k => by rw [hm k, decide_eq_true_eq]) hn⟩
theorem x_sortSet {σ : L2.St} {H : Hp} {Q : VK} : tSortSet K ta σ H Q = ta σ H fun x H1 => ∃ (l : Addr) (ns : List Int), x = .ref l ∧ SqL K H1 l (ns.map V.int) ∧ ns.length < 64 ∧
  ∀ (ms : List Int) r, ms.Pairwise (· < ·) → (∀ k : Int, k ∈ ms ↔ k ∈ ns) → H1 r = none → Q (.ref r) (upd H1 r (.lst (ms.map V.int))) := rfl
end
/-- two ascending lists of the same numbers are the same -/
theorem asc_same : ∀ {a b : List Int}, a.Pairwise (· < ·) → b.Pairwise (· < ·) → (∀ k : Int, k ∈ a ↔ k ∈ b) → a = b
  | [], [], _, _, _ => rfl
  | [], y :: b, _, _, h => absurd ((h y).mpr List.mem_cons_self) List.not_mem_nil
  | x :: a, [], _, _, h => absurd ((h x).mp List.mem_cons_self) List.not_mem_nil
  | x :: a, y :: b, ha, hb, h => by
    rw [List.pairwise_cons] at ha hb
    have xy : x = y := by
      have h1 := (h x).mp List.mem_cons_self
      have h2 := (h y).mpr List.mem_cons_self
      rcases List.mem_cons.mp h1 with e | e
      · exact e
      · rcases List.mem_cons.mp h2 with e2 | e2
        · exact e2.symm
        · have := ha.1 y e2
          have := hb.1 x e
          omega
    subst xy
    rw [asc_same ha.2 hb.2 fun k => ⟨fun m => by
      rcases List.mem_cons.mp ((h k).mp (List.mem_cons_of_mem _ m)) with e | e
      · subst e; have := ha.1 k m; omega
      · exact e, fun m => by
      rcases List.mem_cons.mp ((h k).mpr (List.mem_cons_of_mem _ m)) with e | e
      · subst e; have := hb.1 k m; omega
      · exact e⟩]
end BC

set_option Elab.async false
set_option linter.all false
set_option maxRecDepth 100000
set_option maxHeartbeats 4000000
/-! sorted(set(xs)), len(set(xs)) of a longer list of numbers, with doubles -/
namespace BC
open PySem PySem.Spec PyProof.Rows L2 Evl RZ
theorem sub_len : ∀ {a b : List Int}, a.Nodup → (∀ x ∈ a, x ∈ b) → a.length ≤ b.length
  | [], _, _, _ => Nat.zero_le _
  | x :: a, b, nd, h => by
    rw [List.nodup_cons] at nd
    have hx := h x List.mem_cons_self
    have ih := sub_len (a := a) (b := b.erase x) nd.2 fun y hy => (List.mem_erase_of_ne (fun e => nd.1 (by rw [← e]; exact hy))).mpr (h y (List.mem_cons_of_mem _ hy))
    rw [List.length_erase_of_mem hx] at ih
    have := List.length_pos_of_mem hx
    rw [List.length_cons]
    omega
theorem dup_len {a b : List Int} (nd : a.Nodup) (h : ∀ x ∈ a, x ∈ b) (g : ∀ x ∈ b, x ∈ a) (e : a.length = b.length) : b.Nodup := by
  induction b generalizing a with
  | nil => exact List.nodup_nil
  | cons y b ih =>
    have hy := g y List.mem_cons_self
    have el := List.length_erase_of_mem hy
    have pos := List.length_pos_of_mem hy
    by_cases q : y ∈ b
    · have : a.length ≤ b.length := sub_len nd fun x hx => by
        rcases List.mem_cons.mp (h x hx) with rfl | m
        · exact q
        · exact m
      rw [List.length_cons] at e
      omega
    · rw [List.nodup_cons]
      refine ⟨q, ih (a := a.erase y) (nd.erase y) (fun x hx => ?_) (fun x hx => ?_) ?_⟩
      · have hne := (List.Nodup.mem_erase_iff nd).mp hx
        rcases List.mem_cons.mp (h x hne.2) with rfl | m
        · exact absurd rfl hne.1
        · exact m
      · exact (List.Nodup.mem_erase_iff nd).mpr ⟨fun z => q (by rw [← z]; exact hx), g x (List.mem_cons_of_mem _ hx)⟩
      · rw [List.length_cons] at e
        omega
theorem range_len {a : List Int} {m : Nat} (nd : a.Nodup) (h : ∀ x ∈ a, 0 ≤ x ∧ x < m) : a.length ≤ m := by
  have := sub_len (b := (List.range m).map fun i : Nat => (i : Int)) nd fun x hx => by
    have := h x hx
    exact List.mem_map.mpr ⟨x.toNat, List.mem_range.mpr (by omega), by show ((x.toNat : Nat) : Int) = x; omega⟩
  rw [List.length_map, List.length_range] at this
  exact this
section
variable {w : World} {h : Heap} {a : Addr} {S : Int → Bool} {n m : Nat}
theorem setR_few (R : SetR w h a S n) (hb : ∀ k, S k = true → 0 ≤ k ∧ k < m) : n ≤ m := by
  obtain ⟨o, es, ep, t, ho, hex, hd, g, nd, hm, hbd, hf, hn, hr, hl⟩ := R
  have := range_len (m := m) nd fun x hx => hb x ((hm x).mpr hx)
  rw [List.length_map, Array.length_toList] at this
  omega
theorem setR_count {ns : List Int} (R : SetR w h a (fun j => decide (j ∈ ns)) n) : n = ns.length ↔ ns.Nodup := by
  obtain ⟨o, es, ep, t, ho, hex, hd, g, nd, hm, hbd, hf, hn, hr, hl⟩ := R
  have sub : ∀ x ∈ es.toList.map keyOf, x ∈ ns := fun x hx => of_decide_eq_true ((hm x).mpr hx)
  have sup : ∀ x ∈ ns, x ∈ es.toList.map keyOf := fun x hx => (hm x).mp (decide_eq_true hx)
  have e1 : (es.toList.map keyOf).length = n := by rw [List.length_map, Array.length_toList]; exact hn
  constructor
  · intro e
    exact dup_len nd sub sup (by rw [e1]; exact e)
  · intro q
    have := sub_len q sup
    have := sub_len nd sub
    omega
end
section
variable {X : Cx} {K : PySem.W.Frag} {a : Expr} {ta : TE} {p p2 q pos : Pos}
/-- sorted(set(xs)): numbers below 60, as many as there are -/
def tSortSetB (K : PySem.W.Frag) (ta : TE) : TE := fun σ H Q => ta σ H fun x H1 => ∃ (l : Addr) (ns : List Int), x = .ref l ∧ SqL K H1 l (ns.map V.int) ∧ ns.length ≤ 4000 ∧ (∀ k ∈ ns, 0 ≤ k ∧ k < (60 : Nat)) ∧
  ∀ (ms : List Int) r, ms.Pairwise (· < ·) → (∀ k : Int, k ∈ ms ↔ k ∈ ns) → H1 r = none → Q (.ref r) (upd H1 r (.lst (ms.map V.int)))
theorem k_sortSetB (hK : X.K = K) (hg : Gl X "sorted") (hm : X.mg "sorted" = none) (hg2 : Gl X "set") (hm2 : X.mg "set" = none) (ha : PE X a ta) (hc : X.calm = true := by rfl)
    (na : starEach [a] X.env = (false, eval a X.env) :: starEach [] X.env := by rfl) : PE X (.Call (.Name "sorted" p) [.Call (.Name "set" p2) [a] [] q] [] pos) (tSortSetB K ta) := by
  subst hK
  refine ⟨fun pins s σ H Q I h => ?_⟩
  refine Call_ (ld_blt I hg hm (show bootBuiltins ("sorted" : Str) = some (.builtin "sorted") by decide +kernel) ?_)
  refine callWith_builtin1 (args_cons ?_ rfl) rfl rfl
  refine Call_ (ld_blt I hg2 hm2 boot_set ?_)
  refine callWith_type1 (args_cons (thn (ha.run pins s σ H _ I h) fun v s1 ⟨x, H1, I1, r1, q1⟩ => args_nil ?_) na) na rfl
  obtain ⟨l, ns, rfl, hq, hl, hb, q1⟩ := q1
  cases r1
  obtain ⟨its, r, pl, hz⟩ := I1.list hq
  refine set_of_list ns (I1.ok.hd hc) pl.isList (by simpa using intsAre_vals r) (by unfold scanBound; omega) fun h' tk c hS hcl hk => ?_
  refine args_nil ?_
  have I2 : Inv X pins σ H1 { s1 with heap := h', toks := tk } := I1.kept hk
  have few60 := setR_few (m := 60) hS fun k hk => hb k (of_decide_eq_true hk)
  refine sorted_set hS (I2.ok.hd hc) (by omega) fun s' p out c2 ms k g o hp hg hi hs hm hlen => ?_
  have few : (ms.map V.int).length ≤ sizeLine := by rw [List.length_map, hlen, sizeLine_eq]; omega
  have hn : H1 p = none := I2.hok.fresh hp
  have J : Inv X pins σ (upd H1 p (.lst (ms.map V.int))) { ({ s1 with heap := h', toks := tk } : Shared) with heap := s'.heap, gens := s'.gens, drawn := s'.drawn, toks := s'.toks } :=
    I2.call (ch := []) (Un.laid k hp hn) (I2.hok.laid k hp ⟨few, out.toList, c2, vals_of_ints hi, hg⟩) (by rw [g]; exact I2.bare) (fun _ z => nomatch z)
  have e : s' = { ({ s1 with heap := h', toks := tk } : Shared) with heap := s'.heap, gens := s'.gens, drawn := s'.drawn, toks := s'.toks } := by
    cases s'
    cases o
    rfl
  rw [e]
  exact ⟨.ref p, _, J, rfl, q1 ms p hs (fun k => by rw [hm k, decide_eq_true_eq]) hn⟩
theorem x_sortSetB {σ : L2.St} {H : Hp} {Q : VK} : tSortSetB K ta σ H Q = ta σ H fun x H1 => ∃ (l : Addr) (ns : List Int), x = .ref l ∧ SqL K H1 l (ns.map V.int) ∧ ns.length ≤ 4000 ∧ (∀ k ∈ ns, 0 ≤ k ∧ k < (60 : Nat)) ∧
  ∀ (ms : List Int) r, ms.Pairwise (· < ·) → (∀ k : Int, k ∈ ms ↔ k ∈ ns) → H1 r = none → Q (.ref r) (upd H1 r (.lst (ms.map V.int))) := rfl
/-- len(set(xs)): as many as the list has just where nothing stands twice -/
def tLenSetA (K : PySem.W.Frag) (ta : TE) : TE := fun σ H Q => ta σ H fun x H1 => ∃ (l : Addr) (ns : List Int), x = .ref l ∧ SqL K H1 l (ns.map V.int) ∧ ns.length ≤ 4000 ∧ ∀ n : Nat, (n = ns.length ↔ ns.Nodup) → n ≤ ns.length → Q (.int (n : Nat)) H1
theorem k_lenSetA (hK : X.K = K) (hg : Gl X "len") (hm : X.mg "len" = none) (hg2 : Gl X "set") (hm2 : X.mg "set" = none) (ha : PE X a ta) (hc : X.calm = true := by rfl)
    (na : starEach [a] X.env = (false, eval a X.env) :: starEach [] X.env := by rfl) : PE X (.Call (.Name "len" p) [.Call (.Name "set" p2) [a] [] q] [] pos) (tLenSetA K ta) := by
  subst hK
  refine ⟨fun pins s σ H Q I h => ?_⟩
  refine Call_ (ld_blt I hg hm boot_len ?_)
  refine callWith_builtin1 (args_cons ?_ rfl) rfl rfl
  refine Call_ (ld_blt I hg2 hm2 boot_set ?_)
  refine callWith_type1 (args_cons (thn (ha.run pins s σ H _ I h) fun v s1 ⟨x, H1, I1, r1, q1⟩ => args_nil ?_) na) na rfl
  obtain ⟨l, ns, rfl, hq, hl, q1⟩ := q1
  cases r1
  obtain ⟨its, r, pl, hz⟩ := I1.list hq
  refine set_of_list ns (I1.ok.hd hc) pl.isList (by simpa using intsAre_vals r) (by unfold scanBound; omega) fun h' tk c hS hcl hk => ?_
  refine args_nil ?_
  have I2 : Inv X pins σ H1 { s1 with heap := h', toks := tk } := I1.kept hk
  have cnt := setR_count hS
  obtain ⟨o, es, ep, t, ho, hex, hd, _, _, _, hbd, hf, hn, _, _⟩ := hS
  exact call_len_set ho hex hd hf (by rw [hn]; omega) ⟨.int c, H1, I2.tok _, ⟨_, by rw [hn]⟩, q1 c cnt hcl⟩
theorem x_lenSetA {σ : L2.St} {H : Hp} {Q : VK} : tLenSetA K ta σ H Q = ta σ H fun x H1 => ∃ (l : Addr) (ns : List Int), x = .ref l ∧ SqL K H1 l (ns.map V.int) ∧ ns.length ≤ 4000 ∧ ∀ n : Nat, (n = ns.length ↔ ns.Nodup) → n ≤ ns.length → Q (.int (n : Nat)) H1 := rfl
end
end BC

set_option Elab.async false
set_option linter.all false
set_option maxRecDepth 100000
set_option maxHeartbeats 4000000
/-! sites: lists of lists of natural numbers, and how they lie in the heap -/
namespace BC
open PySem PySem.Spec PyProof.Rows L2 Evl
/-! ### xs + ys of lists of any origin -/
section
variable {prog : Program} {w : World} {A : Around} {E : Value → Shared → Prop} {s : Shared}
theorem add_plain {l b : Addr} {its its2 : Array Value} {Q : Value → Shared → Prop} (x : PlainL s.heap l its) (y : PlainL s.heap b its2) (fits : its.size + its2.size ≤ sizeLine)
    (q : Q (.ref s.heap.objs.size) { s with heap := s.heap.push { cls := .type "list", data := .seq (its ++ its2) } }) : wpAny (model prog w) A (binaryOp .Add (.ref l) (.ref b)) Q E s := by
  obtain ⟨⟨c1, d1, k1, z1⟩, n1, g1, e1, e2, e3⟩ := x
  obtain ⟨⟨c2, d2, k2, z2⟩, n2, g2, e4, e5, e6⟩ := y
  obtain rfl : c1 = .type "list" := e1
  obtain rfl : c2 = .type "list" := e4
  obtain rfl : k1 = .seq its n1 := e3
  obtain rfl : k2 = .seq its2 n2 := e6
  exact concat_meets ⟨_, g1, rfl⟩ ⟨_, g2, rfl⟩ noFill_list_add seq_list_add F.slot_list_add F.entry_list_add (F.args_list_add_2 _ _) (list_addW l b its its2 n1 n2 d1 d2 z1 z2 fits) ⟨g1, g2, q⟩
end
def rCatS (K : PySem.W.Frag) : R2 := fun x y H Q => ∃ l b xs zs, x = .ref l ∧ y = .ref b ∧ SqL K H l xs ∧ SqL K H b zs ∧ xs.length + zs.length ≤ sizeLine ∧ ∀ p, H p = none → Q (.ref p) (upd H p (.lst (xs ++ zs)))
theorem k_catS {X : Cx} {K : PySem.W.Frag} (hK : X.K = K) : OpR X (binaryOp .Add) (rCatS K) := by
  subst hK
  intro pins s σ H x y v u Q I rx ry h
  obtain ⟨l, b, xs, zs, rfl, rfl, hH, hB, hz, q⟩ := h
  cases rx
  cases ry
  obtain ⟨its, r, p1, _⟩ := I.list hH
  obtain ⟨its2, r2, p2, _⟩ := I.list hB
  have l1 := r.length
  have l2 := r2.length
  refine add_plain p1 p2 (by rw [List.size_toArray, List.size_toArray]; omega) ?_
  have ea : its.toArray ++ its2.toArray = (its ++ its2).toArray := by simp
  rw [ea]
  exact ⟨.ref _, _, I.lnew (t' := s.toks) (r.append r2) (by rw [List.length_append]; omega), rfl, q _ I.fresh⟩
theorem catS {K : PySem.W.Frag} {H : Hp} {Q : VK} {p b : Addr} {xs ys : List V} (h : SqL K H p xs) (hb : SqL K H b ys) (hz : xs.length + ys.length ≤ sizeLine) (q : ∀ l, H l = none → Q (.ref l) (upd H l (.lst (xs ++ ys)))) : rCatS K (.ref p) (.ref b) H Q := ⟨p, b, xs, ys, rfl, rfl, h, hb, hz, q⟩
/-- natural numbers as the program's -/
def nz (L : List Nat) : List Int := L.map fun x : Nat => (x : Int)
theorem nz_len (L : List Nat) : (nz L).length = L.length := List.length_map _
theorem nz_at {L : List Nat} {i x : Nat} (h : L[i]? = some x) : ((nz L).map V.int)[i]? = some (.int (x : Int)) := by
  unfold nz
  rw [List.getElem?_map, List.getElem?_map, h]
  rfl
theorem at_nz {L : List Nat} {i : Nat} {v : V} (h : ((nz L).map V.int)[i]? = some v) : ∃ x, L[i]? = some x ∧ v = .int (x : Int) := by
  unfold nz at h
  rw [List.getElem?_map, List.getElem?_map] at h
  cases e : L[i]? with
  | none => rw [e] at h; cases h
  | some x => rw [e] at h; cases h; exact ⟨x, rfl, rfl⟩
theorem nz_mem {L : List Nat} {x : Nat} : ((x : Nat) : Int) ∈ nz L ↔ x ∈ L := by
  unfold nz
  rw [List.mem_map]
  exact ⟨fun ⟨y, h, e⟩ => by rw [← Int.ofNat.inj e]; exact h, fun h => ⟨x, h, rfl⟩⟩
theorem nz_inj : ∀ {a b : List Nat}, nz a = nz b → a = b
  | [], [], _ => rfl
  | [], y :: b, h => by cases h
  | x :: a, [], h => by cases h
  | x :: a, y :: b, h => by
    have h1 := (List.cons.inj h).1
    have h2 := (List.cons.inj h).2
    rw [nz_inj (show nz a = nz b from h2), Int.ofNat.inj h1]
theorem nz_app (a b : List Nat) : nz (a ++ b) = nz a ++ nz b := List.map_append
theorem nz_v (a : List Nat) (x : Nat) : (nz a).map V.int ++ [V.int (x : Int)] = (nz (a ++ [x])).map V.int := by rw [nz_app, List.map_append]; rfl
theorem lts {l : List Nat} (h : l.Pairwise (· < ·)) : (nz l).Pairwise (· < ·) := by
  unfold nz
  rw [List.pairwise_map]
  exact h.imp fun h => by omega
theorem nz_nodup {l : List Nat} (h : l.Nodup) : (nz l).Nodup := by
  unfold nz List.Nodup
  rw [List.pairwise_map]
  exact h.imp fun h e => h (Int.ofNat.inj e)
theorem nodup_lt : ∀ (n : Nat) {l : List Nat}, l.Nodup → (∀ x ∈ l, x < n) → l.length ≤ n
  | 0, [], _, _ => Nat.le_refl _
  | 0, x :: l, _, h => by have := h x List.mem_cons_self; omega
  | n + 1, l, h1, h2 => by
    by_cases m : n ∈ l
    · have h3 := nodup_lt n (l := l.erase n) (h1.erase _) (fun x hx => by
        have a := h2 x (List.mem_of_mem_erase hx)
        have b : x ≠ n := fun e => by
          rw [h1.mem_erase_iff] at hx
          exact hx.1 e
        omega)
      have := List.length_erase_of_mem m
      omega
    · have h3 := nodup_lt n h1 (fun x hx => by
        have a := h2 x hx
        have b : x ≠ n := fun e => m (e ▸ hx)
        omega)
      omega
theorem asc_nodup {l : List Nat} (h : l.Pairwise (· < ·)) : l.Nodup := h.imp fun h => by omega
/-! ### sites -/
abbrev Grid := List (List Nat)
structure SiteOk (G : Grid) : Prop where
  n1 : 1 ≤ G.length
  n2 : G.length ≤ 12
  asc : ∀ (i : Nat) (r : List Nat), G[i]? = some r → r.Pairwise (· < ·)
  lt : ∀ (i : Nat) (r : List Nat), G[i]? = some r → ∀ x ∈ r, x < G.length
  no : ∀ (i : Nat) (r : List Nat), G[i]? = some r → i ∉ r
theorem SiteOk.len {G : Grid} (h : SiteOk G) {i : Nat} {r : List Nat} (e : G[i]? = some r) : r.length ≤ 12 := Nat.le_trans (nodup_lt _ (asc_nodup (h.asc i r e)) (h.lt i r e)) h.n2
/-- the row of a page -/
def row (G : Grid) (i : Nat) : List Nat := G.getD i []
theorem row_at {G : Grid} {i : Nat} {r : List Nat} (h : G[i]? = some r) : row G i = r := by
  unfold row
  rw [List.getD_eq_getElem?_getD, h]
  rfl
theorem at_row {G : Grid} {i : Nat} (h : i < G.length) : G[i]? = some (row G i) := by
  unfold row
  rw [List.getD_eq_getElem?_getD, List.getElem?_eq_getElem h]
  rfl
theorem SiteOk.rlt {G : Grid} (h : SiteOk G) {i x : Nat} (m : x ∈ row G i) : x < G.length := by
  by_cases q : i < G.length
  · exact h.lt i _ (at_row q) x m
  · unfold row at m
    rw [List.getD_eq_getElem?_getD, List.getElem?_eq_none (by omega)] at m
    exact (List.not_mem_nil m).elim
theorem SiteOk.rlen {G : Grid} (h : SiteOk G) (i : Nat) : (row G i).length ≤ 12 := by
  by_cases q : i < G.length
  · exact h.len (at_row q)
  · unfold row
    rw [List.getD_eq_getElem?_getD, List.getElem?_eq_none (by omega)]
    exact Nat.zero_le _
/-- a list at s of lists of numbers -/
def GridAt (H : Hp) (s : Addr) (G : Grid) : Prop := ∃ ps : List Addr, H s = some (.lst (ps.map V.ref)) ∧ ps.length = G.length ∧ ∀ i p, ps[i]? = some p → H p = some (.lst ((nz (row G i)).map V.int))
theorem GridAt.ex {H H' : Hp} {s : Addr} {G : Grid} (h : GridAt H s G) (e : Ex H H') : GridAt H' s G := by
  obtain ⟨ps, h1, h2, h3⟩ := h
  exact ⟨ps, e _ _ h1, h2, fun i p q => e _ _ (h3 i p q)⟩
theorem GridAt.get {H : Hp} {s : Addr} {G : Grid} (h : GridAt H s G) {i : Nat} (hi : i < G.length) : ∃ p xs, H s = some (.lst xs) ∧ xs.length = G.length ∧ xs[i]? = some (.ref p) ∧ H p = some (.lst ((nz (row G i)).map V.int)) := by
  obtain ⟨ps, h1, h2, h3⟩ := h
  have hx : ps[i]? = some ps[i] := List.getElem?_eq_getElem (by omega)
  exact ⟨ps[i], _, h1, by rw [List.length_map]; exact h2, by rw [List.getElem?_map, hx]; rfl, h3 i _ hx⟩
theorem GridAt.lst {H : Hp} {s : Addr} {G : Grid} (h : GridAt H s G) : ∃ xs, H s = some (.lst xs) ∧ xs.length = G.length ∧ ∀ (i : Nat) (v : V), xs[i]? = some v → i < G.length ∧ ∃ p, v = .ref p ∧ H p = some (.lst ((nz (row G i)).map V.int)) := by
  obtain ⟨ps, h1, h2, h3⟩ := h
  refine ⟨_, h1, by rw [List.length_map]; exact h2, fun i v e => ?_⟩
  rw [List.getElem?_map] at e
  cases q : ps[i]? with
  | none => rw [q] at e; cases e
  | some p =>
    rw [q] at e
    cases e
    exact ⟨by have := (List.getElem?_eq_some_iff.mp q).1; omega, p, rfl, h3 i p q⟩
/-- such a list, all of it new -/
def GridN (H H' : Hp) (s : Addr) (G : Grid) : Prop := H s = none ∧ ∃ ps : List Addr, H' s = some (.lst (ps.map V.ref)) ∧ ps.length = G.length ∧ ps.Nodup ∧ s ∉ ps ∧ ∀ i p, ps[i]? = some p → H p = none ∧ H' p = some (.lst ((nz (row G i)).map V.int))
theorem GridN.at {H H' : Hp} {s : Addr} {G : Grid} (h : GridN H H' s G) : GridAt H' s G := by
  obtain ⟨_, ps, h1, h2, _, _, h3⟩ := h
  exact ⟨ps, h1, h2, fun i p q => (h3 i p q).2⟩
theorem GridN.ex {H H' H2 : Hp} {s : Addr} {G : Grid} (h : GridN H H' s G) (e : Ex H' H2) : GridN H H2 s G := by
  obtain ⟨h0, ps, h1, h2, h4, h5, h3⟩ := h
  exact ⟨h0, ps, e _ _ h1, h2, h4, h5, fun i p q => ⟨(h3 i p q).1, e _ _ (h3 i p q).2⟩⟩
theorem GridN.back {H0 H H' : Hp} {s : Addr} {G : Grid} (h : GridN H H' s G) (e : Ex H0 H) : GridN H0 H' s G := by
  obtain ⟨h0, ps, h1, h2, h4, h5, h3⟩ := h
  exact ⟨fresh_back e h0, ps, h1, h2, h4, h5, fun i p q => ⟨fresh_back e (h3 i p q).1, (h3 i p q).2⟩⟩
/-- what was new after Hc stands -/
def Nw (Hc H H' : Hp) : Prop := ∀ x o, Hc x = none → H x = some o → H' x = some o
theorem Nw.of {Hc H H' : Hp} (e : Ex H H') : Nw Hc H H' := fun x o _ h => e x o h
theorem Nw.trans {Hc H H' H'' : Hp} (e : Nw Hc H H') (f : Nw Hc H' H'') : Nw Hc H H'' := fun x o n h => f x o n (e x o n h)
theorem Nw.fx {Hc H H' : Hp} {b : Addr} {o : HO} (h : Hc b = some o) (f : Fx b H H') : Nw Hc H H' := fun x v n g => f x v (fun e => by subst e; rw [h] at n; cases n) g
theorem Nw.put {Hc H : Hp} {a : Addr} {o u : HO} (h : Hc a = some u) : Nw Hc H (upd H a o) := fun x v n g => by
  rw [upd_ne (fun e => by subst e; rw [h] at n; cases n)]
  exact g
theorem GridN.nw {H H1 H2 : Hp} {s : Addr} {G : Grid} (h : GridN H H1 s G) (e : Nw H H1 H2) : GridN H H2 s G := by
  obtain ⟨h0, ps, h1, h2, h4, h5, h3⟩ := h
  exact ⟨h0, ps, e _ _ h0 h1, h2, h4, h5, fun i p q => ⟨(h3 i p q).1, e _ _ (h3 i p q).1 (h3 i p q).2⟩⟩
/-- one row more, made while the grid stood -/
theorem GridN.push {H H1 H' : Hp} {s p : Addr} {G : Grid} {r : List Nat} (h : GridN H H1 s G) (nH : H p = none) (np : H1 p = none) (e : Nw H H1 H') (hp : H' p = some (.lst ((nz r).map V.int))) :
    ∃ xs, H' s = some (.lst xs) ∧ xs.length = G.length ∧ GridN H (upd H' s (.lst (xs ++ [.ref p]))) s (G ++ [r]) := by
  have q1 := h
  obtain ⟨h0, ps, h1, h2, h4, h5, h3⟩ := h
  have hs : p ≠ s := Ne.symm (ne_of_none h1 np)
  refine ⟨_, e _ _ h0 h1, by rw [List.length_map]; exact h2, h0, ps ++ [p], by rw [upd_same, List.map_append]; rfl, by rw [List.length_append, List.length_append, h2]; rfl, ?_, ?_, fun i q eq => ?_⟩
  · rw [List.nodup_append]
    refine ⟨h4, by simp, fun a ha b hb e => ?_⟩
    rw [List.mem_singleton.mp hb] at e
    subst e
    obtain ⟨j, hj, ej⟩ := List.getElem_of_mem ha
    have := (h3 j a (List.getElem?_eq_some_iff.mpr ⟨hj, ej⟩)).2
    rw [np] at this
    cases this
  · intro m
    rcases List.mem_append.mp m with m | m
    · exact h5 m
    · exact hs (List.mem_singleton.mp m).symm
  · by_cases hi : i < ps.length
    · rw [List.getElem?_append_left hi] at eq
      have := h3 i q eq
      have ns : q ≠ s := fun z => h5 (z ▸ List.mem_of_getElem? eq)
      refine ⟨this.1, ?_⟩
      rw [upd_ne ns, e _ _ this.1 this.2]
      unfold row
      rw [List.getD_eq_getElem?_getD, List.getD_eq_getElem?_getD, List.getElem?_append_left (by omega)]
    · rw [List.getElem?_append_right (by omega)] at eq
      have hi2 : i - ps.length = 0 := by
        have := (List.getElem?_eq_some_iff.mp eq).1
        rw [List.length_singleton] at this
        omega
      rw [hi2] at eq
      obtain rfl : p = q := by simpa using eq
      refine ⟨nH, ?_⟩
      rw [upd_ne hs, hp]
      unfold row
      have : i = G.length := by omega
      rw [this, List.getD_eq_getElem?_getD, List.getElem?_append_right (Nat.le_refl _), Nat.sub_self]
      rfl
theorem GridN.nil {H : Hp} {s : Addr} (h : H s = none) : GridN H (upd H s (.lst [])) s [] := ⟨h, [], upd_same, rfl, List.nodup_nil, List.not_mem_nil, fun i p e => by simp at e⟩
/-- as data -/
def dG (G : Grid) : PyData := .list (G.map fun r => .list ((nz r).map PyData.int))
theorem dG_LL (G : Grid) : dG G = dLL (G.map nz) := by unfold dG dLL; rw [List.map_map]; rfl
theorem GridAt.dp {K : PySem.W.Frag} {H : Hp} {s : Addr} {G : Grid} (h : GridAt H s G) : Dp K H (.ref s) (dG G) := by
  obtain ⟨ps, h1, h2, h3⟩ := h
  rw [dG_LL]
  refine .lst (.inl (.inl h1)) (dp_ll (by rw [List.length_map]; exact h2) fun i p l a b => ?_)
  rw [List.getElem?_map] at b
  cases q : G[i]? with
  | none => rw [q] at b; cases b
  | some r =>
    rw [q] at b
    cases b
    have := h3 i p a
    rw [row_at q] at this
    exact .inl (.inl this)
theorem shp_LL (ls : List (List Int)) : SeqAt.shaped (dLL ls) = true := by
  have h0 : ∀ ns : List Int, PyData.canLayAll0 (ns.map PyData.int) = true := fun ns => by
    induction ns with
    | nil => simp [PyData.canLayAll0]
    | cons n ns ih => simp [PyData.canLayAll0, PyData.canLay0, ih]
  have h1 : ∀ ls : List (List Int), PyData.canLayAll0 (ls.map fun l => PyData.list (l.map PyData.int)) = true := fun ls => by
    induction ls with
    | nil => simp [PyData.canLayAll0]
    | cons l ls ih => simp [PyData.canLayAll0, PyData.canLay0, ih, h0]
  have h2 := dep_all (ds := ls.map fun l => PyData.list (l.map PyData.int)) (n := 1) fun d m => by
      obtain ⟨l, hm, rfl⟩ := List.mem_map.mp m
      simp only [PyData.depth]
      have := dep_all (ds := l.map PyData.int) (n := 0) fun d m => by
        obtain ⟨x, hx, rfl⟩ := List.mem_map.mp m
        simp [PyData.depth]
      omega
  show (PyData.canLay0 _ && decide (PyData.depth _ ≤ 64)) = true
  rw [Bool.and_eq_true]
  refine ⟨?_, decide_eq_true ?_⟩
  · unfold dLL; simp only [PyData.canLay0]; exact h1 ls
  · unfold dLL; simp only [PyData.depth]; omega
theorem eqv_LL : ∀ as bs : List (List Int), PyData.eqv (dLL as) (dLL bs) = decide (as = bs) := fun as bs => by
  unfold dLL
  simp only [PyData.eqv]
  induction as generalizing bs with
  | nil => cases bs <;> simp [PyData.eqvAll]
  | cons a as ih =>
    cases bs with
    | nil => simp [PyData.eqvAll]
    | cons b bs =>
      simp only [List.map_cons, PyData.eqvAll, eqv_ints, ih]
      by_cases h : a = b
      · subst h; simp
      · simp [h]
theorem nzs_inj : ∀ {a b : Grid}, a.map nz = b.map nz → a = b
  | [], [], _ => rfl
  | [], y :: b, h => by cases h
  | x :: a, [], h => by cases h
  | x :: a, y :: b, h => by
    rw [List.map_cons, List.map_cons] at h
    rw [nz_inj (List.cons.inj h).1, nzs_inj (List.cons.inj h).2]
theorem eqGrid {K : PySem.W.Frag} {H : Hp} {Q : VK} {a b : Addr} {F G : Grid} (h : GridAt H a F) (g : GridAt H b G) (q : Q (.bl (decide (F = G))) H) : rEqD K (.ref a) (.ref b) H Q := by
  have e : decide (F.map nz = G.map nz) = decide (F = G) := by
    by_cases z : F = G
    · rw [z, decide_eq_true rfl, decide_eq_true rfl]
    · rw [decide_eq_false z, decide_eq_false fun y => z (nzs_inj y)]
  refine ⟨_, _, h.dp, g.dp, by rw [dG_LL]; exact shp_LL _, by rw [dG_LL]; exact shp_LL _, ?_⟩
  rw [dG_LL, dG_LL, eqv_LL, e]
  exact q
theorem neGrid {K : PySem.W.Frag} {H : Hp} {Q : VK} {a b : Addr} {F G : Grid} (h : GridAt H a F) (g : GridAt H b G) (q : Q (.bl (!decide (F = G))) H) : rNeD K (.ref a) (.ref b) H Q := by
  have e : decide (F.map nz = G.map nz) = decide (F = G) := by
    by_cases z : F = G
    · rw [z, decide_eq_true rfl, decide_eq_true rfl]
    · rw [decide_eq_false z, decide_eq_false fun y => z (nzs_inj y)]
  refine ⟨_, _, h.dp, g.dp, by rw [dG_LL]; exact shp_LL _, by rw [dG_LL]; exact shp_LL _, ?_⟩
  rw [dG_LL, dG_LL, eqv_LL, e]
  exact q
theorem at_ints {ns : List Int} {i : Nat} {n : Int} (h : ns[i]? = some n) : (ns.map V.int)[i]? = some (.int n) := by rw [List.getElem?_map, h]; rfl
theorem atI_last {xs : List V} {v : V} (h : xs[xs.length - 1]? = some v) : atI xs (-1) = some v := by
  have hl : xs.length - 1 < xs.length := (List.getElem?_eq_some_iff.mp h).1
  have e : ixN xs.length (-1) = some (xs.length - 1) := by
    unfold ixN
    rw [if_neg (by omega), if_pos (by omega)]
    congr 1
    omega
  unfold atI
  rw [e]
  exact h
theorem cutV_from1 (xs : List V) : cutV xs (some 1) none = xs.drop 1 := by
  unfold cutV
  have e2 : HT.sIx xs.length xs.length none = xs.length := rfl
  have e1 : HT.sIx xs.length 0 (some 1) = min 1 xs.length := HT.sIx_nat ..
  rw [e1, e2]
  by_cases h : 1 ≤ xs.length
  · rw [Nat.min_eq_left h, List.take_of_length_le (by rw [List.length_drop]; omega)]
  · have : xs = [] := List.length_eq_zero_iff.mp (by omega)
    rw [this]
    rfl
theorem cut_take (xs : List V) (j : Nat) : cutV xs none (some (j : Int)) = xs.take j := by
  by_cases h : j ≤ xs.length
  · exact BC.cut_to xs rfl h
  · unfold cutV
    have e1 : HT.sIx xs.length 0 none = 0 := rfl
    rw [HT.sIx_nat, e1, List.drop_zero, Nat.sub_zero, Nat.min_eq_right (by omega), List.take_length, List.take_of_length_le (by omega)]
theorem GridN.get {H H' : Hp} {s : Addr} {G : Grid} (h : GridN H H' s G) {i : Nat} (hi : i < G.length) : ∃ p xs, H' s = some (.lst xs) ∧ xs.length = G.length ∧ xs[i]? = some (.ref p) ∧ H' p = some (.lst ((nz (row G i)).map V.int)) ∧ H p = none := by
  obtain ⟨_, ps, h1, h2, _, _, h3⟩ := h
  have hx : ps[i]? = some ps[i] := List.getElem?_eq_getElem (by omega)
  exact ⟨ps[i], _, h1, by rw [List.length_map]; exact h2, by rw [List.getElem?_map, hx]; rfl, (h3 i _ hx).2, (h3 i _ hx).1⟩
theorem GridN.lower {Hl H H' : Hp} {b s : Addr} {G : Grid} (h : GridN H H' s G) (f : Fx b Hl H) (hb : ∃ o, H b = some o) : GridN Hl H' s G := by
  obtain ⟨o, ho⟩ := hb
  obtain ⟨h0, ps, h1, h2, h4, h5, h3⟩ := h
  have nb : ∀ {x : Addr}, H x = none → x ≠ b := fun n e => by subst e; rw [ho] at n; cases n
  exact ⟨fx_none f h0 (nb h0), ps, h1, h2, h4, h5, fun i p q => ⟨fx_none f (h3 i p q).1 (nb (h3 i p q).1), (h3 i p q).2⟩⟩
theorem nd_at {l : List Addr} (h : l.Nodup) {i j : Nat} {x : Addr} (a : l[i]? = some x) (b : l[j]? = some x) : i = j := by
  obtain ⟨h1, h2⟩ := List.getElem?_eq_some_iff.mp a
  obtain ⟨h3, h4⟩ := List.getElem?_eq_some_iff.mp b
  have e1 := h.idxOf_getElem i h1
  have e2 := h.idxOf_getElem j h3
  rw [h2] at e1
  rw [h4] at e2
  exact e1.symm.trans e2
/-- kept of a list -/
theorem kept_nz (s : List Nat) (k : Nat → Bool) : kept s.length (fun i => k (s.getD i 0)) (fun i => V.int ((s.getD i 0 : Nat) : Int)) = (nz (s.filter k)).map V.int := by
  unfold kept nz
  have e : (List.range s.length).map (fun i => s.getD i 0) = s := by
    apply List.ext_getElem?
    intro j
    by_cases h : j < s.length
    · rw [List.getElem?_map, List.getElem?_range h, List.getElem?_eq_getElem h]
      show some (s.getD j 0) = _
      rw [List.getD_eq_getElem?_getD, List.getElem?_eq_getElem h]
      rfl
    · rw [List.getElem?_eq_none (by rw [List.length_map, List.length_range]; omega), List.getElem?_eq_none (by omega)]
  conv => rhs; rw [← e]
  rw [List.filter_map, List.map_map, List.map_map]
  rfl
theorem kept_rng (n : Nat) (k : Nat → Bool) : kept n k (fun i => V.int ((i : Nat) : Int)) = (nz ((List.range n).filter k)).map V.int := by
  unfold kept nz
  rw [List.map_map]
  rfl
/-- zip of lists of different lengths -/
theorem lc_zipM {K : PySem.W.Frag} {σ : L2.St} {H1 : Hp} {tt : TT} {te : TE} {vs : List Nat} {Dl : Addr} {Q : VK} {a b : Addr} {xs ys : List V} {j k : Nat} (n : Nat) (keep : Nat → Bool) (f : Nat → V) (hx : SqL K H1 a xs) (hy : SqL K H1 b ys) (h1 : n ≤ xs.length) (h2 : n ≤ ys.length) (h3 : n = xs.length ∨ n = ys.length) (hD : H1 Dl = none) (hn : n ≤ 100000)
    (hw : ∀ u v : V, wipe (((wipe σ vs).set j (some u)).set k (some v)) vs = wipe σ vs)
    (ht : ∀ i x y, xs[i]? = some x → ys[i]? = some y → Evl.EvT tt (((wipe σ vs).set j (some x)).set k (some y)) H1 (keep i))
    (he : ∀ i x y, xs[i]? = some x → ys[i]? = some y → keep i = true → Evl.Ev te (((wipe σ vs).set j (some x)).set k (some y)) H1 (f i))
    (hd : ∀ H', Evl.Ex H1 H' → H' Dl = some (.lst (kept n keep f)) → Q (.ref Dl) H') : LcG (Itz K a b) (gTup K 2 (gCons (gName j) (gCons (gName k) gNil))) tt te vs σ Dl H1 Q := by
  have gx : ∀ i, i < n → xs[i]? = some (xs.getD i .non) := fun i hi => by rw [List.getD_eq_getElem?_getD, List.getElem?_eq_getElem (by omega)]; rfl
  have gy : ∀ i, i < n → ys[i]? = some (ys.getD i .non) := fun i hi => by rw [List.getD_eq_getElem?_getD, List.getElem?_eq_getElem (by omega)]; rfl
  refine lc_pure n (fun i => ((wipe σ vs).set j (some (xs.getD i .non))).set k (some (ys.getD i .non))) keep f hD hn (fun H' e => ⟨xs, ys, Evl.ex_l e hx, Evl.ex_l e hy, by omega⟩)
    (fun i H' hi e => ⟨xs, ys, _, _, Evl.ex_l e hx, Evl.ex_l e hy, gx i hi, gy i hi⟩)
    (fun i H' x H'' QG hi e y q => ?_) (fun i hi => hw _ _) (fun i hi => ht i _ _ (gx i hi) (gy i hi)) (fun i hi => he i _ _ (gx i hi) (gy i hi)) hd
  obtain ⟨T, u, v, rfl, hT, rfl, hf, hf2⟩ := y
  have hu := hf xs (Evl.ex_l e hx)
  have hv := hf2 ys (Evl.ex_l e hy)
  have e1 : xs.getD i .non = u := by rw [List.getD_eq_getElem?_getD, hu]; rfl
  have e2 : ys.getD i .non = v := by rw [List.getD_eq_getElem?_getD, hv]; rfl
  refine g_two upd_same ?_
  have q2 := q (Evl.Ex.new hT)
  rw [e1, e2] at q2
  exact q2
end BC

set_option Elab.async false
set_option linter.all false
set_option maxRecDepth 100000
set_option maxHeartbeats 4000000
/-! repr of anything that is shown: numbers, texts, None, lists, tuples, empty dicts, at any depth -/
namespace BC
open PySem PySem.Spec PyProof.Rows L2 Evl
mutual
inductive De (K : PySem.W.Frag) (H : Hp) : V → PyData → Prop
  | non : De K H .non .none
  | bl (b : Bool) : De K H (.bl b) (.bool b)
  | int (i : Int) : De K H (.int i) (.int i)
  | str (x : Str) : De K H (.str x) (.str x)
  | lst {a : Addr} {xs : List V} {ds : List PyData} : SqL K H a xs → DeAll K H xs ds → De K H (.ref a) (.list ds)
  | tup {a : Addr} {xs : List V} {ds : List PyData} : SqT K H a xs → DeAll K H xs ds → De K H (.ref a) (.tuple ds)
  | dic {a : Addr} : H a = some (.dK []) → De K H (.ref a) (.dict [])
inductive DeAll (K : PySem.W.Frag) (H : Hp) : List V → List PyData → Prop
  | nil : DeAll K H [] []
  | cons {v : V} {vs : List V} {d : PyData} {ds : List PyData} : De K H v d → DeAll K H vs ds → DeAll K H (v :: vs) (d :: ds)
end
section
variable {X : Cx} {pins : List (Addr × Obj)} {σ : L2.St} {H : Hp} {s : Shared}
/-- what is known of a value that is shown -/
def Shows (X : Cx) (s : Shared) (u : Value) (d : PyData) : Prop :=
  (∃ as, Reads s.heap u d as) ∧ ∃ bs, ReadAtMost s.heap d.depth bs ∧ ReprK X.prog X.w bs s.heap d.depth u d.shown
def ShowsAll (X : Cx) (s : Shared) (us : List Value) (ds : List PyData) : Prop :=
  (∃ as, ReadsAll s.heap us ds as) ∧ ∃ bs, ReadAtMost s.heap (PyData.depthAll ds) bs ∧ ReprAllK X.prog X.w bs s.heap (PyData.depthAll ds) us (PyData.shownAll ds)
theorem empty_dict (I : Inv X pins σ H s) {a : Addr} (e : H a = some (.dK [])) : (a == sysModules) = false ∧ ∃ o n, s.heap.get? a = some o ∧ o.cls = .type "dict" ∧ o.data = .dict #[] n := by
  obtain ⟨_, hs, vs, kv, o, es, ep, ho, hx, hd, _, hm, _⟩ := dk_of I.hok e
  cases kv
  have he : es = #[] := by
    obtain ⟨l⟩ := es
    cases l with
    | nil => rfl
    | cons y l => cases hm
  subst he
  exact ⟨hs, o, ep, ho, hx.1, hd⟩
mutual
theorem De.shows (I : Inv X pins σ H s) : ∀ (d : PyData) (v : V) (u : Value), De X.K H v d → RelV v u → d.showable = true → d.shown.length ≤ sizeLine → Shows X s u d
  | .none, _, _, h, r, _, _ => by
    cases h; cases r
    exact ⟨⟨_, .none⟩, [], (fun _ m => nomatch m), by rw [show PyData.shown .none = ("None" : Str) by simp only [PyData.shown]]; exact .of_is ReprIs.none _ _ _⟩
  | .bool b, _, _, h, r, _, _ => by
    cases h; cases r
    exact ⟨⟨_, .bool b⟩, [], (fun _ m => nomatch m), by simp only [PyData.shown]; exact .of_is (ReprIs.bool b) _ _ _⟩
  | .int i, _, _, h, r, hs, _ => by
    cases h
    obtain ⟨t, rfl⟩ := r
    have h1 : i.natAbs.log2 < 1920 := by simpa [PyData.showable] using hs
    exact ⟨⟨_, .int i t⟩, [], (fun _ m => nomatch m), by simp only [PyData.shown]; exact .of_is (ReprIs.int t h1) _ _ _⟩
  | .str x, _, _, h, r, _, hz => by
    cases h
    obtain ⟨t, rfl⟩ := r
    simp only [PyData.shown] at hz
    exact ⟨⟨_, .str x t⟩, [], (fun _ m => nomatch m), by simp only [PyData.shown]; exact .of_is (ReprIs.str x t hz) _ _ _⟩
  | .list ds, _, _, h, r, hs, hz => by
    cases h with
    | lst hl ha =>
      cases r
      obtain ⟨its, rv, ⟨o, n, ho, hc, _, hd⟩, _⟩ := I.list hl
      simp only [PyData.shown] at hz
      simp only [PyData.showable] at hs
      obtain ⟨⟨as, hr⟩, bs, hb, hk⟩ := DeAll.shows I ds _ its ha rv hs fun t ht => Nat.le_trans (listText_mem_le ht) hz
      have r1 : Reads s.heap _ (.list ds) _ := .list ho hc hd hr
      have na := not_mem_of_deeper r1 (show PyData.depthAll ds < PyData.depth (.list ds) by simp only [PyData.depth]; omega) hb
      refine ⟨⟨_, r1⟩, _ :: bs, ReadAtMost.cons r1 (by simp only [PyData.depth]; omega) hb, ?_⟩
      simp only [PyData.depth, PyData.shown]
      cases its with
      | nil =>
        cases hr
        simp only [PyData.shownAll, listText_nil]
        exact ReprK.listEmpty ho hc hd
      | cons y l => exact ReprK.list ho hc hd na (by simpa using hk.length_eq) (fun i y e => hk.item i y (by simpa using e))
  | .tuple ds, _, _, h, r, hs, hz => by
    cases h with
    | tup hl ha =>
      cases r
      obtain ⟨its, rv, ⟨o, ho, hc, n, hd⟩, _⟩ := I.tuple hl
      simp only [PyData.shown] at hz
      simp only [PyData.showable] at hs
      obtain ⟨⟨as, hr⟩, bs, hb, hk⟩ := DeAll.shows I ds _ its ha rv hs fun t ht => Nat.le_trans (tupleText_mem_le ht) hz
      have r1 : Reads s.heap _ (.tuple ds) _ := .tuple ho hc hd hr
      have na := not_mem_of_deeper r1 (show PyData.depthAll ds < PyData.depth (.tuple ds) by simp only [PyData.depth]; omega) hb
      refine ⟨⟨_, r1⟩, _ :: bs, ReadAtMost.cons r1 (by simp only [PyData.depth]; omega) hb, ?_⟩
      simp only [PyData.depth, PyData.shown]
      exact ReprK.tuple ho hc hd na hk
  | .dict kvs, _, _, h, r, hs, hz => by
    cases h with
    | dic e =>
      cases r
      obtain ⟨hsys, o, n, ho, hc, hd⟩ := empty_dict I e
      have r1 : Reads s.heap _ (.dict []) _ := .dict (kvs := []) ho hc hd .nil .nil
      refine ⟨⟨_, r1⟩, [_], ReadAtMost.cons r1 (Nat.zero_le _) (fun _ m => nomatch m), ?_⟩
      simp only [PyData.depth, PyData.shown, PyData.shownKv, PyData.depthKv]
      exact ReprK.dict ho hc hd hsys List.not_mem_nil .nil
theorem DeAll.shows (I : Inv X pins σ H s) : ∀ (ds : List PyData) (vs : List V) (us : List Value), DeAll X.K H vs ds → Vals vs us → PyData.showableAll ds = true → (∀ t ∈ PyData.shownAll ds, t.length ≤ sizeLine) → ShowsAll X s us ds
  | [], _, _, h, r, _, _ => by
    cases h; cases r
    exact ⟨⟨_, .nil⟩, [], (fun _ m => nomatch m), by simp only [PyData.shownAll]; exact .nil⟩
  | d :: ds, _, _, h, r, hs, hz => by
    cases h with
    | cons h1 h2 =>
      cases r with
      | cons r1 r2 =>
        have hs2 : d.showable = true ∧ PyData.showableAll ds = true := by simpa [PyData.showableAll] using hs
        obtain ⟨⟨as, q1⟩, b1, c1, k1⟩ := De.shows I d _ _ h1 r1 hs2.1 (hz _ (by simp only [PyData.shownAll]; exact List.mem_cons_self))
        obtain ⟨⟨as2, q2⟩, b2, c2, k2⟩ := DeAll.shows I ds _ _ h2 r2 hs2.2 (fun t ht => hz t (by simp only [PyData.shownAll]; exact List.mem_cons_of_mem _ ht))
        refine ⟨⟨_, .cons q1 q2⟩, b1 ++ b2, ReadAtMost.append (c1.mono ?_) (c2.mono ?_), ?_⟩
        · simp only [PyData.depthAll]; omega
        · simp only [PyData.depthAll]; omega
        · simp only [PyData.depthAll, PyData.shownAll]
          exact .cons ((k1.more fun b m => List.mem_append_left _ m).level_le (by omega)) (k2.more_le (fun b m => List.mem_append_right _ m) (by omega))
end
def rReprA (K : PySem.W.Frag) : List V → Hp → VK → Prop := fun xs H Q => ∃ v d, xs = [v] ∧ De K H v d ∧ d.showable = true ∧ d.depth ≤ 60 ∧ d.shown.length ≤ sizeLine ∧ Q (.str d.shown) H
theorem k_reprA {K : PySem.W.Frag} (hK : X.K = K) (g : G0 X.A) (hu : X.A.units + 64 < cLine) : CallR X (.builtin "repr") (rReprA K) := by
  subst hK
  intro pins s σ H xs us Q I r h
  obtain ⟨v, d, rfl, hd, h1, h2, h4, q⟩ := h
  obtain ⟨u, rfl, ru⟩ := vals1 r
  have fin : ∀ (h' : Heap) (t tk : Nat), (∀ b o, s.heap.get? b = some o → h'.get? b = some o) → EP X pins σ Q (.str d.shown t) { s with heap := h', toks := tk } := fun h' t tk hk => ⟨.str _, H, I.kept hk, ⟨_, rfl⟩, q⟩
  cases hd with
  | non =>
    cases ru
    simp only [PyData.shown] at fin
    exact P.repr_of_none (fin s.heap _ _ fun _ _ e => e)
  | bl b =>
    cases ru
    simp only [PyData.shown] at fin
    exact P.repr_of_bool (fin s.heap _ _ fun _ _ e => e)
  | int i =>
    obtain ⟨t, rfl⟩ := ru
    simp only [PyData.shown] at fin
    exact P.repr_of_int (by simpa [PyData.showable] using h1) (fin s.heap _ _ fun _ _ e => e)
  | str x =>
    obtain ⟨t, rfl⟩ := ru
    simp only [PyData.shown] at fin h4
    exact P.repr_of_str (fin s.heap _ _ fun _ _ e => e) h4
  | @lst a ys ds hl ha =>
    cases ru
    obtain ⟨its, rv, ⟨o, n, ho, hc, _, hd⟩, _⟩ := I.list hl
    simp only [PyData.shown] at h4 fin
    simp only [PyData.showable] at h1
    simp only [PyData.depth] at h2
    obtain ⟨⟨as, hr⟩, bs, hb, hk⟩ := DeAll.shows I ds _ its ha rv h1 fun t ht => Nat.le_trans (listText_mem_le ht) h4
    have r1 : Reads s.heap _ (.list ds) _ := .list ho hc hd hr
    have na := not_mem_of_deeper r1 (show PyData.depthAll ds < PyData.depth (.list ds) by simp only [PyData.depth]; omega) hb
    refine call_repr_slot (by omega) ⟨o, ho, hc⟩ PySem.F.slot_list_repr.toG ?_
    cases its with
    | nil =>
      cases hr
      simp only [PyData.shownAll, listText_nil] at fin
      exact call_list_repr_empty ⟨o, ho, hc⟩ ho hd ⟨_, _, rfl, fin s.heap _ _ fun _ _ e => e⟩
    | cons y l => exact call_list_reprK ho hc hd na (by simpa using hk.length_eq) (fun i y e => hk.item i y (by simpa using e)) g (fun b _ => Clear.nil b) (by show X.A.units + 1 + _ < cLine; omega) (fun _ _ e => e) (fun h' u tk k => ⟨_, _, rfl, fin h' u tk k⟩) h4
  | @tup a ys ds hl ha =>
    cases ru
    obtain ⟨its, rv, ⟨o, ho, hc, n, hd⟩, _⟩ := I.tuple hl
    simp only [PyData.shown] at h4 fin
    simp only [PyData.showable] at h1
    simp only [PyData.depth] at h2
    obtain ⟨⟨as, hr⟩, bs, hb, hk⟩ := DeAll.shows I ds _ its ha rv h1 fun t ht => Nat.le_trans (tupleText_mem_le ht) h4
    have r1 : Reads s.heap _ (.tuple ds) _ := .tuple ho hc hd hr
    have na := not_mem_of_deeper r1 (show PyData.depthAll ds < PyData.depth (.tuple ds) by simp only [PyData.depth]; omega) hb
    refine call_repr_slot (by omega) ⟨o, ho, hc⟩ PySem.F.slot_tuple_repr ?_
    exact call_tuple_reprK ho hc hd na hk g (fun b _ => Clear.nil b) (by show X.A.units + 1 + _ < cLine; omega) (fun _ _ e => e) (fun h' u tk k => ⟨_, _, rfl, fin h' u tk k⟩) h4
  | dic e =>
    cases ru
    obtain ⟨hsys, o, n, ho, hc, hd⟩ := empty_dict I e
    simp only [PyData.shown, PyData.shownKv] at h4 fin
    refine call_repr_slot (by omega) ⟨o, ho, hc⟩ PySem.F.slot_dict_repr ?_
    exact call_dict_reprK (as := []) (d := 0) ho hc hd hsys List.not_mem_nil .nil g (fun b _ => Clear.nil b) (by show X.A.units + 1 + _ < cLine; omega) (fun _ _ e => e) (fun h' u tk k => ⟨_, _, rfl, fin h' u tk k⟩) h4
end
/-! ### what is shown stays so, its type, its size -/
section
variable {K : PySem.W.Frag} {H H' : Hp} {Q : VK}
mutual
theorem De.ex (e : Ex H H') : ∀ (d : PyData) (v : V), De K H v d → De K H' v d
  | .none, _, h => by cases h; exact .non
  | .bool _, _, h => by cases h; exact .bl _
  | .int _, _, h => by cases h; exact .int _
  | .str _, _, h => by cases h; exact .str _
  | .dict _, _, h => by
    cases h with
    | dic h1 => exact .dic (e _ _ h1)
  | .list ds, _, h => by
    cases h with
    | lst h1 h2 => exact .lst (ex_l e h1) (DeAll.ex e ds _ h2)
  | .tuple ds, _, h => by
    cases h with
    | tup h1 h2 => exact .tup (ex_t e h1) (DeAll.ex e ds _ h2)
theorem DeAll.ex (e : Ex H H') : ∀ (ds : List PyData) (vs : List V), DeAll K H vs ds → DeAll K H' vs ds
  | [], _, h => by cases h; exact .nil
  | d :: ds, _, h => by
    cases h with
    | cons h1 h2 => exact .cons (De.ex e d _ h1) (DeAll.ex e ds _ h2)
end
theorem De.ty {v : V} {d : PyData} (h : De K H v d) : TyX K H v (.type (tyn d)) := by
  cases h with
  | non => exact .base .non
  | bl b => exact .base (.bl b)
  | int i => exact .base (.int i)
  | str x => exact .base (.str x)
  | lst h _ => exact tyx_l h
  | tup h _ => exact tyx_t h
  | dic h => exact .base (.dK h)
theorem de_ints (ns : List Int) : DeAll K H (ns.map V.int) (ns.map PyData.int) := by
  induction ns with
  | nil => exact .nil
  | cons n ns ih => exact .cons (.int n) ih
theorem DeAll.len {vs : List V} {ds : List PyData} (h : DeAll K H vs ds) : vs.length = ds.length := by
  induction ds generalizing vs with
  | nil => cases h; rfl
  | cons d ds ih =>
    cases h with
    | cons _ h2 => simp [ih h2]
theorem DeAll.at {vs : List V} {ds : List PyData} (h : DeAll K H vs ds) {i : Nat} {v : V} (hv : vs[i]? = some v) : ∃ d, ds[i]? = some d ∧ De K H v d := by
  induction ds generalizing vs i with
  | nil => cases h; simp at hv
  | cons d ds ih =>
    cases h with
    | cons h1 h2 =>
      cases i with
      | zero => cases hv; exact ⟨d, rfl, h1⟩
      | succ i => exact ih h2 (by simpa using hv)
theorem DeAll.app {vs ws : List V} {ds es : List PyData} (h : DeAll K H vs ds) (g : DeAll K H ws es) : DeAll K H (vs ++ ws) (ds ++ es) := by
  induction ds generalizing vs with
  | nil => cases h; exact g
  | cons d ds ih =>
    cases h with
    | cons h1 h2 => exact .cons h1 (ih h2)
/-- shown in few signs -/
structure Gd (n W : Nat) (d : PyData) : Prop where
  s : d.showable = true
  l : d.leavesShort 40 = true
  dp : d.depth ≤ n
  w : d.weight ≤ W
theorem Gd.mono {n W n2 W2 : Nat} {d : PyData} (h : Gd n W d) (a : n ≤ n2) (b : W ≤ W2) : Gd n2 W2 d := ⟨h.s, h.l, Nat.le_trans h.dp a, Nat.le_trans h.w b⟩
theorem Gd.non : Gd 0 0 .none := ⟨rfl, rfl, Nat.le_refl _, Nat.le_refl _⟩
theorem Gd.bl (b : Bool) : Gd 0 0 (.bool b) := ⟨rfl, rfl, Nat.le_refl _, Nat.le_refl _⟩
theorem Gd.dic : Gd 1 0 (.dict []) := ⟨by simp [PyData.showable, PyData.showableKv], by simp [PyData.leavesShort, PyData.leavesShortKv], by simp [PyData.depth, PyData.depthKv], by simp [PyData.weight, PyData.weightKv]⟩
theorem Gd.int {i : Int} (h : i.natAbs < 10 ^ 38) : Gd 0 130 (.int i) := by
  have h2 : i.natAbs < 2 ^ 130 := Nat.lt_trans h (by decide +kernel)
  have hl : i.natAbs.log2 < 130 := log2_small (by decide) h2
  refine ⟨?_, ?_, Nat.le_refl _, ?_⟩
  · show decide (i.natAbs.log2 < 1920) = true
    exact decide_eq_true (by omega)
  · show decide ((PyData.shown (.int i)).length ≤ 40) = true
    refine decide_eq_true ?_
    have e := int_text_length_le10 (k := 38) (by decide) h
    simp only [PyData.shown]
    rw [show ((toString i : String) : Str).length = (toString i).length from PySem.ofString_length _]
    omega
  · simp only [PyData.weight]
    split
    · omega
    · omega
theorem Gd.str {x : Str} (h : (PyData.str x).leavesShort 40 = true) : Gd 0 x.cps.size (.str x) := ⟨rfl, h, Nat.le_refl _, by simp only [PyData.weight]; exact Nat.le_refl _⟩
theorem gd_all {ds : List PyData} {n W : Nat} (h : ∀ d ∈ ds, Gd n W d) : PyData.showableAll ds = true ∧ PyData.leavesShortAll 40 ds = true ∧ PyData.depthAll ds ≤ n ∧ PyData.weightAll ds ≤ (W + 1) * ds.length := by
  induction ds with
  | nil => exact ⟨rfl, rfl, Nat.zero_le _, Nat.zero_le _⟩
  | cons d ds ih =>
    have a := h d List.mem_cons_self
    obtain ⟨b1, b2, b3, b4⟩ := ih fun e m => h e (List.mem_cons_of_mem _ m)
    have := a.dp
    have := a.w
    simp only [PyData.showableAll, PyData.leavesShortAll, PyData.depthAll, PyData.weightAll, List.length_cons, Nat.mul_add, a.s, a.l, b1, b2, Bool.and_self]
    exact ⟨trivial, trivial, by omega, by omega⟩
theorem Gd.list {ds : List PyData} {n W : Nat} (h : ∀ d ∈ ds, Gd n W d) : Gd (n + 1) ((W + 1) * ds.length) (.list ds) := by
  obtain ⟨b1, b2, b3, b4⟩ := gd_all h
  exact ⟨by simp only [PyData.showable]; exact b1, by simp only [PyData.leavesShort]; exact b2, by simp only [PyData.depth]; omega, by simp only [PyData.weight]; exact b4⟩
theorem Gd.tuple {ds : List PyData} {n W : Nat} (h : ∀ d ∈ ds, Gd n W d) : Gd (n + 1) ((W + 1) * ds.length) (.tuple ds) := by
  obtain ⟨b1, b2, b3, b4⟩ := gd_all h
  exact ⟨by simp only [PyData.showable]; exact b1, by simp only [PyData.leavesShort]; exact b2, by simp only [PyData.depth]; omega, by simp only [PyData.weight]; exact b4⟩
theorem Gd.fits {n W : Nat} {d : PyData} (h : Gd n W d) (hW : W ≤ 370000) : d.shown.length ≤ sizeLine := by
  have a := PyData.shown_le 40 (by decide) d h.l
  have b := h.w
  rw [sizeLine_eq]
  omega
theorem reprA {v : V} {d : PyData} {n W : Nat} (h : De K H v d) (g : Gd n W d) (hn : n ≤ 60) (hW : W ≤ 370000) (q : Q (.str d.shown) H) : rReprA K [v] H Q :=
  ⟨v, d, rfl, h, g.s, Nat.le_trans g.dp hn, g.fits hW, q⟩
end
/-! ### values that are shown in few signs; one address hidden -/
def hidB (b : Addr) (H : Hp) : Hp := fun a => if a = b then none else H a
theorem hid_ex {b : Addr} {H : Hp} : Ex (hidB b H) H := fun a o h => by
  unfold hidB at h
  split at h
  · cases h
  · exact h
theorem hid_ne {b a : Addr} {H : Hp} (n : a ≠ b) : hidB b H a = H a := by
  unfold hidB
  rw [if_neg n]
theorem hid_fx {b : Addr} {H H' : Hp} (f : Fx b H H') : Ex (hidB b H) (hidB b H') := fun a o h => by
  unfold hidB at h ⊢
  by_cases e : a = b
  · rw [if_pos e] at h; cases h
  · rw [if_neg e] at h ⊢
    exact f a o e h
theorem hid_of {b : Addr} {H H' : Hp} (e : Ex H H') : Ex (hidB b H) (hidB b H') := hid_fx (fun a o _ h => e a o h)
def Sv (K : PySem.W.Frag) (H : Hp) (n W : Nat) (v : V) : Prop := ∃ d, De K H v d ∧ Gd n W d
section
variable {K : PySem.W.Frag} {H H' : Hp} {Q : VK} {n W : Nat} {v : V}
theorem Sv.ex (h : Sv K H n W v) (e : Ex H H') : Sv K H' n W v := by
  obtain ⟨d, a, g⟩ := h
  exact ⟨d, De.ex e d v a, g⟩
theorem Sv.mono {n2 W2 : Nat} (h : Sv K H n W v) (a : n ≤ n2) (b : W ≤ W2) : Sv K H n2 W2 v := by
  obtain ⟨d, x, g⟩ := h
  exact ⟨d, x, g.mono a b⟩
theorem Sv.non : Sv K H n W .non := ⟨_, .non, Gd.non.mono (Nat.zero_le _) (Nat.zero_le _)⟩
theorem Sv.bl (b : Bool) : Sv K H n W (.bl b) := ⟨_, .bl b, (Gd.bl b).mono (Nat.zero_le _) (Nat.zero_le _)⟩
theorem Sv.int {i : Int} (h : i.natAbs < 10 ^ 38) (hW : 130 ≤ W) : Sv K H n W (.int i) := ⟨_, .int i, (Gd.int h).mono (Nat.zero_le _) hW⟩
theorem Sv.str {x : Str} (h : (PyData.str x).leavesShort 40 = true) (hW : x.cps.size ≤ W) : Sv K H n W (.str x) := ⟨_, .str x, (Gd.str h).mono (Nat.zero_le _) hW⟩
theorem Sv.dic {a : Addr} (h : H a = some (.dK [])) (hn : 1 ≤ n) : Sv K H n W (.ref a) := ⟨_, .dic h, Gd.dic.mono hn (Nat.zero_le _)⟩
theorem sv_all {xs : List V} (h : ∀ x ∈ xs, Sv K H n W x) : ∃ ds, DeAll K H xs ds ∧ (∀ d ∈ ds, Gd n W d) ∧ ds.length = xs.length := by
  induction xs with
  | nil => exact ⟨[], .nil, (fun _ m => nomatch m), rfl⟩
  | cons x xs ih =>
    obtain ⟨d, a, g⟩ := h x List.mem_cons_self
    obtain ⟨ds, b, c, l⟩ := ih fun y m => h y (List.mem_cons_of_mem _ m)
    refine ⟨d :: ds, .cons a b, fun e m => ?_, by simp [l]⟩
    rcases List.mem_cons.mp m with rfl | m
    · exact g
    · exact c e m
theorem Sv.lst {a : Addr} {xs : List V} {W2 n2 : Nat} (h : SqL K H a xs) (hx : ∀ x ∈ xs, Sv K H n W x) (hn : n + 1 ≤ n2) (hW : (W + 1) * xs.length ≤ W2) : Sv K H n2 W2 (.ref a) := by
  obtain ⟨ds, b, c, l⟩ := sv_all hx
  exact ⟨.list ds, .lst h b, (Gd.list c).mono hn (by rw [l]; exact hW)⟩
theorem Sv.tup {a : Addr} {xs : List V} {W2 n2 : Nat} (h : SqT K H a xs) (hx : ∀ x ∈ xs, Sv K H n W x) (hn : n + 1 ≤ n2) (hW : (W + 1) * xs.length ≤ W2) : Sv K H n2 W2 (.ref a) := by
  obtain ⟨ds, b, c, l⟩ := sv_all hx
  exact ⟨.tuple ds, .tup h b, (Gd.tuple c).mono hn (by rw [l]; exact hW)⟩
theorem sv_ints {ns : List Int} (h : ∀ i ∈ ns, i.natAbs < 10 ^ 38) (hW : 130 ≤ W) : ∀ x ∈ ns.map V.int, Sv K H n W x := fun x m => by
  obtain ⟨i, hi, rfl⟩ := List.mem_map.mp m
  exact .int (h i hi) hW
end
/-- a part of a list of numbers is one -/
theorem cut_ints (ns : List Int) (lo hi : Option Int) : ∃ ms : List Int, cutV (ns.map V.int) lo hi = ms.map V.int ∧ ms.length ≤ ns.length ∧ ∀ m ∈ ms, m ∈ ns := by
  have h : ∀ xs : List V, (∀ x ∈ xs, x ∈ ns.map V.int) → ∃ ms : List Int, xs = ms.map V.int ∧ ∀ m ∈ ms, m ∈ ns := fun xs => by
    induction xs with
    | nil => exact fun _ => ⟨[], rfl, fun _ m => nomatch m⟩
    | cons x xs ih =>
      intro hx
      obtain ⟨i, hi, rfl⟩ := List.mem_map.mp (hx x List.mem_cons_self)
      obtain ⟨ms, rfl, hm⟩ := ih fun y m => hx y (List.mem_cons_of_mem _ m)
      refine ⟨i :: ms, rfl, fun m e => ?_⟩
      rcases List.mem_cons.mp e with rfl | e
      · exact hi
      · exact hm m e
  obtain ⟨ms, e, hm⟩ := h _ fun x m => cutV_mem m
  refine ⟨ms, e, ?_, hm⟩
  have := cutV_len (ns.map V.int) lo hi
  rw [e, List.length_map, List.length_map] at this
  exact this
/-! ### new things with the heap left closed -/
section
variable {K : PySem.W.Frag} {H : Hp} {Q : VK}
theorem newE {o : HO} (q : ∀ (p : Addr) (H' : Hp), H p = none → Ex H H' → H' p = some o → Q (.ref p) H') : ∀ p, H p = none → Q (.ref p) (upd H p o) := fun p np => q p _ np (Ex.new np) upd_same
theorem slE {a : Addr} {lo hi : Option Int} {row : List Int} (h : SqL K H a (row.map V.int)) (q : ∀ (p : Addr) (H' : Hp) (ms : List Int), H p = none → Ex H H' → H' p = some (.lst (ms.map V.int)) → ms.length ≤ row.length → (∀ m ∈ ms, m ∈ row) → Q (.ref p) H') : rSlL K (.ref a) lo hi H Q := by
  obtain ⟨ms, e, l, i⟩ := cut_ints row lo hi
  refine slL h fun z nz => ?_
  rw [e]
  exact q z _ ms nz (Ex.new nz) upd_same l i
theorem slXE {a : Addr} {lo hi : Option Int} {xs : List V} (h : SqL K H a xs) (q : ∀ (p : Addr) (H' : Hp) (ys : List V), H p = none → Ex H H' → H' p = some (.lst ys) → ys = cutV xs lo hi → ys.length ≤ xs.length → (∀ m ∈ ys, m ∈ xs) → Q (.ref p) H') : rSlL K (.ref a) lo hi H Q :=
  slL h fun z nz => q z _ _ nz (Ex.new nz) upd_same rfl (cutV_len _ _ _) fun m hm => cutV_mem hm
theorem catE {a b : Addr} {xs ys : List V} (h : H a = some (.lst xs)) (hb : H b = some (.lst ys)) (hz : xs.length + ys.length ≤ 100000) (q : ∀ (p : Addr) (H' : Hp), H p = none → Ex H H' → H' p = some (.lst (xs ++ ys)) → Q (.ref p) H') : rCat (.ref a) (.ref b) H Q :=
  catL h hb (sz_ok hz) (newE q)
theorem repE {a : Addr} {xs : List V} {k : Nat} (h : H a = some (.lst xs)) (hk : k ≤ 100000) (hz : xs.length * k ≤ 100000) (q : ∀ (p : Addr) (H' : Hp), H p = none → Ex H H' → H' p = some (.lst (List.replicate k xs).flatten) → Q (.ref p) H') : rRep (.ref a) (.int k) H Q :=
  repL h (by omega) (by omega) (sz_ok (by simpa using hz)) (by simpa using newE q)
theorem lstE {xs : List V} (hz : xs.length ≤ 100000) (q : ∀ (p : Addr) (H' : Hp), H p = none → Ex H H' → H' p = some (.lst xs) → Q (.ref p) H') : xs.length ≤ sizeLine ∧ ∀ p, H p = none → Q (.ref p) (upd H p (.lst xs)) := ⟨sz_ok hz, newE q⟩
theorem tupE {xs : List V} (hz : xs.length ≤ 100000) (q : ∀ (p : Addr) (H' : Hp), H p = none → Ex H H' → H' p = some (.tup xs) → Q (.ref p) H') : xs.length ≤ sizeLine ∧ ∀ p, H p = none → Q (.ref p) (upd H p (.tup xs)) := ⟨sz_ok hz, newE q⟩
end
end BC

set_option Elab.async false
set_option linter.all false
set_option maxRecDepth 100000
set_option maxHeartbeats 4000000
/-! whether any value is a site; a list held against the empty one -/
namespace BC
open PySem PySem.Spec PyProof.Rows L2 Evl
section
variable {X : Cx} {K : PySem.W.Frag}
/-- == of any list and an empty one -/
def rEqNil (K : PySem.W.Frag) : R2 := fun x y H Q => ∃ (a b : Addr) (xs : List V), x = .ref a ∧ y = .ref b ∧ SqL K H a xs ∧ SqL K H b [] ∧ Q (.bl (decide (xs = []))) H
theorem k_eqNil (hK : X.K = K) (hu : X.A.units + 64 < cLine) : OpR X (compareOp .Eq) (rEqNil K) := by
  subst hK
  intro pins s σ H x y v u Q I rx ry h
  obtain ⟨a, b, xs, rfl, rfl, ha, hb, q⟩ := h
  cases rx
  cases ry
  obtain ⟨its, r, p1, _⟩ := I.list ha
  obtain ⟨its2, r2, p2, _⟩ := I.list hb
  have z2 : its2 = [] := by cases r2; rfl
  subst z2
  have lr := r.length
  cases xs with
  | nil =>
    have z1 : its = [] := by cases r; rfl
    subst z1
    rw [decide_eq_true rfl] at q
    exact SeqAt.eq_listAt (e := fun _ => true) p1.isList p2.isList rfl (by omega) (fun j h1 _ => absurd h1 (by simp)) ⟨.bl true, H, I, rfl, q⟩
  | cons x xs =>
    rw [decide_eq_false (by simp)] at q
    exact SeqAt.eq_list_lengthsAt p1.isList p2.isList (by simp; intro e; subst e; simp at lr) (by omega) ⟨.bl false, H, I, rfl, q⟩
theorem eqNil {a b : Addr} {xs : List V} {H : Hp} {Q : VK} (ha : SqL K H a xs) (hb : SqL K H b []) (q : Q (.bl (decide (xs = []))) H) : rEqNil K (.ref a) (.ref b) H Q := ⟨a, b, xs, rfl, rfl, ha, hb, q⟩
end
/-! ### the plain law -/
def inD (lo hi : Int) : PyData → Bool
  | .int i => decide (lo ≤ i) && decide (i ≤ hi)
  | _ => false
def numD : PyData → Int
  | .int i => i
  | _ => 0
/-- is the value a row of links of page i among m pages? -/
def isRowD (i : Nat) (m : Int) : PyData → Bool
  | .list ds => if ds.all (inD 0 (m - 1)) = true then decide ((i : Int) ∉ ds.map numD) && decide ((ds.map numD).Pairwise (· < ·)) else false
  | _ => false
def isSiteD : PyData → Bool
  | .list ds => if 1 ≤ ds.length ∧ ds.length ≤ 12 then (List.range ds.length).all fun i => isRowD i ds.length (ds.getD i .none) else false
  | _ => false
/-- the law's own look at a row -/
def netRow (m : Int) (i : Nat) : Int → List PyData → Bool
  | _, [] => true
  | last, .int x :: ds => if x ≤ last ∨ x ≥ m then false else if x = i then false else netRow m i x ds
  | _, .none :: _ => false
  | _, .bool _ :: _ => false
  | _, .str _ :: _ => false
  | _, .list _ :: _ => false
  | _, .tuple _ :: _ => false
  | _, .dict _ :: _ => false
theorem netRow_iff (m : Int) (i : Nat) : ∀ (ds : List PyData) (last : Int), -1 ≤ last → (netRow m i last ds = true ↔ (ds.all (inD 0 (m - 1)) = true ∧ (i : Int) ∉ ds.map numD ∧ (ds.map numD).Pairwise (· < ·) ∧ ∀ n ∈ ds.map numD, last < n)) := by
  intro ds
  induction ds with
  | nil => intro last _; simp [netRow]
  | cons d ds ih =>
    intro last hl
    cases d with
    | int x =>
      simp only [netRow, List.map_cons, List.all_cons, numD, List.mem_cons, List.pairwise_cons]
      by_cases c1 : x ≤ last ∨ x ≥ m
      · rw [if_pos c1]
        constructor
        · intro h; cases h
        · rintro ⟨h1, h2, h3, h4⟩
          have := h4 x (.inl rfl)
          simp [inD] at h1
          omega
      · rw [if_neg c1]
        by_cases c2 : x = (i : Int)
        · rw [if_pos c2]
          constructor
          · intro h; cases h
          · rintro ⟨_, h2, _⟩
            exact absurd (.inl c2.symm) h2
        · rw [if_neg c2, ih x (by omega)]
          constructor
          · rintro ⟨h1, h2, h3, h4⟩
            refine ⟨?_, ?_, ⟨h4, h3⟩, ?_⟩
            · rw [h1]
              simp [inD]
              omega
            · rintro (h | h)
              · exact c2 h.symm
              · exact h2 h
            · rintro n (rfl | h)
              · omega
              · have := h4 n h; omega
          · rintro ⟨h1, h2, ⟨h3, h5⟩, h4⟩
            rw [Bool.and_eq_true] at h1
            exact ⟨h1.2, fun h => h2 (.inr h), h5, h3⟩
    | _ =>
      constructor
      · intro h; cases h
      · rintro ⟨h1, _⟩
        simp [inD] at h1
theorem netRow_row (m : Int) (i : Nat) (ds : List PyData) : netRow m i (-1) ds = isRowD i m (.list ds) := by
  have h := netRow_iff m i ds (-1) (by omega)
  show _ = (if ds.all (inD 0 (m - 1)) = true then decide ((i : Int) ∉ ds.map numD) && decide ((ds.map numD).Pairwise (· < ·)) else false)
  by_cases c : ds.all (inD 0 (m - 1)) = true
  · rw [if_pos c]
    have nn : ∀ n ∈ ds.map numD, -1 < n := fun n hn => by
      obtain ⟨d, hd, rfl⟩ := List.mem_map.mp hn
      have := List.all_eq_true.mp c d hd
      cases d <;> simp [inD, numD] at this ⊢
      omega
    cases e : netRow m i (-1) ds with
    | true =>
      obtain ⟨_, h2, h3, _⟩ := h.mp e
      rw [decide_eq_true h2, decide_eq_true h3]
      rfl
    | false =>
      symm
      rw [Bool.and_eq_false_iff]
      by_cases c2 : (i : Int) ∈ ds.map numD
      · exact .inl (decide_eq_false (fun z => z c2))
      · refine .inr (decide_eq_false fun c3 => ?_)
        rw [h.mpr ⟨c, c2, c3, nn⟩] at e
        cases e
  · rw [if_neg c]
    cases e : netRow m i (-1) ds with
    | true => exact absurd (h.mp e).1 c
    | false => rfl
/-! ### values whose lists are not too long -/
def LenL (d : PyData) : Prop := ∀ es, d = .list es → es.length ≤ 4000
def RowsL (d : PyData) : Prop := ∀ ds, d = .list ds → ∀ e ∈ ds, LenL e
/-- shown in few signs, itself not too long -/
def Sw (K : PySem.W.Frag) (H : Hp) (n W : Nat) (v : V) : Prop := ∃ d, De K H v d ∧ Gd n W d ∧ LenL d
/-- shown in few signs, its items not too long -/
def Sr (K : PySem.W.Frag) (H : Hp) (n W : Nat) (v : V) : Prop := ∃ d, De K H v d ∧ Gd n W d ∧ RowsL d
section
variable {K : PySem.W.Frag} {H H' : Hp} {n W : Nat} {v : V}
theorem Gd.intB {i : Int} {k : Nat} (h : i.natAbs < 2 ^ k) (h0 : 0 < k) (hk : k ≤ 128) : Gd 0 k (.int i) := by
  have hl : i.natAbs.log2 < k := log2_small h0 h
  have h2 : i.natAbs < 10 ^ 39 := Nat.lt_of_lt_of_le h (Nat.le_trans (Nat.pow_le_pow_right (by decide) hk) (by decide +kernel))
  refine ⟨?_, ?_, Nat.le_refl _, ?_⟩
  · show decide (i.natAbs.log2 < 1920) = true
    exact decide_eq_true (by omega)
  · show decide ((PyData.shown (.int i)).length ≤ 40) = true
    refine decide_eq_true ?_
    have e := int_text_length_le10 (k := 39) (by decide) h2
    simp only [PyData.shown]
    rw [show ((toString i : String) : Str).length = (toString i).length from PySem.ofString_length _]
    omega
  · simp only [PyData.weight]
    split
    · omega
    · omega
theorem Sw.ex (h : Sw K H n W v) (e : Ex H H') : Sw K H' n W v := by
  obtain ⟨d, a, g⟩ := h
  exact ⟨d, De.ex e d v a, g⟩
theorem Sr.ex (h : Sr K H n W v) (e : Ex H H') : Sr K H' n W v := by
  obtain ⟨d, a, g⟩ := h
  exact ⟨d, De.ex e d v a, g⟩
theorem Sw.mono {n2 W2 : Nat} (h : Sw K H n W v) (a : n ≤ n2) (b : W ≤ W2) : Sw K H n2 W2 v := by
  obtain ⟨d, x, g, l⟩ := h
  exact ⟨d, x, g.mono a b, l⟩
theorem Sr.mono {n2 W2 : Nat} (h : Sr K H n W v) (a : n ≤ n2) (b : W ≤ W2) : Sr K H n2 W2 v := by
  obtain ⟨d, x, g, l⟩ := h
  exact ⟨d, x, g.mono a b, l⟩
theorem Sw.non : Sw K H n W .non := ⟨_, .non, Gd.non.mono (Nat.zero_le _) (Nat.zero_le _), fun _ e => by cases e⟩
theorem Sw.bl (b : Bool) : Sw K H n W (.bl b) := ⟨_, .bl b, (Gd.bl b).mono (Nat.zero_le _) (Nat.zero_le _), fun _ e => by cases e⟩
theorem Sw.int {i : Int} {k : Nat} (h : i.natAbs < 2 ^ k) (h0 : 0 < k) (hk : k ≤ 128) (hW : k ≤ W) : Sw K H n W (.int i) := ⟨_, .int i, (Gd.intB h h0 hk).mono (Nat.zero_le _) hW, fun _ e => by cases e⟩
theorem Sw.str {x : Str} (h : (PyData.str x).leavesShort 40 = true) (hW : x.cps.size ≤ W) : Sw K H n W (.str x) := ⟨_, .str x, (Gd.str h).mono (Nat.zero_le _) hW, fun _ e => by cases e⟩
theorem Sw.dic {a : Addr} (h : H a = some (.dK [])) (hn : 1 ≤ n) : Sw K H n W (.ref a) := ⟨_, .dic h, Gd.dic.mono hn (Nat.zero_le _), fun _ e => by cases e⟩
theorem sw_all {xs : List V} (h : ∀ x ∈ xs, Sw K H n W x) : ∃ ds, DeAll K H xs ds ∧ (∀ d ∈ ds, Gd n W d) ∧ (∀ d ∈ ds, LenL d) ∧ ds.length = xs.length := by
  induction xs with
  | nil => exact ⟨[], .nil, (fun _ m => nomatch m), (fun _ m => nomatch m), rfl⟩
  | cons x xs ih =>
    obtain ⟨d, a, g, q⟩ := h x List.mem_cons_self
    obtain ⟨ds, b, c, r, l⟩ := ih fun y m => h y (List.mem_cons_of_mem _ m)
    refine ⟨d :: ds, .cons a b, fun e m => ?_, fun e m => ?_, by simp [l]⟩
    · rcases List.mem_cons.mp m with rfl | m
      · exact g
      · exact c e m
    · rcases List.mem_cons.mp m with rfl | m
      · exact q
      · exact r e m
theorem Sw.lst {a : Addr} {xs : List V} {W2 n2 : Nat} (h : SqL K H a xs) (hx : ∀ x ∈ xs, Sw K H n W x) (hl : xs.length ≤ 4000) (hn : n + 1 ≤ n2) (hW : (W + 1) * xs.length ≤ W2) : Sw K H n2 W2 (.ref a) := by
  obtain ⟨ds, b, c, q, l⟩ := sw_all hx
  exact ⟨.list ds, .lst h b, (Gd.list c).mono hn (by rw [l]; exact hW), fun es e => by cases e; omega⟩
theorem Sr.lst {a : Addr} {xs : List V} {W2 n2 : Nat} (h : SqL K H a xs) (hx : ∀ x ∈ xs, Sw K H n W x) (hn : n + 1 ≤ n2) (hW : (W + 1) * xs.length ≤ W2) : Sr K H n2 W2 (.ref a) := by
  obtain ⟨ds, b, c, q, l⟩ := sw_all hx
  exact ⟨.list ds, .lst h b, (Gd.list c).mono hn (by rw [l]; exact hW), fun es e f m => by cases e; exact q f m⟩
theorem Sw.tup {a : Addr} {xs : List V} {W2 n2 : Nat} (h : SqT K H a xs) (hx : ∀ x ∈ xs, Sw K H n W x) (hn : n + 1 ≤ n2) (hW : (W + 1) * xs.length ≤ W2) : Sw K H n2 W2 (.ref a) := by
  obtain ⟨ds, b, c, q, l⟩ := sw_all hx
  exact ⟨.tuple ds, .tup h b, (Gd.tuple c).mono hn (by rw [l]; exact hW), fun es e => by cases e⟩
/-- what is no list is asked no more -/
theorem Sw.sr {d : PyData} (a : De K H v d) (g : Gd n W d) (h : ∀ es, d ≠ .list es) : Sr K H n W v := ⟨d, a, g, fun es e => absurd e (h es)⟩
theorem Sr.non : Sr K H n W .non := Sw.sr .non (Gd.non.mono (Nat.zero_le _) (Nat.zero_le _)) (fun _ e => by cases e)
theorem Sr.bl (b : Bool) : Sr K H n W (.bl b) := Sw.sr (.bl b) ((Gd.bl b).mono (Nat.zero_le _) (Nat.zero_le _)) (fun _ e => by cases e)
theorem Sr.int {i : Int} {k : Nat} (h : i.natAbs < 2 ^ k) (h0 : 0 < k) (hk : k ≤ 128) (hW : k ≤ W) : Sr K H n W (.int i) := Sw.sr (.int i) ((Gd.intB h h0 hk).mono (Nat.zero_le _) hW) (fun _ e => by cases e)
theorem Sr.str {x : Str} (h : (PyData.str x).leavesShort 40 = true) (hW : x.cps.size ≤ W) : Sr K H n W (.str x) := Sw.sr (.str x) ((Gd.str h).mono (Nat.zero_le _) hW) (fun _ e => by cases e)
theorem Sr.dic {a : Addr} (h : H a = some (.dK [])) (hn : 1 ≤ n) : Sr K H n W (.ref a) := Sw.sr (.dic h) (Gd.dic.mono hn (Nat.zero_le _)) (fun _ e => by cases e)
theorem Sr.tup {a : Addr} {xs : List V} {W2 n2 : Nat} (h : SqT K H a xs) (hx : ∀ x ∈ xs, Sw K H n W x) (hn : n + 1 ≤ n2) (hW : (W + 1) * xs.length ≤ W2) : Sr K H n2 W2 (.ref a) := by
  obtain ⟨ds, b, c, q, l⟩ := sw_all hx
  exact ⟨.tuple ds, .tup h b, (Gd.tuple c).mono hn (by rw [l]; exact hW), fun es e => by cases e⟩
theorem sw_ints {ns : List Int} {k : Nat} (h : ∀ i ∈ ns, i.natAbs < 2 ^ k) (h0 : 0 < k) (hk : k ≤ 128) (hW : k ≤ W) : ∀ x ∈ ns.map V.int, Sw K H n W x := fun x m => by
  obtain ⟨i, hi, rfl⟩ := List.mem_map.mp m
  exact .int (h i hi) h0 hk hW
/-- a list of numbers below 256 -/
theorem Sw.row {a : Addr} {ns : List Int} {n2 W2 : Nat} (h : SqL K H a (ns.map V.int)) (hb : ∀ i ∈ ns, i.natAbs < 256) (hl : ns.length ≤ 4000) (hn : 1 ≤ n2) (hW : 9 * ns.length ≤ W2) : Sw K H n2 W2 (.ref a) :=
  Sw.lst (n := 0) (W := 8) h (sw_ints (k := 8) hb (by omega) (by omega) (Nat.le_refl _)) (by rw [List.length_map]; exact hl) hn (by rw [List.length_map]; exact hW)
/-- the rows of a grid -/
theorem grid_sw {s : Addr} {G : Grid} (h : GridAt H s G) {m : Nat} (hr : ∀ i, (row G i).length ≤ m ∧ ∀ x ∈ row G i, x < 256) (hm : m ≤ 4000) : ∃ xs, H s = some (.lst xs) ∧ xs.length = G.length ∧ ∀ x ∈ xs, Sw K H 1 (9 * m) x := by
  obtain ⟨xs, h1, h2, h3⟩ := h.lst
  refine ⟨xs, h1, h2, fun x hx => ?_⟩
  obtain ⟨i, hi⟩ := List.getElem?_of_mem hx
  obtain ⟨_, p, rfl, hp⟩ := h3 i x hi
  have q := hr i
  refine Sw.row (.inl (.inl hp)) (fun n hn => ?_) (by rw [nz_len]; omega) (Nat.le_refl _) (by rw [nz_len]; exact Nat.mul_le_mul_left _ q.1)
  obtain ⟨y, hy, rfl⟩ := List.mem_map.mp hn
  have := q.2 y hy
  show ((y : Nat) : Int).natAbs < 256
  omega
end
end BC

set_option Elab.async false
set_option linter.all false
set_option maxRecDepth 100000
set_option maxHeartbeats 4000000
/-! walks on a site, by number and one by one -/
namespace BC
section
open PySem PySem.Spec PyProof.Rows L2 Evl
/-- xs[i] of xs[i] += e -/
def rGetL (K : PySem.W.Frag) : V → V → Hp → VK → Prop := fun x y H Q => ∃ p xs, ∃ i : Nat, ∃ v, x = .ref p ∧ y = .int i ∧ SqL K H p xs ∧ xs[i]? = some v ∧ Q v H
theorem k_get {X : Cx} {K : PySem.W.Frag} (hK : X.K = K) : PGet X (rGetL K) := by
  subst hK
  intro pins s σ H o i ov iv Q I ro ri h
  obtain ⟨p, xs, j, v, rfl, rfl, hq, hv, q⟩ := h
  cases ro
  obtain ⟨t, rfl⟩ := ri
  obtain ⟨its, r, pl, hz⟩ := I.list hq
  obtain ⟨u, eu, ru⟩ := r.get hv
  have hl := r.length
  have hn := line63
  have hj := (List.getElem?_eq_some_iff.mp hv).1
  refine wpAny_getItem_list (x := u) pl.isList (by omega) (by omega) (by simpa using eu) ⟨v, H, I, ru, q⟩
theorem getL {K : PySem.W.Frag} {H : Hp} {Q : VK} {p : Addr} {xs : List V} {k : Int} {i : Nat} {v : V} (h : SqL K H p xs) (e : k = (i : Int)) (hv : xs[i]? = some v) (q : Q v H) : rGetL K (.ref p) (.int k) H Q := by subst e; exact ⟨p, xs, i, v, rfl, rfl, h, hv, q⟩
theorem x_augS {to ti te : TE} {tget : V → V → Hp → VK → Prop} {tip : TIp} {tset : TSet} {D : Ends} {σ : L2.St} {H : Hp} : tAugS to ti te tget tip tset D σ H = to σ H fun o H1 => ti σ H1 fun i H2 => tget o i H2 fun x H3 => te σ H3 fun y H4 => tip x y H4 fun z H5 => tset o i z H5 fun H6 => D.nx σ H6 := rfl
end
/-- the walks of t steps from v -/
def wf (G : Grid) : Nat → Nat → List (List Nat)
  | 0, v => [[v]]
  | t + 1, v => ((row G v).map fun u => (wf G t u).map (v :: ·)).flatten
def lst (r : List Nat) : Nat := r.getLast?.getD 0
def grow (G : Grid) (r : List Nat) : List (List Nat) := (row G (lst r)).map fun u => r ++ [u]
theorem wf_ne {G : Grid} : ∀ (t v : Nat), ∀ r ∈ wf G t v, r ≠ []
  | 0, v, r, h => by
    obtain rfl : r = [v] := by simpa [wf] using h
    simp
  | t + 1, v, r, h => by
    unfold wf at h
    obtain ⟨a, ha, hr⟩ := List.mem_flatten.mp h
    obtain ⟨u, _, rfl⟩ := List.mem_map.mp ha
    obtain ⟨q, _, rfl⟩ := List.mem_map.mp hr
    simp
theorem grow_cons (G : Grid) (v : Nat) {r : List Nat} (h : r ≠ []) : grow G (v :: r) = (grow G r).map (v :: ·) := by
  unfold grow lst
  rw [List.map_map, List.getLast?_cons_of_ne_nil h]
  rfl
theorem sum_zeros {α : Type} : ∀ l : List α, (l.map fun _ => 0).sum = 0
  | [] => rfl
  | x :: l => by rw [List.map_cons, List.sum_cons, sum_zeros l]
theorem map_flatten' {α β : Type} (f : α → β) : ∀ l : List (List α), l.flatten.map f = (l.map (·.map f)).flatten
  | [] => rfl
  | a :: l => by rw [List.flatten_cons, List.map_append, map_flatten' f l]; rfl
theorem flatten_flatten' {α : Type} : ∀ l : List (List (List α)), l.flatten.flatten = (l.map (·.flatten)).flatten
  | [] => rfl
  | a :: l => by rw [List.flatten_cons, List.flatten_append, flatten_flatten' l]; rfl
theorem wf_snoc (G : Grid) : ∀ (t v : Nat), wf G (t + 1) v = ((wf G t v).map (grow G)).flatten
  | 0, v => by
    show ((row G v).map fun u => [[v, u]]).flatten = (grow G [v]) ++ []
    rw [List.append_nil]
    show ((row G v).map fun u => [[v, u]]).flatten = (row G v).map fun u => [v, u]
    generalize row G v = l
    induction l with
    | nil => rfl
    | cons x l ih =>
      rw [List.map_cons, List.flatten_cons, ih]
      rfl
  | t + 1, v => by
    have ih := fun u => wf_snoc G t u
    show ((row G v).map fun u => (wf G (t + 1) u).map (v :: ·)).flatten = ((((row G v).map fun u => (wf G t u).map (v :: ·)).flatten).map (grow G)).flatten
    rw [map_flatten', flatten_flatten', List.map_map, List.map_map]
    congr 1
    apply List.map_congr_left
    intro u _
    show (wf G (t + 1) u).map (v :: ·) = ((wf G t u |>.map (v :: ·)).map (grow G)).flatten
    rw [ih u, map_flatten', List.map_map, List.map_map]
    congr 1
    apply List.map_congr_left
    intro r hr
    show (grow G r).map (v :: ·) = grow G (v :: r)
    rw [grow_cons G v (wf_ne t u r hr)]
/-- the number of walks of t steps from v to the page that keep out -/
def fw (G : Grid) (out : List Nat) (p : Nat) : Nat → Nat → Nat
  | 0, v => if v = p ∧ v ∉ out then 1 else 0
  | t + 1, v => if v ∉ out then ((row G v).map fun u => fw G out p t u).sum else 0
/-- a walk to the page that keeps out -/
def good (out : List Nat) (p : Nat) (r : List Nat) : Bool := decide (lst r = p) && decide (r.filter (fun x => decide (x ∈ out)) = [])
theorem good_cons {out : List Nat} {p v : Nat} {r : List Nat} (h : r ≠ []) : good out p (v :: r) = (decide (v ∉ out) && good out p r) := by
  unfold good lst
  rw [List.getLast?_cons_of_ne_nil h]
  by_cases c : v ∈ out
  · simp [c]
  · simp [c]
theorem len_flat {α : Type} (P : α → Bool) : ∀ l : List (List α), (l.flatten.filter P).length = (l.map fun a => (a.filter P).length).sum
  | [] => rfl
  | a :: l => by rw [List.flatten_cons, List.filter_append, List.length_append, len_flat P l]; rfl
theorem fw_count (G : Grid) (out : List Nat) (p : Nat) : ∀ (t v : Nat), ((wf G t v).filter (good out p)).length = fw G out p t v
  | 0, v => by
    show ([[v]].filter (good out p)).length = if v = p ∧ v ∉ out then 1 else 0
    have e : good out p [v] = (decide (v = p) && decide (v ∉ out)) := by
      show (decide (v = p) && decide ([v].filter (fun x => decide (x ∈ out)) = [])) = _
      congr 1
      by_cases c : v ∈ out <;> simp [c]
    by_cases a : v = p <;> by_cases c : v ∈ out <;> simp [e, a, c]
    all_goals (subst a; simp_all)
  | t + 1, v => by
    show ((((row G v).map fun u => (wf G t u).map (v :: ·)).flatten).filter (good out p)).length = if v ∉ out then ((row G v).map fun u => fw G out p t u).sum else 0
    rw [len_flat, List.map_map]
    have key : ∀ u, (((wf G t u).map (v :: ·)).filter (good out p)).length = if v ∉ out then fw G out p t u else 0 := fun u => by
      rw [List.filter_map, List.length_map]
      have e : (wf G t u).filter (good out p ∘ fun x => v :: x) = (wf G t u).filter fun r => decide (v ∉ out) && good out p r := by
        apply List.filter_congr
        intro r hr
        show good out p (v :: r) = _
        rw [good_cons (wf_ne t u r hr)]
      rw [e]
      by_cases c : v ∈ out
      · simp [c]
      · rw [if_pos c]
        simp only [c, not_false_eq_true, decide_true, Bool.true_and]
        exact fw_count G out p t u
    by_cases c : v ∈ out
    · rw [if_neg (by simpa using c)]
      have : (row G v).map ((fun a => (List.filter (good out p) a).length) ∘ fun u => (wf G t u).map (v :: ·)) = (row G v).map fun _ => 0 := List.map_congr_left fun u _ => by
        show (((wf G t u).map (v :: ·)).filter (good out p)).length = 0
        rw [key u, if_neg (by simpa using c)]
      rw [this, sum_zeros]
    · rw [if_pos c]
      congr 1
      apply List.map_congr_left
      intro u _
      show (((wf G t u).map (v :: ·)).filter (good out p)).length = _
      rw [key u, if_pos c]
theorem wf_lt {G : Grid} (h : SiteOk G) : ∀ (t v : Nat), v < G.length → ∀ r ∈ wf G t v, (∀ x ∈ r, x < G.length) ∧ r.length = t + 1
  | 0, v, hv, r, hr => by
    obtain rfl : r = [v] := by simpa [wf] using hr
    exact ⟨fun x hx => by rw [List.mem_singleton.mp hx]; exact hv, rfl⟩
  | t + 1, v, hv, r, hr => by
    unfold wf at hr
    obtain ⟨a, ha, hr⟩ := List.mem_flatten.mp hr
    obtain ⟨u, hu, rfl⟩ := List.mem_map.mp ha
    obtain ⟨q, hq, rfl⟩ := List.mem_map.mp hr
    obtain ⟨h1, h2⟩ := wf_lt h t u (h.rlt hu) q hq
    refine ⟨fun x hx => ?_, by rw [List.length_cons, h2]⟩
    rcases List.mem_cons.mp hx with rfl | hx
    · exact hv
    · exact h1 x hx
theorem sum_le {f : Nat → Nat} {b : Nat} : ∀ {l : List Nat}, (∀ x ∈ l, f x ≤ b) → (l.map f).sum ≤ l.length * b
  | [], _ => by simp
  | x :: l, h => by
    have a := h x List.mem_cons_self
    have b := sum_le (l := l) fun y hy => h y (List.mem_cons_of_mem _ hy)
    rw [List.map_cons, List.sum_cons, List.length_cons, Nat.succ_mul]
    omega
theorem fw_le {G : Grid} (h : SiteOk G) (out : List Nat) (p : Nat) : ∀ t v, fw G out p t v ≤ 12 ^ t
  | 0, v => by
    unfold fw
    split <;> simp
  | t + 1, v => by
    unfold fw
    split
    · have a := sum_le (f := fun u => fw G out p t u) (b := 12 ^ t) (l := row G v) fun u _ => fw_le h out p t u
      have b := Nat.mul_le_mul_right (12 ^ t) (h.rlen v)
      rw [Nat.pow_succ, Nat.mul_comm]
      omega
    · exact Nat.zero_le _
theorem wf_len {G : Grid} (h : SiteOk G) : ∀ (t v : Nat), (wf G t v).length ≤ G.length ^ t
  | 0, v => by simp [wf]
  | t + 1, v => by
    show (((row G v).map fun u => (wf G t u).map (v :: ·)).flatten).length ≤ _
    have e : (((row G v).map fun u => (wf G t u).map (v :: ·)).flatten).length = ((row G v).map fun u => (wf G t u).length).sum := by
      rw [List.length_flatten, List.map_map]
      congr 1
      apply List.map_congr_left
      intro u _
      show ((wf G t u).map _).length = _
      rw [List.length_map]
    rw [e]
    have a := sum_le (f := fun u => (wf G t u).length) (b := G.length ^ t) (l := row G v) fun u _ => wf_len h t u
    have rl : (row G v).length ≤ G.length := by
      by_cases q : v < G.length
      · exact nodup_lt _ (asc_nodup (h.asc v _ (at_row q))) (h.lt v _ (at_row q))
      · unfold row
        rw [List.getD_eq_getElem?_getD, List.getElem?_eq_none (by omega)]
        exact Nat.zero_le _
    have b := Nat.mul_le_mul_right (G.length ^ t) rl
    rw [Nat.pow_succ, Nat.mul_comm]
    omega
theorem flat_le {α β : Type} {f : α → List β} {b : Nat} : ∀ {l : List α}, (∀ x ∈ l, (f x).length ≤ b) → (l.map f).flatten.length ≤ l.length * b
  | [], _ => by simp
  | x :: l, h => by
    have a := h x List.mem_cons_self
    have c := flat_le (l := l) fun y hy => h y (List.mem_cons_of_mem _ hy)
    rw [List.map_cons, List.flatten_cons, List.length_append, List.length_cons, Nat.succ_mul]
    omega
/-! ### products of lists of numbers -/
def cnv (a b : List Nat) (k : Nat) : Nat := ((List.range (k + 1)).map fun i => a.getD i 0 * b.getD (k - i) 0).sum
def conv (a b : List Nat) (n : Nat) : List Nat := (List.range (n + 1)).map fun k => cnv a b k
theorem conv_len (a b : List Nat) (n : Nat) : (conv a b n).length = n + 1 := by unfold conv; rw [List.length_map, List.length_range]
theorem conv_at {a b : List Nat} {n k : Nat} (h : k ≤ n) : (conv a b n)[k]? = some (cnv a b k) := by
  unfold conv
  rw [List.getElem?_map, List.getElem?_range (by omega)]
  rfl
/-- what is added up while the first i of a are done, and j of b at the next one -/
def part (a b : List Nat) (i j k : Nat) : Nat := ((List.range (k + 1)).map fun u => if u < i ∨ (u = i ∧ k - u < j) then a.getD u 0 * b.getD (k - u) 0 else 0).sum
theorem part_zero (a b : List Nat) (k : Nat) : part a b 0 0 k = 0 := by
  unfold part
  have : (List.range (k + 1)).map (fun u => if u < 0 ∨ (u = 0 ∧ k - u < 0) then a.getD u 0 * b.getD (k - u) 0 else 0) = (List.range (k + 1)).map fun _ => 0 := List.map_congr_left fun u _ => by rw [if_neg (by omega)]
  rw [this, sum_zeros]
theorem sum_one (n i : Nat) (f g : Nat → Nat) (c : Nat) (hi : i < n) (h1 : ∀ u, u < n → u ≠ i → g u = f u) (h2 : g i = f i + c) : ((List.range n).map g).sum = ((List.range n).map f).sum + c := by
  induction n with
  | zero => omega
  | succ n ih =>
    rw [List.range_succ, List.map_append, List.map_append, List.sum_append, List.sum_append]
    simp only [List.map_cons, List.map_nil, List.sum_cons, List.sum_nil]
    by_cases e : i = n
    · subst e
      have : (List.range i).map g = (List.range i).map f := List.map_congr_left fun u hu => h1 u (by rw [List.mem_range] at hu; omega) (by rw [List.mem_range] at hu; omega)
      rw [this, h2]
      omega
    · rw [ih (by omega) (fun u hu ne => h1 u (by omega) ne), h1 n (by omega) (Ne.symm e)]
      omega
theorem part_step {a b : List Nat} {i j k : Nat} : part a b i (j + 1) k = part a b i j k + if k = i + j then a.getD i 0 * b.getD j 0 else 0 := by
  unfold part
  by_cases c : k = i + j
  · rw [if_pos c]
    refine sum_one (k + 1) i _ _ _ (by omega) (fun u hu ne => ?_) ?_
    · have : (u < i ∨ (u = i ∧ k - u < j + 1)) ↔ (u < i ∨ (u = i ∧ k - u < j)) := by omega
      simp only [this]
    · have e : k - i = j := by omega
      rw [if_pos (by omega), if_neg (by omega), e, Nat.zero_add]
  · rw [if_neg c, Nat.add_zero]
    congr 1
    apply List.map_congr_left
    intro u hu
    rw [List.mem_range] at hu
    have : (u < i ∨ (u = i ∧ k - u < j + 1)) ↔ (u < i ∨ (u = i ∧ k - u < j)) := by omega
    simp only [this]
theorem part_next {a b : List Nat} {i j k : Nat} (h : k < i + j ∨ b.length ≤ j ∨ a.getD i 0 = 0) : part a b i j k = part a b (i + 1) 0 k := by
  unfold part
  congr 1
  apply List.map_congr_left
  intro u hu
  rw [List.mem_range] at hu
  by_cases c1 : u < i
  · rw [if_pos (.inl c1), if_pos (by omega)]
  · by_cases c2 : u = i
    · subst c2
      rw [if_pos (show u < u + 1 ∨ _ by omega)]
      by_cases c3 : k - u < j
      · rw [if_pos (by omega)]
      · rw [if_neg (by omega)]
        rcases h with h | h | h
        · omega
        · rw [show b.getD (k - u) 0 = 0 by rw [List.getD_eq_getElem?_getD, List.getElem?_eq_none (by omega)]; rfl, Nat.mul_zero]
        · rw [h, Nat.zero_mul]
    · rw [if_neg (by omega), if_neg (by omega)]
theorem part_full {a b : List Nat} {i k : Nat} (h : k < i ∨ a.length ≤ i) : part a b i 0 k = cnv a b k := by
  unfold part cnv
  congr 1
  apply List.map_congr_left
  intro u hu
  rw [List.mem_range] at hu
  by_cases c : u < i
  · rw [if_pos (.inl c)]
  · rw [if_neg (by omega)]
    rw [show a.getD u 0 = 0 by rw [List.getD_eq_getElem?_getD, List.getElem?_eq_none (by omega)]; rfl, Nat.zero_mul]
theorem part_le {a b : List Nat} {i j k B C : Nat} (ha : ∀ x ∈ a, x ≤ B) (hb : ∀ x ∈ b, x ≤ C) : part a b i j k ≤ (k + 1) * (B * C) := by
  unfold part
  have ga : ∀ u, a.getD u 0 ≤ B := fun u => by
    by_cases q : u < a.length
    · rw [List.getD_eq_getElem?_getD, List.getElem?_eq_getElem q]
      exact ha _ (List.getElem_mem q)
    · rw [List.getD_eq_getElem?_getD, List.getElem?_eq_none (by omega)]
      exact Nat.zero_le _
  have gb : ∀ u, b.getD u 0 ≤ C := fun u => by
    by_cases q : u < b.length
    · rw [List.getD_eq_getElem?_getD, List.getElem?_eq_getElem q]
      exact hb _ (List.getElem_mem q)
    · rw [List.getD_eq_getElem?_getD, List.getElem?_eq_none (by omega)]
      exact Nat.zero_le _
  have := sum_le (f := fun u => if u < i ∨ (u = i ∧ k - u < j) then a.getD u 0 * b.getD (k - u) 0 else 0) (b := B * C) (l := List.range (k + 1)) fun u _ => by
    split
    · exact Nat.mul_le_mul (ga u) (gb _)
    · exact Nat.zero_le _
  rw [List.length_range] at this
  exact this
/-- the list of the sums -/
def parts (a b : List Nat) (n i j : Nat) : List Nat := (List.range (n + 1)).map fun k => part a b i j k
theorem parts_len (a b : List Nat) (n i j : Nat) : (parts a b n i j).length = n + 1 := by unfold parts; rw [List.length_map, List.length_range]
theorem parts_at {a b : List Nat} {n i j k : Nat} (h : k ≤ n) : (parts a b n i j)[k]? = some (part a b i j k) := by
  unfold parts
  rw [List.getElem?_map, List.getElem?_range (by omega)]
  rfl
theorem parts_zero (a b : List Nat) (n : Nat) : parts a b n 0 0 = List.replicate (n + 1) 0 := by
  apply List.ext_getElem?
  intro k
  by_cases h : k < n + 1
  · rw [parts_at (by omega), part_zero, List.getElem?_replicate, if_pos h]
  · rw [List.getElem?_eq_none (by rw [parts_len]; omega), List.getElem?_eq_none (by rw [List.length_replicate]; omega)]
theorem parts_step {a b : List Nat} {n i j : Nat} (h : i + j ≤ n) : (parts a b n i j).set (i + j) (part a b i j (i + j) + a.getD i 0 * b.getD j 0) = parts a b n i (j + 1) := by
  apply List.ext_getElem?
  intro k
  by_cases hk : k < n + 1
  · rw [parts_at (by omega), part_step, List.getElem?_set]
    by_cases e : i + j = k
    · subst e
      rw [if_pos rfl, if_pos (by rw [parts_len]; omega), if_pos rfl]
    · rw [if_neg e, parts_at (by omega), if_neg (Ne.symm e), Nat.add_zero]
  · rw [List.getElem?_eq_none (by rw [List.length_set, parts_len]; omega), List.getElem?_eq_none (by rw [parts_len]; omega)]
theorem parts_over {a b : List Nat} {n i j : Nat} (h : n < i + j) : parts a b n i (j + 1) = parts a b n i j := by
  unfold parts
  apply List.map_congr_left
  intro k hk
  rw [List.mem_range] at hk
  rw [part_step, if_neg (by omega), Nat.add_zero]
theorem parts_next {a b : List Nat} {n i j : Nat} (h : n < i + j ∨ b.length ≤ j ∨ a.getD i 0 = 0) : parts a b n i j = parts a b n (i + 1) 0 := by
  unfold parts
  apply List.map_congr_left
  intro k hk
  rw [List.mem_range] at hk
  exact part_next (by omega)
theorem parts_full {a b : List Nat} {n i : Nat} (h : n < i ∨ a.length ≤ i) : parts a b n i 0 = conv a b n := by
  unfold parts conv
  apply List.map_congr_left
  intro k hk
  rw [List.mem_range] at hk
  exact part_full (by omega)
section
open PySem PySem.Spec PyProof.Rows L2 Evl
theorem lc_enumE {K : PySem.W.Frag} {σ : L2.St} {H1 : Hp} {g : TG} {te : TE} {vs : List Nat} {Dl : Addr} {Q : VK} {a : Addr} {xs : List V} (Pv : Nat → Hp → Prop) (h0 : Pv 0 (upd H1 Dl (.lst []))) (hl : ∀ i H, i ≤ xs.length → Pv i H → SqL K H a xs)
    (hs : ∀ i x H T, xs[i]? = some x → Pv i H → H T = none → g (.ref T) (wipe σ vs) (upd H T (.tup [.int (i : Nat), x])) fun σ2 H2 => wipe σ2 vs = wipe σ vs ∧ te σ2 H2 fun y H4 => ∃ acc, H4 Dl = some (.lst acc) ∧ acc.length < sizeLine ∧ Pv (i + 1) (upd H4 Dl (.lst (acc ++ [y]))))
    (hd : ∀ H, Pv xs.length H → Q (.ref Dl) H) : LcG (Ite K a) g tYes te vs σ Dl H1 Q := by
  refine lc_g xs.length Pv h0 (fun H h => ⟨xs, hl _ H (Nat.le_refl _) h, Nat.le_refl _⟩) (fun i H hi h => ⟨xs, xs[i], hl i H (by omega) h, List.getElem?_eq_getElem hi⟩) (fun i H x H' hi h y => ?_) hd
  obtain ⟨T, v, rfl, hT, rfl, hf⟩ := y
  exact hs i v H T (hf xs (hl i _ (by omega) h)) h hT
/-- a row of a new grid changed -/
theorem GridN.chg {H H1 : Hp} {s : Addr} {G : Grid} (h : GridN H H1 s G) {j : Nat} (hj : j < G.length) : ∃ p xs, H1 s = some (.lst xs) ∧ xs.length = G.length ∧ xs[j]? = some (.ref p) ∧ H1 p = some (.lst ((nz (row G j)).map V.int)) ∧ H p = none ∧
    ∀ r : List Nat, GridN H (upd H1 p (.lst ((nz r).map V.int))) s (G.set j r) := by
  obtain ⟨h0, ps, h1, h2, h4, h5, h3⟩ := h
  have hx : ps[j]? = some ps[j] := List.getElem?_eq_getElem (by omega)
  have hp := h3 j _ hx
  refine ⟨ps[j], _, h1, by rw [List.length_map]; exact h2, by rw [List.getElem?_map, hx]; rfl, hp.2, hp.1, fun r => ?_⟩
  have ns : s ≠ ps[j] := fun e => h5 (by rw [e]; exact List.getElem_mem _)
  refine ⟨h0, ps, by rw [upd_ne ns]; exact h1, by rw [List.length_set]; exact h2, h4, h5, fun i q e => ⟨(h3 i q e).1, ?_⟩⟩
  by_cases c : i = j
  · subst c
    rw [hx] at e
    obtain rfl := Option.some.inj e
    rw [upd_same]
    unfold row
    rw [List.getD_eq_getElem?_getD, List.getElem?_set, if_pos rfl, if_pos hj]
    rfl
  · have nq : q ≠ ps[j] := fun z => by
      subst z
      exact c (nd_at h4 e hx)
    rw [upd_ne nq, (h3 i q e).2]
    unfold row
    rw [List.getD_eq_getElem?_getD, List.getD_eq_getElem?_getD, List.getElem?_set, if_neg (Ne.symm c)]
/-! ### what the functions of loops.py give -/
def cl (G : Grid) (out : List Nat) (p n : Nat) : List Nat := (List.range (n + 1)).map fun t => fw G out p t p
def stg (G : Grid) (out : List Nat) (p k j : Nat) : Grid := (List.range G.length).map fun v => (List.range (if v < j then k + 2 else k + 1)).map fun t => fw G out p t v
theorem stg_len (G : Grid) (out : List Nat) (p k j : Nat) : (stg G out p k j).length = G.length := by unfold stg; rw [List.length_map, List.length_range]
theorem stg_row {G : Grid} {out : List Nat} {p k j v : Nat} (h : v < G.length) : row (stg G out p k j) v = (List.range (if v < j then k + 2 else k + 1)).map fun t => fw G out p t v := by
  unfold row stg
  rw [List.getD_eq_getElem?_getD, List.getElem?_map, List.getElem?_range h]
  rfl
theorem stg_set {G : Grid} {out : List Nat} {p k j : Nat} (h : j < G.length) : (stg G out p k j).set j (row (stg G out p k j) j ++ [fw G out p (k + 1) j]) = stg G out p k (j + 1) := by
  apply List.ext_getElem?
  intro v
  by_cases hv : v < G.length
  · rw [List.getElem?_set, stg_row h, if_neg (Nat.lt_irrefl j)]
    have rhs : (stg G out p k (j + 1))[v]? = some (row (stg G out p k (j + 1)) v) := at_row (by rw [stg_len]; exact hv)
    rw [rhs, stg_row hv]
    by_cases e : j = v
    · subst e
      rw [if_pos rfl, if_pos (by rw [stg_len]; exact hv), if_pos (Nat.lt_succ_self j), List.range_succ (n := k + 1), List.map_append]
      rfl
    · rw [if_neg e, at_row (by rw [stg_len]; exact hv), stg_row hv]
      by_cases c : v < j
      · rw [if_pos c, if_pos (by omega)]
      · rw [if_neg c, if_neg (by omega)]
  · rw [List.getElem?_eq_none (by rw [List.length_set, stg_len]; omega), List.getElem?_eq_none (by rw [stg_len]; omega)]
theorem stg_next (G : Grid) (out : List Nat) (p k : Nat) : stg G out p k G.length = stg G out p (k + 1) 0 := by
  unfold stg
  apply List.map_congr_left
  intro v hv
  rw [List.mem_range] at hv
  rw [if_pos hv, if_neg (by omega)]
theorem stg_cl {G : Grid} {out : List Nat} {p n : Nat} (h : p < G.length) : row (stg G out p n 0) p = cl G out p n := by
  rw [stg_row h, if_neg (by omega)]
  rfl
def prs (G : Grid) (L : List Nat) (n : Nat) : Grid := (List.range L.length).map fun i => cl G (L.take i) (L.getD i 0) n
theorem prs_len (G : Grid) (L : List Nat) (n : Nat) : (prs G L n).length = L.length := by unfold prs; rw [List.length_map, List.length_range]
theorem prs_row {G : Grid} {L : List Nat} {n i : Nat} (h : i < L.length) : row (prs G L n) i = cl G (L.take i) (L.getD i 0) n := by
  unfold row prs
  rw [List.getD_eq_getElem?_getD, List.getElem?_map, List.getElem?_range h]
  rfl
def fold (n : Nat) (P : Grid) : List Nat := P.foldl (fun f q => conv f q n) (1 :: List.replicate n 0)
theorem fold_len (n : Nat) (P : Grid) : (fold n P).length = n + 1 := by
  unfold fold
  have : ∀ (P : Grid) (f : List Nat), f.length = n + 1 → (P.foldl (fun f q => conv f q n) f).length = n + 1 := fun P => by
    induction P with
    | nil => exact fun f h => h
    | cons q P ih => exact fun f _ => ih _ (conv_len _ _ _)
  exact this P _ (by simp)
theorem fold_snoc {n : Nat} {P : Grid} {i : Nat} {q : List Nat} (h : P[i]? = some q) : fold n (P.take (i + 1)) = conv (fold n (P.take i)) q n := by
  unfold fold
  rw [List.take_add_one, h, List.foldl_append]
  rfl
theorem cl_le {G : Grid} (h : SiteOk G) (out : List Nat) (p n : Nat) : ∀ x ∈ cl G out p n, x ≤ 12 ^ n := fun x hx => by
  unfold cl at hx
  obtain ⟨t, ht, rfl⟩ := List.mem_map.mp hx
  rw [List.mem_range] at ht
  exact Nat.le_trans (fw_le h out p t p) (Nat.pow_le_pow_right (by omega) (by omega))
theorem cl_len (G : Grid) (out : List Nat) (p n : Nat) : (cl G out p n).length = n + 1 := by unfold cl; rw [List.length_map, List.length_range]
theorem cnv_le {a b : List Nat} {k B C : Nat} (ha : ∀ x ∈ a, x ≤ B) (hb : ∀ x ∈ b, x ≤ C) : cnv a b k ≤ (k + 1) * (B * C) := by
  rw [← part_full (a := a) (b := b) (i := k + 1) (k := k) (.inl (by omega))]
  exact part_le ha hb
theorem fold_le {n : Nat} {P : Grid} (hP : ∀ q ∈ P, ∀ x ∈ q, x ≤ 12 ^ n) : ∀ i, ∀ x ∈ fold n (P.take i), x ≤ ((n + 1) * 12 ^ n) ^ i := fun i => by
  induction i with
  | zero =>
    intro x hx
    rw [List.take_zero] at hx
    have : x ∈ 1 :: List.replicate n 0 := hx
    rcases List.mem_cons.mp this with rfl | h
    · simp
    · rw [List.eq_of_mem_replicate h]; exact Nat.zero_le _
  | succ i ih =>
    intro x hx
    by_cases c : i < P.length
    · have e : P[i]? = some P[i] := List.getElem?_eq_getElem c
      rw [fold_snoc e] at hx
      unfold conv at hx
      obtain ⟨k, hk, rfl⟩ := List.mem_map.mp hx
      rw [List.mem_range] at hk
      have a := cnv_le (k := k) ih (hP P[i] (List.getElem_mem c))
      have b : (k + 1) * (((n + 1) * 12 ^ n) ^ i * 12 ^ n) ≤ (n + 1) * (((n + 1) * 12 ^ n) ^ i * 12 ^ n) := Nat.mul_le_mul_right _ (by omega)
      have d : (n + 1) * (((n + 1) * 12 ^ n) ^ i * 12 ^ n) = ((n + 1) * 12 ^ n) ^ (i + 1) := by
        rw [Nat.pow_succ, Nat.mul_left_comm]
      omega
    · rw [List.take_of_length_le (by omega)] at hx
      rw [List.take_of_length_le (by omega)] at ih
      have a := ih x hx
      have b : ((n + 1) * 12 ^ n) ^ i ≤ ((n + 1) * 12 ^ n) ^ (i + 1) := Nat.pow_le_pow_right (Nat.mul_pos (by omega) (Nat.pow_pos (by omega))) (by omega)
      omega
theorem big_fold {n i : Nat} (hn : n ≤ 60) (hi : i ≤ 12) : ((n + 1) * 12 ^ n) ^ i < 2 ^ 4000 := by
  have a : (n + 1) * 12 ^ n ≤ 61 * 12 ^ 60 := Nat.mul_le_mul (by omega) (Nat.pow_le_pow_right (by omega) hn)
  have b : ((n + 1) * 12 ^ n) ^ i ≤ (61 * 12 ^ 60) ^ i := Nat.pow_le_pow_left a i
  have c : (61 * 12 ^ 60) ^ i ≤ (61 * 12 ^ 60) ^ 12 := Nat.pow_le_pow_right (by decide) hi
  have d : (61 * 12 ^ 60) ^ 12 < 2 ^ 4000 := by decide +kernel
  omega
theorem big_cl {n : Nat} (hn : n ≤ 60) : 12 ^ n < 2 ^ 4000 := by
  have a : 12 ^ n ≤ 12 ^ 60 := Nat.pow_le_pow_right (by omega) hn
  have d : 12 ^ 60 < 2 ^ 4000 := by decide +kernel
  omega
/-- a new grid behind a new grid -/
theorem GridN.ext {H H1 H2 : Hp} {s d : Addr} {G F : Grid} (h : GridN H H1 s G) (g : GridN H1 H2 d F) (e : Ex H1 H2) (low : ∀ x, H1 x = none → H x = none) : ∃ xs zs, H2 s = some (.lst xs) ∧ H2 d = some (.lst zs) ∧ xs.length = G.length ∧ zs.length = F.length ∧ GridN H (upd H2 s (.lst (xs ++ zs))) s (G ++ F) := by
  obtain ⟨h0, ps, h1, h2, h4, h5, h3⟩ := h
  obtain ⟨g0, qs, g1, g2, g4, g5, g3⟩ := g
  refine ⟨_, _, e _ _ h1, g1, by rw [List.length_map, h2], by rw [List.length_map, g2], h0, ps ++ qs, by rw [upd_same, List.map_append], by rw [List.length_append, List.length_append, h2, g2], ?_, ?_, fun i p q => ?_⟩
  · rw [List.nodup_append]
    refine ⟨h4, g4, fun a ha b hb z => ?_⟩
    subst z
    obtain ⟨i, hi, ei⟩ := List.getElem_of_mem ha
    obtain ⟨j, hj, ej⟩ := List.getElem_of_mem hb
    have a1 := (h3 i a (List.getElem?_eq_some_iff.mpr ⟨hi, ei⟩)).2
    have a2 := (g3 j a (List.getElem?_eq_some_iff.mpr ⟨hj, ej⟩)).1
    rw [a2] at a1
    cases a1
  · intro m
    rcases List.mem_append.mp m with m | m
    · exact h5 m
    · obtain ⟨j, hj, ej⟩ := List.getElem_of_mem m
      have a2 := (g3 j s (List.getElem?_eq_some_iff.mpr ⟨hj, ej⟩)).1
      rw [a2] at h1
      cases h1
  · by_cases hi : i < ps.length
    · rw [List.getElem?_append_left hi] at q
      have := h3 i p q
      have ns : p ≠ s := fun z => h5 (z ▸ List.mem_of_getElem? q)
      refine ⟨this.1, ?_⟩
      rw [upd_ne ns, e _ _ this.2]
      unfold row
      rw [List.getD_eq_getElem?_getD, List.getD_eq_getElem?_getD, List.getElem?_append_left (by omega)]
    · rw [List.getElem?_append_right (by omega)] at q
      have := g3 _ p q
      have ns : p ≠ s := fun z => by
        have a := this.1
        rw [z, h1] at a
        cases a
      refine ⟨low p this.1, ?_⟩
      rw [upd_ne ns, this.2]
      unfold row
      rw [List.getD_eq_getElem?_getD, List.getD_eq_getElem?_getD, List.getElem?_append_right (by omega), h2]
theorem kept_ones (s : List Nat) (k : Nat → Bool) : kept s.length (fun i => k (s.getD i 0)) (fun _ => V.int 1) = (nz ((s.filter k).map fun _ => 1)).map V.int := by
  unfold kept nz
  have e : (List.range s.length).map (fun i => s.getD i 0) = s := by
    apply List.ext_getElem?
    intro j
    by_cases h : j < s.length
    · rw [List.getElem?_map, List.getElem?_range h, List.getElem?_eq_getElem h]
      show some (s.getD j 0) = _
      rw [List.getD_eq_getElem?_getD, List.getElem?_eq_getElem h]
      rfl
    · rw [List.getElem?_eq_none (by rw [List.length_map, List.length_range]; omega), List.getElem?_eq_none (by omega)]
  conv => rhs; rw [← e]
  rw [List.filter_map, List.map_map, List.map_map, List.map_map]
  rfl
/-- the rows that are kept -/
theorem GridAt.keep {H' : Hp} {D : Addr} {ps : List Addr} {G : Grid} (P : List Nat → Bool) (k : Nat → Bool) (hl : ps.length = G.length) (hr : ∀ i p, ps[i]? = some p → H' p = some (.lst ((nz (row G i)).map V.int))) (hk : ∀ i, i < G.length → k i = P (row G i))
    (hD : H' D = some (.lst (kept G.length k fun i => .ref (ps.getD i 0)))) : GridAt H' D (G.filter P) := by
  have eG : G = (List.range G.length).map (row G) := by
    apply List.ext_getElem?
    intro j
    by_cases h : j < G.length
    · rw [List.getElem?_map, List.getElem?_range h, at_row h]
      rfl
    · rw [List.getElem?_eq_none (by omega), List.getElem?_eq_none (by rw [List.length_map, List.length_range]; omega)]
  have eF : G.filter P = ((List.range G.length).filter k).map (row G) := by
    conv => lhs; rw [eG]
    rw [List.filter_map]
    congr 1
    apply List.filter_congr
    intro i hi
    rw [List.mem_range] at hi
    exact (hk i hi).symm
  refine ⟨((List.range G.length).filter k).map fun i => ps.getD i 0, ?_, ?_, fun i p e => ?_⟩
  · rw [hD]
    unfold kept
    rw [List.map_map]
    rfl
  · rw [eF, List.length_map, List.length_map]
  · rw [List.getElem?_map] at e
    cases q : ((List.range G.length).filter k)[i]? with
    | none => rw [q] at e; cases e
    | some j =>
      rw [q] at e
      have hj : j < G.length := List.mem_range.mp (List.mem_filter.mp (List.mem_of_getElem? q)).1
      have hx : ps[j]? = some ps[j] := List.getElem?_eq_getElem (by omega)
      have ep : ps.getD j 0 = p := Option.some.inj e
      rw [List.getD_eq_getElem?_getD, hx] at ep
      obtain rfl : ps[j] = p := ep
      rw [hr j _ hx]
      have : row (G.filter P) i = row G j := by
        rw [eF]
        unfold row
        rw [List.getD_eq_getElem?_getD, List.getElem?_map, q]
        rfl
      rw [this]
end
end BC

set_option Elab.async false
set_option linter.all false
set_option maxRecDepth 100000
set_option maxHeartbeats 4000000
/-! dicts: readings, loops over keys, keys that are texts of lists of digits -/
namespace BC
open PySem PySem.Spec PyProof.Rows L2 Evl
section
variable {K : PySem.W.Frag} {σ : L2.St} {H : Hp} {Q : VK} {QT : Bool → Hp → Prop} {td ty tv tx : TE} {D : Ends} {g : TG} {tb : TS} {c : TE}
theorem x_dnewK : tDNewK σ H Q = ∀ p, H p = none → Q (.ref p) (upd H p (.dK [])) := rfl
theorem x_dnewT : tDNewT σ H Q = ∀ p, H p = none → Q (.ref p) (upd H p (.dT [])) := rfl
theorem x_dget : tDGet td ty σ H Q = td σ H (fun x H1 => ty σ H1 fun y H2 => ∃ a v, x = .ref a ∧ DGet H2 a y (some v) ∧ Q v H2) := rfl
theorem x_dget1 : tDGet1 td ty σ H Q = td σ H (fun x H1 => ∃ a, x = .ref a ∧ IsD H1 a ∧ ty σ H1 fun y H2 => ∃ o, DGet H2 a y o ∧ Q (o.getD .non) H2) := rfl
theorem x_dget2 : tDGet2 td ty tx σ H Q = td σ H (fun x H1 => ∃ a, x = .ref a ∧ IsD H1 a ∧ ty σ H1 fun y H2 => tx σ H2 fun z H3 => ∃ o, DGet H3 a y o ∧ Q (o.getD z) H3) := rfl
theorem x_din : tDIn ty td σ H Q = ty σ H (fun y H1 => td σ H1 fun x H2 => ∃ a o, x = .ref a ∧ DGet H2 a y o ∧ Q (.bl o.isSome) H2) := rfl
theorem x_dnotin : tDNotIn ty td σ H Q = ty σ H (fun y H1 => td σ H1 fun x H2 => ∃ a o, x = .ref a ∧ DGet H2 a y o ∧ Q (.bl (!o.isSome)) H2) := rfl
theorem x_dput : sDPut td ty tv D σ H = tv σ H (fun v H1 => td σ H1 fun x H2 => ty σ H2 fun y H3 => ∃ a H4, x = .ref a ∧ DPut H3 a y v H4 ∧ D.nx σ H4) := rfl
theorem x_ikeys {R : It → Hp → Prop} : iKeys td σ H R = td σ H (fun x H1 => ∃ d o, x = .ref d ∧ ((∃ kvs, H1 d = some (.frz o (.dK kvs)) ∧ R (Itk d o kvs) H1) ∨ ∃ kvs, H1 d = some (.frz o (.dT kvs)) ∧ R (Itkt d o kvs) H1)) := rfl
/-- the keys of a locked dict -/
theorem lg_keys {d : Addr} {o : Obj} {kvs : List (Key × V)} (Pv : Nat → L2.St → Hp → Prop) (h0 : Pv 0 σ H) (hl : ∀ i σ H, i ≤ kvs.length → Pv i σ H → H d = some (.frz o (.dK kvs)))
    (hs : ∀ i k v σ H, kvs[i]? = some (k, v) → Pv i σ H → g (kV k) σ H fun σ2 H2 => tb { D with nx := Pv (i + 1), ct := Pv (i + 1), bk := D.nx } σ2 H2) (hd : ∀ σ H, Pv kvs.length σ H → D.nx σ H) : LoopG (Itk d o kvs) g tb D σ H := by
  refine ⟨fun i m σ H => m = kvs.length - i ∧ i ≤ kvs.length ∧ Pv i σ H, ⟨kvs.length, by simp, Nat.zero_le _, h0⟩, ?_⟩
  rintro i m σ H ⟨rfl, hi, p⟩
  have q := hl i σ H hi p
  by_cases hlt : i < kvs.length
  · refine .inr ⟨⟨q, hlt⟩, Pv (i + 1), fun σ' H' p' => ⟨kvs.length - (i + 1), by omega, rfl, hlt, p'⟩, fun x H' y => ?_⟩
    obtain ⟨rfl, k, v, e, rfl⟩ := y
    exact hs i k v σ _ e p
  · have e : i = kvs.length := by omega
    subst e
    exact .inl ⟨⟨q, Nat.le_refl _⟩, hd σ H p⟩
end
theorem frz_ex {H H' : Hp} {d : Addr} {u x : HO} (h : H d = some u) (e : Ex (upd H d x) H') : Ex H (upd H' d u) := fun a o ho => by
  by_cases q : a = d
  · subst q
    rw [upd_same]
    rw [h] at ho
    exact ho
  · rw [upd_ne q]
    exact e a o (by rw [upd_ne q]; exact ho)
theorem ex_frz {H H' : Hp} {d a : Addr} {o : HO} {x : HO} (q : a ≠ d) (ho : H a = some o) (e : Ex (upd H d x) H') : H' a = some o := e a o (by rw [upd_ne q]; exact ho)
/-! ### lists of digits, shown -/
def Dg (t : List Int) : Prop := ∀ n ∈ t, 0 ≤ n ∧ n < 10
def digL (cs : List Nat) : List Int := (cs.filter fun c => decide (48 ≤ c) && decide (c < 58)).map fun c : Nat => (c : Int) - 48
theorem digL_append (a b : List Nat) : digL (a ++ b) = digL a ++ digL b := by
  unfold digL
  rw [List.filter_append, List.map_append]
theorem digL_one : ∀ k : Fin 10, digL (Str.ofString (toString ((k.val : Nat) : Int))).cps.toList = [((k.val : Nat) : Int)] := by decide +kernel
theorem digL_int {n : Int} (h0 : 0 ≤ n) (h1 : n < 10) : digL (Str.ofString (toString n)).cps.toList = [n] := by
  have h := digL_one ⟨n.toNat, by omega⟩
  rw [show ((n.toNat : Nat) : Int) = n by omega] at h
  exact h
theorem digL_join : ∀ ns : List Int, Dg ns → digL (Str.join ", " (ns.map fun n => ((toString n : String) : Str))).cps.toList = ns
  | [], _ => by decide +kernel
  | [n], h => by
    obtain ⟨h0, h1⟩ := h n List.mem_cons_self
    exact digL_int h0 h1
  | n :: m :: ns, h => by
    obtain ⟨h0, h1⟩ := h n List.mem_cons_self
    have ih := digL_join (m :: ns) fun x hx => h x (List.mem_cons_of_mem _ hx)
    show digL ((((toString n : String) : Str) ++ ", " ++ Str.join ", " ((m :: ns).map fun n => ((toString n : String) : Str))).cps.toList) = _
    rw [cps_toList_append, cps_toList_append, digL_append, digL_append, ih, digL_int h0 h1, signs_sep]
    rfl
theorem digL_shown {ns : List Int} (h : Dg ns) : digL (shInts ns).cps.toList = ns := by
  unfold shInts
  rw [PyData.shown_list, PyData.shownAll_ints, cps_toList_append, cps_toList_append, digL_append, digL_append, digL_join ns h, signs_lbrack, signs_rbrack]
  show [] ++ ns ++ [] = ns
  simp
theorem shInts_inj {a b : List Int} (ha : Dg a) (hb : Dg b) (e : shInts a = shInts b) : a = b := by
  rw [← digL_shown ha, ← digL_shown hb, e]
/-! ### dicts by such texts -/
section
variable {α : Type} {f : α → V}
def kx (t : List Int) : Key := Sum.inr (shInts t)
theorem kx_inj {a b : List Int} (ha : Dg a) (hb : Dg b) : kx a = kx b ↔ a = b := ⟨fun e => shInts_inj ha hb (Sum.inr.inj e), fun e => by rw [e]⟩
def ren (f : α → V) (L : List (List Int × α)) : List (Key × V) := L.map fun p => (kx p.1, f p.2)
def getA (L : List (List Int × α)) (t : List Int) : Option α := (L.find? fun p => decide (p.1 = t)).map (·.2)
def putA (L : List (List Int × α)) (t : List Int) (a : α) : List (List Int × α) := if (L.any fun p => decide (p.1 = t)) = true then L.map (fun p => if p.1 = t then (p.1, a) else p) else L ++ [(t, a)]
theorem ren_val (t : List Int) (ht : Dg t) : ∀ L : List (List Int × α), (∀ p ∈ L, Dg p.1) → valV (ren f L) (kx t) = (getA L t).map f
  | [], _ => rfl
  | p :: L, h => by
    have ih := ren_val t ht L fun q hq => h q (List.mem_cons_of_mem _ hq)
    have hp := h p List.mem_cons_self
    show valV ((kx p.1, f p.2) :: ren f L) (kx t) = _
    by_cases e : p.1 = t
    · rw [valV_pos (by show kx p.1 = kx t; rw [e])]
      simp [getA, e]
    · rw [valV_neg (by show ¬ kx p.1 = kx t; rw [kx_inj hp ht]; exact e), ih]
      simp [getA, e]
theorem ren_any (t : List Int) (ht : Dg t) : ∀ L : List (List Int × α), (∀ p ∈ L, Dg p.1) → ((ren f L).any fun kv => decide (kv.1 = kx t)) = L.any fun p => decide (p.1 = t)
  | [], _ => rfl
  | p :: L, h => by
    have ih := ren_any t ht L fun q hq => h q (List.mem_cons_of_mem _ hq)
    have hp := h p List.mem_cons_self
    show (decide (kx p.1 = kx t) || (ren f L).any fun kv => decide (kv.1 = kx t)) = _
    rw [ih, List.any_cons]
    congr 1
    exact decide_eq_decide.mpr (kx_inj hp ht)
theorem ren_put (t : List Int) (ht : Dg t) (a : α) (L : List (List Int × α)) (h : ∀ p ∈ L, Dg p.1) : putK (ren f L) (kx t) (f a) = ren f (putA L t a) := by
  unfold putK putA
  rw [ren_any t ht L h]
  by_cases c : (L.any fun p => decide (p.1 = t)) = true
  · rw [if_pos c, if_pos c]
    unfold ren
    rw [List.map_map, List.map_map]
    refine List.map_congr_left fun p hp => ?_
    show (if kx p.1 = kx t then (kx p.1, f a) else (kx p.1, f p.2)) = _
    by_cases e : p.1 = t
    · rw [if_pos (by rw [e])]
      show _ = (kx (if p.1 = t then (p.1, a) else p).1, f (if p.1 = t then (p.1, a) else p).2)
      rw [if_pos e]
    · rw [if_neg (by rw [kx_inj (h p hp) ht]; exact e)]
      show _ = (kx (if p.1 = t then (p.1, a) else p).1, f (if p.1 = t then (p.1, a) else p).2)
      rw [if_neg e]
  · rw [if_neg c, if_neg c]
    unfold ren
    rw [List.map_append]
    rfl
theorem putA_key {L : List (List Int × α)} {t : List Int} {a : α} {p : List Int × α} (h : p ∈ putA L t a) : p.1 = t ∨ ∃ q ∈ L, q.1 = p.1 := by
  unfold putA at h
  split at h
  · obtain ⟨q, hq, rfl⟩ := List.mem_map.mp h
    refine .inr ⟨q, hq, ?_⟩
    split <;> rfl
  · rcases List.mem_append.mp h with h | h
    · exact .inr ⟨p, h, rfl⟩
    · rw [List.mem_singleton.mp h]
      exact .inl rfl
theorem putA_len (L : List (List Int × α)) (t : List Int) (a : α) : (putA L t a).length ≤ L.length + 1 := by
  unfold putA
  split
  · rw [List.length_map]; omega
  · rw [List.length_append, List.length_singleton]; omega
theorem ren_len (L : List (List Int × α)) : (ren f L).length = L.length := by unfold ren; rw [List.length_map]
theorem ren_at {L : List (List Int × α)} {i : Nat} {k : Key} {v : V} (h : (ren f L)[i]? = some (k, v)) : ∃ t a, L[i]? = some (t, a) ∧ k = kx t ∧ v = f a := by
  unfold ren at h
  rw [List.getElem?_map] at h
  cases e : L[i]? with
  | none => rw [e] at h; cases h
  | some p => rw [e] at h; cases h; exact ⟨p.1, p.2, rfl, rfl, rfl⟩
end
end BC
namespace BC
open PySem PySem.Spec PyProof.Rows L2 Evl
section
variable {α : Type} {f : α → V}
theorem putA_nodup {L : List (List Int × α)} {t : List Int} {a : α} (h : (L.map (·.1)).Nodup) : ((putA L t a).map (·.1)).Nodup := by
  unfold putA
  split
  · rw [List.map_map]
    have e : ((fun p : List Int × α => p.1) ∘ fun p : List Int × α => if p.1 = t then (p.1, a) else p) = fun p => p.1 := funext fun p => by
      show (if p.1 = t then (p.1, a) else p).1 = p.1
      split <;> rfl
    rw [e]
    exact h
  · next c =>
    rw [List.map_append, List.nodup_append]
    refine ⟨h, by simp, fun x hx y hy e => ?_⟩
    obtain ⟨p, hp, rfl⟩ := List.mem_map.mp hx
    have hy' : y = t := by simpa using hy
    refine c (List.any_eq_true.mpr ⟨p, hp, decide_eq_true ?_⟩)
    rw [e, hy']
theorem getA_at : ∀ {L : List (List Int × α)} {i : Nat} {t : List Int} {a : α}, (L.map (·.1)).Nodup → L[i]? = some (t, a) → getA L t = some a
  | [], _, _, _, _, h => by simp at h
  | p :: L, 0, t, a, _, h => by
    have : p = (t, a) := by simpa using h
    subst this
    simp [getA]
  | p :: L, i + 1, t, a, nd, h => by
    rw [List.map_cons, List.nodup_cons] at nd
    have h' : L[i]? = some (t, a) := by simpa using h
    have ih := getA_at nd.2 h'
    have ne : p.1 ≠ t := fun e => nd.1 (List.mem_map.mpr ⟨(t, a), List.mem_of_getElem? h', e.symm⟩)
    unfold getA at ih ⊢
    rw [List.find?_cons, decide_eq_false ne]
    exact ih
end
/-- what stands at a text's key, counted -/
theorem ren_get {L : List (List Int × Int)} {t : List Int} (ht : Dg t) (h : ∀ p ∈ L, Dg p.1) : (valV (ren V.int L) (kx t)).getD (.int 0) = .int ((getA L t).getD 0) := by
  rw [ren_val t ht L h]
  cases getA L t <;> rfl
theorem ints_at {ns : List Int} {i : Nat} {v : V} (h : (ns.map V.int)[i]? = some v) : ∃ n, ns[i]? = some n ∧ v = .int n := by
  rw [List.getElem?_map] at h
  cases e : ns[i]? with
  | none => rw [e] at h; cases h
  | some n => rw [e] at h; cases h; exact ⟨n, rfl, rfl⟩
theorem refs_at {ps : List Addr} {i : Nat} {v : V} (h : (ps.map V.ref)[i]? = some v) : ∃ q, ps[i]? = some q ∧ v = .ref q := by
  rw [List.getElem?_map] at h
  cases e : ps[i]? with
  | none => rw [e] at h; cases h
  | some n => rw [e] at h; cases h; exact ⟨n, rfl, rfl⟩
theorem tyS {K : PySem.W.Frag} {H : Hp} {x : Str} : tyV K "str" (.str x) H := rfl
end BC

set_option Elab.async false
set_option linter.all false
set_option maxRecDepth 100000
set_option maxHeartbeats 4000000
/-! texts: str * int, fields of a width, f-strings of many parts -/
namespace BC
open PySem PySem.Spec PyProof.Rows L2 Evl
/-! ### a text so many times -/
def rMulS : V → V → Hp → VK → Prop := fun x y H Q => ∃ (a : Str) (n : Int), x = .str a ∧ y = .int n ∧ MulOk a n ∧ Q (.str (Txt.mul a n)) H
theorem op_mulS {X : Cx} : OpR X (binaryOp .Mult) rMulS := by
  intro pins s σ H x y v u Q I rx ry h
  obtain ⟨a, n, rfl, rfl, hz, q⟩ := h
  obtain ⟨t, rfl⟩ := rx
  obtain ⟨t', rfl⟩ := ry
  exact SB.mul hz fun t' tk => ⟨.str _, H, I.tok _, ⟨_, rfl⟩, q⟩
theorem x_mulS {a : Str} {n : Int} {H : Hp} {Q : VK} : rMulS (.str a) (.int n) H Q ↔ MulOk a n ∧ Q (.str (Txt.mul a n)) H := ⟨fun ⟨i, j, e1, e2, q⟩ => by cases e1; cases e2; exact q, fun q => ⟨a, n, rfl, rfl, q⟩⟩
theorem mul_sp {n : Int} (h0 : -1000 ≤ n) (h1 : n ≤ 1000) : MulOk ((" " : String) : Str) n := by
  refine ⟨?_, fun h2 _ => ?_, fun h2 _ => ?_⟩
  · rw [decide_eq_false (by omega), decide_eq_false (by omega)]
    rfl
  · have e : (((" " : String) : Str).length : Int) = 1 := by decide
    rw [e]
    have : n ≤ (2 ^ 63 - 1) / 1000 := by omega
    have h3 : (1 : Int) ≤ (2 ^ 63 - 1) / n := (Int.le_ediv_iff_mul_le (by omega)).mpr (by omega)
    omega
  · have e : ((" " : String) : Str).length = 1 := by decide
    rw [e, Nat.one_mul]
    show decide (_ > sizeLine) = false
    exact decide_eq_false (by unfold sizeLine; omega)
/-! ### a field of a width -/
theorem cs_none {K : PySem.W.Frag} {h : Heap} {mc : Str → Option Value} {n : Str} (X : K.In h) (G : h.Ns cStatics mc) (e : PySem.W.nsIn K cStatics n = some none) : mc n = none := by
  obtain ⟨o, es, ep, ho, hd, _, hf⟩ := G
  unfold PySem.W.nsIn at e
  split at e
  · next c d es' n' sl q =>
    have z := X _ _ q
    rw [ho] at z
    cases z
    cases hd
    split at e
    · cases e
    · next he =>
      rw [← hf]
      unfold nsFind findBy
      rw [← Array.find?_toList, he]
      rfl
  · cases e
theorem no_digits {K : PySem.W.Frag} {h : Heap} (X : K.In h) (nl : h.NoLimit) (e : PySem.W.nsIn K cStatics "sys.int_max_str_digits" = some none) : h.NoDigits := by
  obtain ⟨mc, g, _⟩ := nl
  exact ⟨mc, g, cs_none X g e⟩
def tFmtS (sp : Str) (te : TE) : TE := fun σ H Q => te σ H fun x H1 => ∃ i : Int, x = .int i ∧ 0 ≤ i ∧ i < 10 ^ 10 ∧ Q (.str (intSpecTextOf sp i)) H1
theorem x_fmtS {sp : Str} {te : TE} {σ : L2.St} {H : Hp} {Q : VK} : tFmtS sp te σ H Q = te σ H (fun x H1 => ∃ i : Int, x = .int i ∧ 0 ≤ i ∧ i < 10 ^ 10 ∧ Q (.str (intSpecTextOf sp i)) H1) := rfl
theorem k_fmtS {X : Cx} {K : PySem.W.Frag} {e es : Expr} {te : TE} {sp : Str} {pos : Pos} (hK : X.K = K) (hq : PySem.W.nsIn K cStatics "sys.int_max_str_digits" = some none) (he : PE X e te) (hs : PE X es (tC (.str sp))) (hok : intSpecOk sp = true) (hsz : sp.length ≤ sizeLine) : PE X (.FormattedValue e (-1) (some es) pos) (tFmtS sp te) := by
  subst hK
  refine ⟨fun pins s σ H Q I h => ?_⟩
  refine wpAny_FormattedValue_spec (thn (he.run pins s σ H _ I h) fun v s1 hv => ?_)
  obtain ⟨x, H1, I1, r1, i, rfl, h0, h1, q⟩ := hv
  obtain ⟨t, rfl⟩ := r1
  refine thn (hs.run pins s1 σ H1 (fun y H2 => y = .str sp ∧ H2 = H1) I1 ⟨rfl, rfl⟩) fun u s2 hu => ?_
  obtain ⟨y, H2, I2, r2, rfl, rfl⟩ := hu
  obtain ⟨t2, rfl⟩ := r2
  exact ⟨sp, t2, rfl, formatField_int_specOf (no_digits I2.kIn I2.nolimit hq) (lt_digitLimit_of_lt (by omega)) hok (fun W _ _ => ⟨.str _, H2, I2.tok _, ⟨_, rfl⟩, q⟩) hsz⟩
theorem fmt3 : ∀ i : Fin 300, intSpecTextOf ((">3" : String) : Str) ((i.val : Nat) : Int) = Txt.mul ((" " : String) : Str) (3 - ((((toString ((i.val : Nat) : Int) : String) : Str).length : Nat) : Int)) ++ ((toString ((i.val : Nat) : Int) : String) : Str) := by decide +kernel
theorem fmt4 : ∀ i : Fin 40, intSpecTextOf ((">4" : String) : Str) ((i.val : Nat) : Int) = Txt.mul ((" " : String) : Str) (4 - ((((toString ((i.val : Nat) : Int) : String) : Str).length : Nat) : Int)) ++ ((toString ((i.val : Nat) : Int) : String) : Str) := by decide +kernel
theorem len3 : ∀ i : Fin 1000, 1 ≤ ((toString ((i.val : Nat) : Int) : String) : Str).length ∧ ((toString ((i.val : Nat) : Int) : String) : Str).length ≤ 3 := by decide +kernel
/-! ### f-strings -/
theorem x_js0 {acc : Str} {σ : L2.St} {H : Hp} {Q : Str → Hp → Prop} : tJs [] acc σ H Q = Q acc H := rfl
theorem x_js {t : TE} {ts : List TE} {acc : Str} {σ : L2.St} {H : Hp} {Q : Str → Hp → Prop} : tJs (t :: ts) acc σ H Q = t σ H (fun x H1 => ∃ y : Str, x = .str y ∧ (acc ++ y).length ≤ sizeLine ∧ tJs ts (acc ++ y) σ H1 Q) := rfl
def tJn (ts : List TE) : TE := fun σ H Q => tJs ts Str.empty σ H fun out H1 => Q (.str out) H1
theorem x_jn {ts : List TE} {σ : L2.St} {H : Hp} {Q : VK} : tJn ts σ H Q = tJs ts Str.empty σ H (fun out H1 => Q (.str out) H1) := rfl
theorem k_joined {X : Cx} {v1 v2 : Expr} {rest : List Expr} {ts : List TE} {pos : Pos} (h : PJ X (v1 :: v2 :: rest) ts) : PE X (.JoinedStr (v1 :: v2 :: rest) pos) (tJn ts) := pe_joined h
theorem x_fmt {te : TE} {σ : L2.St} {H : Hp} {Q : VK} : tFmt te σ H Q = te σ H (fun x H1 => (∃ y : Str, x = .str y ∧ y.length ≤ sizeLine ∧ Q (.str y) H1) ∨ ∃ i : Int, x = .int i ∧ i.natAbs.log2 < 1920 ∧ Q (.str (toString i)) H1) := rfl
/-! ### join -/
def rJoin (K : PySem.W.Frag) : V → List V → Hp → VK → Prop := fun x xs H Q => ∃ a p, ∃ ys : List Str, x = .str a ∧ xs = [.ref p] ∧ (SqL K H p (ys.map V.str) ∨ SqT K H p (ys.map V.str)) ∧ (ys.map (·.length)).sum + ys.length * a.length ≤ 16777216 ∧ Q (.str (Txt.join a ys)) H
theorem k_join {X : Cx} {K : PySem.W.Frag} (hK : X.K = K) : MtR X "str.join" (rJoin K) := by subst hK; exact mt_join
theorem joinL {K : PySem.W.Frag} {H : Hp} {Q : VK} {a : Str} {p : Addr} {ys : List Str} (h : SqL K H p (ys.map V.str)) (hz : (ys.map (·.length)).sum + ys.length * a.length ≤ 16777216) (q : Q (.str (Txt.join a ys)) H) : rJoin K (.str a) [.ref p] H Q := ⟨a, p, ys, rfl, rfl, .inl h, hz, q⟩
def toStrs (t : List Int) : List Str := t.map fun n => ((toString n : String) : Str)
theorem len3' {n : Int} (h0 : 0 ≤ n) (h1 : n < 1000) : 1 ≤ ((toString n : String) : Str).length ∧ ((toString n : String) : Str).length ≤ 3 := by
  have h := len3 ⟨n.toNat, by omega⟩
  rw [show ((n.toNat : Nat) : Int) = n by omega] at h
  exact h
theorem strs_sum : ∀ {t : List Int}, (∀ x ∈ t, 0 ≤ x ∧ x < 1000) → ((toStrs t).map (·.length)).sum ≤ 3 * t.length
  | [], _ => Nat.le_refl _
  | x :: t, h => by
    have a := strs_sum (t := t) fun y hy => h y (List.mem_cons_of_mem _ hy)
    have b := (len3' (h x List.mem_cons_self).1 (h x List.mem_cons_self).2).2
    show ((toString x : String) : Str).length + ((toStrs t).map (·.length)).sum ≤ _
    rw [List.length_cons]
    omega
/-- a line of the list -/
def lineOf (i : Nat) (p : Int) (t : List Int) : Str := Txt.mul ((" " : String) : Str) (3 - ((((toString ((i : Nat) : Int) : String) : Str).length : Nat) : Int)) ++ ((toString ((i : Nat) : Int) : String) : Str) ++ Txt.mul ((" " : String) : Str) (4 - ((((toString p : String) : Str).length : Nat) : Int)) ++ ((toString p : String) : Str) ++ (("  " : String) : Str) ++ Txt.join ((" > " : String) : Str) (toStrs t)
theorem line_prog {i : Nat} {p : Int} {t : List Int} (hi : i < 300) (h0 : 0 ≤ p) (h1 : p < 40) : Str.empty ++ intSpecTextOf ((">3" : String) : Str) ((i : Nat) : Int) ++ intSpecTextOf ((">4" : String) : Str) p ++ (("  " : String) : Str) ++ Txt.join ((" > " : String) : Str) (toStrs t) = lineOf i p t := by
  have a := fmt3 ⟨i, hi⟩
  have b := fmt4 ⟨p.toNat, by omega⟩
  rw [show ((p.toNat : Nat) : Int) = p by omega] at b
  have a : intSpecTextOf ((">3" : String) : Str) ((i : Nat) : Int) = _ := a
  rw [a, b]
  unfold lineOf
  refine Str.ext' ?_
  have e : Str.empty.cps = #[] := rfl
  apply Array.toList_inj.mp
  simp only [cps_toList_append, e, List.append_assoc]
  rfl
theorem fl3 : ∀ i : Fin 300, (intSpecTextOf ((">3" : String) : Str) ((i.val : Nat) : Int)).length ≤ 3 := by decide +kernel
theorem fl4 : ∀ i : Fin 40, (intSpecTextOf ((">4" : String) : Str) ((i.val : Nat) : Int)).length ≤ 4 := by decide +kernel
theorem join_len {t : List Int} (h : ∀ x ∈ t, 0 ≤ x ∧ x < 1000) : (Txt.join ((" > " : String) : Str) (toStrs t)).length ≤ 6 * t.length := by
  have a := strs_sum h
  have e : ((" > " : String) : Str).length = 3 := by decide
  have b := StrLaws.join_length_le ((" > " : String) : Str) (toStrs t)
  rw [e] at b
  have l : (toStrs t).length = t.length := List.length_map _
  rw [l] at b
  have g : Txt.join ((" > " : String) : Str) (toStrs t) = Str.join ((" > " : String) : Str) (toStrs t) := StrLaws.glued_eq_join _ _
  rw [g]
  omega
end BC

set_option Elab.async false
set_option linter.all false
set_option maxRecDepth 100000
set_option maxHeartbeats 4000000
/-! a caught exception as a tracked object: in its suite, behind it, and handed to defs -/
namespace BC
open PySem PySem.Spec PyProof.Rows L2
/-- an exception's object: its class, its dict -/
def ExT (cls : Value) (d : Option Addr) (a : Addr) : HO := .ext fun h => ∃ (ob : Obj) (fs : Array Value), h.get? a = some ob ∧ Zc cls d ob ∧ ob.data = .fields fs
theorem exT_ok {P : Program} {w : World} {H : Hp} {h : Heap} {a : Addr} {cls : Value} {d : Option Addr} {ob : Obj} {fs : Array Value} (e : h.get? a = some ob) (z : Zc cls d ob) (f : ob.data = .fields fs) : ObjOk P w H h a (ExT cls d a) := by
  refine ⟨⟨ob, fs, e, z, f⟩, ⟨ob, e⟩, ?_⟩
  rintro h1 h2 ⟨o2, f2, e2, z2, q2⟩ k
  exact ⟨o2, f2, k _ e2, z2, q2⟩
/-- at a stands an exception of this class, without a dict -/
def IsEx (H : Hp) (a : Addr) (cls : Value) : Prop := ∃ φ : Heap → Prop, H a = some (.ext φ) ∧ ∀ h, φ h → ∃ (ob : Obj) (fs : Array Value), h.get? a = some ob ∧ Zc cls none ob ∧ ob.data = .fields fs
theorem isEx_T {H : Hp} {a : Addr} {cls : Value} (h : H a = some (ExT cls none a)) : IsEx H a cls := ⟨_, h, fun _ q => q⟩
theorem isEx_O {H : Hp} {a : Addr} {cls : Value} (h : H a = some (ExO cls a)) : IsEx H a cls := ⟨_, h, fun _ q => by
  obtain ⟨ob, fs, e, z, d, _⟩ := q
  exact ⟨ob, fs, e, z, d⟩⟩
theorem IsEx.at {H H' : Hp} {a : Addr} {cls : Value} (x : IsEx H a cls) (h : ∀ o, H a = some o → H' a = some o) : IsEx H' a cls := by
  obtain ⟨φ, e, q⟩ := x
  exact ⟨φ, h _ e, q⟩
section
variable {X : Cx} {pins : List (Addr × Obj)} {σ : L2.St} {H : Hp} {s : Shared}
/-- an object that stands untracked, younger than the frame, is tracked -/
theorem inv_track {a : Addr} {φ : Heap → Prop} (I : Inv X pins σ H s) (n0 : X.s_0.heap.get? a = none) (na : H a = none) (nL : a ≠ X.env.locals) (nC : ∀ x c, X.env.cells.lookup x = some c → c ≠ a) (nP : ∀ p ∈ X.pn ++ pins, p.1 ≠ a)
    (new : ObjOk X.prog X.w (upd H a (.ext φ)) s.heap a (.ext φ)) : Inv X pins σ (upd H a (.ext φ)) s := by
  have old : ∀ b o, X.s_0.heap.get? b = some o → b ≠ a := by
    rintro b o e rfl
    rw [n0] at e
    cases e
  have trk : ∀ {b : Addr} {o : HO}, H b = some o → b ≠ a := by
    rintro b o e rfl
    rw [na] at e
    cases e
  have frame : upd H a (.ext φ) X.env.locals = none := by rw [upd_ne (Ne.symm nL)]; exact I.free
  have un : Un X.fs X.ex X.H_0 (upd H a (.ext φ)) X.s_0.heap s.heap :=
    { keep := I.base.keep
      slot := I.base.slot
      free := fun b o e n x => by rw [upd_ne (old b o e)]; exact I.base.free b o e n x
      there := I.base.there
      tups := fun b xs e => by have q := I.base.tups b xs e; rw [upd_ne (trk q)]; exact q
      frzs := fun b o xs e => by have q := I.base.frzs b o xs e; rw [upd_ne (trk q)]; exact q
      tbls := fun b ps e => by obtain ⟨m, q⟩ := I.base.tbls b ps e; exact ⟨m, by rw [upd_ne (trk q)]; exact q⟩ }
  have held : HOk X.prog X.w (upd H a (.ext φ)) s.heap := by
    intro b u e
    by_cases q : b = a
    · subst q
      rw [upd_same] at e
      cases e
      exact new
    · rw [upd_ne q] at e
      exact (I.hok b u e).stay (fun _ _ _ z => z) (fun c z => by rw [upd_ne (trk z)]; exact z) fun c xs z => by rw [upd_ne (trk z)]; exact z
  exact { ok := I.ok, os := I.os, bare := I.bare, base := un, loc := I.loc, cell := I.cell, free := frame, hok := held, len := I.len
          freeC := fun x c e => by rw [upd_ne (nC x c e)]; exact I.freeC x c e
          pin := fun p hp => by obtain ⟨h1, h2, h3⟩ := I.pin p hp; exact ⟨h1, by rw [upd_ne (nP p hp)]; exact h2, h3⟩ }
/-- into the suite, the exception tracked -/
theorem inv_intoT (I : Inv X pins σ H s) (a : Addr) : Inv (X.suite a (X.pn ++ pins)) [] σ H s :=
  ⟨I.ok.suite a (X.pn ++ pins), I.os, I.bare, I.base, I.loc, I.cell, I.free, I.freeC, fun p hp => I.pin p (by rwa [List.append_nil] at hp), I.hok, I.len⟩
theorem inv_outT {a : Addr} {pn' : List (Addr × Obj)} (I : Inv (X.suite a (X.pn ++ pins)) pn' σ H s) (ok : X.Ok) : Inv X pins σ H s :=
  ⟨ok, I.os, I.bare, I.base, I.loc, I.cell, I.free, I.freeC, fun p hp => I.pin p (List.mem_append_left _ hp), I.hok, I.len⟩
end
/-- the wish of 'except x as n' where the exception is tracked from then on -/
def wTrk (K : PySem.W.Frag) (c : Value) (i : Nat) (ts : Addr → Value → Option Addr → TS) (Wout : WX) (D : Ends) : WX := fun cls d σ H =>
  ∃ b, PySem.W.exmOne K cls c = some b ∧ (b = true → ∀ a, H a = none → ts a cls d { nx := fun σ' H' => D.nx (σ'.set i none) H', rt := D.rt, bk := fun σ' H' => D.bk (σ'.set i none) H', ct := fun σ' H' => D.ct (σ'.set i none) H' } (σ.set i (some (.ref a))) (upd H a (ExT cls d a))) ∧
    (b = false → Wout cls d σ H)
section
variable {X : Cx} {x n : Str} {c : Value} {i : Nat} {body suite : List Stmt} {b0 : Stmt} {np pos hpos : Pos} {tb : WX → TS} {ts : Addr → Value → Option Addr → TS} {Wout : WX}
theorem ps_try_trk (hs : X.stack = X.env :: X.outer) (hf : X.env.frame = some X.env.locals) (hx : X.ex = []) (hN : X.N.Nodup) (hi : X.N[i]? = some n) (hln : X.env.kindOf n = some .local) (hc : Names X x c) (tk : Takes X Wout)
    (hb : ∀ (W : WX) (pn : List (Addr × Obj)) (xe : Value → Shared → Prop), Takes (X.tr pn xe) W → PassesOwn (model X.prog X.w) X.A X.env xe → PSs (X.tr pn xe) body (tb W))
    (hsu : ∀ (a : Addr) (cls : Value) (d : Option Addr) (pn : List (Addr × Obj)), PSs (X.suite a pn) (b0 :: suite) (ts a cls d)) :
    PS X (.Try body [.ExceptHandler (some (.Name x np)) (some n) (b0 :: suite) hpos] [] [] pos) (fun D σ H => tb (wTrk X.K c i ts Wout D) D σ H) := by
  constructor
  intro pins s σ H D I h
  have ok := I.ok
  have frames : X.A.frames = some (X.env :: X.outer) := hs ▸ ok.frames
  let W0 := wTrk X.K c i ts Wout D
  let after := fun (e : Value) (s1 : Shared) => wpAny (model X.prog X.w) X.A (noteFrame e X.env) (fun _ s2 => wpAny (model X.prog X.w) X.A (setFlight e none) (fun _ s3 =>
    wpAny (model X.prog X.w) X.A (handleBy e X.env [.ExceptHandler (some (.Name x np)) (some n) (b0 :: suite) hpos]) (SP X pins D) X.xe s3) X.xe s2) X.xe s1
  have take : Takes (X.tr (X.pn ++ pins) after) W0 := by
    rintro u s' ⟨a, B, sI, pins1, σ1, H1, cls, d, rfl, J0, nb, up, sky, na, os, ag, b, eb, yes, no⟩
    have J : Inv X pins σ1 H1 sI := J0.ofTry ok
    rw [show (X.tr (X.pn ++ pins) after).stack = X.env :: X.outer from hs] at sky
    refine Sky.land (Z := Zc cls d) Zc.steady frames hf sky fun h3 fly3 up3 => ?_
    have J3 : Inv X pins σ1 H1 { s' with heap := h3 } := J.landed nb fly3.1 (up.trans up3) os ag
    obtain ⟨o3, f3, e3, z3, d3⟩ := fly3.there
    have outside : a ∉ frs (X.env :: X.outer) := by
      intro hm
      obtain ⟨_, o', e', no'⟩ := fly3.2.2.1.mem hm
      rw [e3] at e'
      cases e'
      exact no' _ d3
    have gone : sI.heap.get? a = none := by
      cases q : sI.heap.get? a with
      | none => rfl
      | some o =>
        have z := nb a o q (by rw [show (X.tr (X.pn ++ pins) after).stack = X.env :: X.outer from hs]; exact outside)
        rw [fly3.2.1] at z
        cases z
    have n0 : X.s_0.heap.get? a = none := by
      cases q : X.s_0.heap.get? a with
      | none => rfl
      | some o =>
        obtain ⟨o', z⟩ := J.base.there a o q (by rw [hx]; exact List.not_mem_nil)
        rw [gone] at z
        cases z
    have nL : a ≠ X.env.locals := fun z => outside (List.mem_filterMap.mpr ⟨X.env, List.mem_cons_self, by rw [hf, z]⟩)
    have nF : a ∉ X.fs := by
      intro hm
      obtain ⟨e, he, q⟩ := List.mem_filterMap.mp hm
      exact outside (List.mem_filterMap.mpr ⟨e, List.mem_cons_of_mem _ he, q⟩)
    have nC : ∀ y k, X.env.cells.lookup y = some k → k ≠ a := by
      rintro y k e rfl
      obtain ⟨v, o, z, _⟩ := J.cell y k e
      rw [gone] at z
      cases z
    have nP : ∀ p ∈ X.pn ++ pins, p.1 ≠ a := by
      intro p hp q
      have z := (J.pin p hp).1
      rw [q, gone] at z
      cases z
    have S3 := J3.suite e3 d3 na nL nF
    refine wpAny_handleBy_cons (codeAny_handlers_test ?_) (fun q => nomatch q)
    have LT : PySem.W.Looks (model X.prog X.w) h3 (typeOf (.ref a)) cls := fun A Q E s2 k q => wpAny_typeOf_ref (k _ _ e3) (by rw [z3.1]; exact q)
    have LM := PySem.W.exm_one (M := model X.prog X.w) (J3.kIn) LT eb
    have asked : ∀ {Q : Value → Shared → Prop} {E : Value → Shared → Prop}, Q c { s' with heap := h3 } → wpAny (model X.prog X.w) (X.A.mark (some (.ref a))) (eval (.Name x np) X.env) Q E { s' with heap := h3 } := by
      intro Q E q
      obtain ⟨hg, hdb, hm | ⟨hm, hv, hnn⟩⟩ := hc
      · exact ld_glob (X := X.suite a ((a, o3) :: (X.pn ++ pins))) S3 hg hm q hdb
      · exact ld_blt (X := X.suite a ((a, o3) :: (X.pn ++ pins))) S3 hg hm hv q hnn hdb
    refine asked (LM.here ?_)
    cases b with
    | false =>
      show wpAny _ X.A (handleBy (.ref a) X.env []) _ _ _
      refine wpAny_handleBy_nil ?_
      obtain ⟨_, _, _, ob, vs, T, oT, tt, he, hz, hd, h1, hr⟩ := id fly3
      have fin : wpAny (model X.prog X.w) X.A (setFlight (.ref a) X.env.frame) (fun _ s4 => wpAny (model X.prog X.w) X.A (throw (.ref a) : Sem Flow) (SP X pins D) X.xe s4) X.xe { s' with heap := h3 } := by
        rw [hf]
        refine HandSPX.setFlight_upZ fly3 fun h4 held up4 => wpAny_throw (tk _ _ ?_)
        exact ⟨a, B, sI, pins, σ1, H1, cls, d, rfl, J, by rw [hs]; rw [show (X.tr (X.pn ++ pins) after).stack = X.env :: X.outer from hs] at nb; exact nb, (up.trans up3).trans up4, .inr (.inr (by rw [hs]; exact held)), na, os, ag, no rfl⟩
      unfold PySem.passOn
      refine wpAny_bind (wpAny_field he hd h1 ?_)
      rw [if_neg (by simp : ¬ ((Value.ref T == Value.none) = true))]
      first
        | exact wpAny_bind fin
        | exact wpAny_bind (wpAny_pure (wpAny_bind fin))
    | true =>
      refine codeAny_handlers_suite_as ?_
      refine HandSPX.lands_againZ fly3 fun h4 fly4 up4 => ?_
      have J4 : Inv X pins σ1 H1 { s' with heap := h4 } := J.landed nb fly4.1 ((up.trans up3).trans up4) os ag
      obtain ⟨o4, f4, e4, z4, d4⟩ := fly4.there
      have T4 : Inv X pins σ1 (upd H1 a (ExT cls d a)) { s' with heap := h4 } := inv_track J4 n0 na nL nC nP (exT_ok e4 z4 d4)
      refine store_ok (X := X.suite a (X.pn ++ pins)) (v := .ref a) (inv_intoT T4 a) hN hi (.inl hln) rfl (fun s5 S5 => ?_) (.inr hln)
      refine wpAny_mono ((hsu a cls d (X.pn ++ pins)).run [] s5 _ _ _ S5 (yes rfl a na)) (fun fl s6 res => ?_) fun _ _ z => z.elim
      have close : ∀ {σ6 : L2.St} {H6 : Hp} {Q : Shared → Prop}, Inv (X.suite a (X.pn ++ pins)) [] σ6 H6 s6 → (∀ s7, Inv X pins (σ6.set i none) H6 s7 → Q s7) →
          wpAny (model X.prog X.w) X.A (do bindName X.env n .none; unbindBehindTheSuite X.env n hpos) (fun _ s7 => Q s7) X.xe s6 := fun S6 q => gone_ok (inv_outT S6 ok) hN hi hln q
      match fl, res with
      | .next, res =>
        obtain ⟨σ6, H6, S6, q6⟩ := res
        exact close S6 fun s7 J7 => ⟨_, _, J7, q6⟩
      | .brk, res =>
        obtain ⟨σ6, H6, S6, q6⟩ := res
        exact close S6 fun s7 J7 => ⟨_, _, J7, q6⟩
      | .cont, res =>
        obtain ⟨σ6, H6, S6, q6⟩ := res
        exact close S6 fun s7 J7 => ⟨_, _, J7, q6⟩
      | .ret u, res =>
        obtain ⟨v6, σ6, H6, S6, r6, q6⟩ := res
        exact close S6 fun s7 J7 => ⟨_, _, _, J7, r6, q6⟩
  refine wpAny_Try_except (wpAny_mono ((hb W0 (X.pn ++ pins) after take PassesOwn.looking).run [] s σ H D (I.toTry _) h) (fun fl s1 res => ?_) fun e s1 he => he)
  match fl, res with
  | .next, res =>
    obtain ⟨σ2, H2, J2, q⟩ := res
    exact wpAny_execs_nil ⟨σ2, H2, J2.ofTry ok, q⟩
  | .brk, res =>
    obtain ⟨σ2, H2, J2, q⟩ := res
    exact ⟨σ2, H2, J2.ofTry ok, q⟩
  | .cont, res =>
    obtain ⟨σ2, H2, J2, q⟩ := res
    exact ⟨σ2, H2, J2.ofTry ok, q⟩
  | .ret u, res =>
    obtain ⟨v, σ2, H2, J2, r, q⟩ := res
    exact ⟨v, σ2, H2, J2.ofTry ok, r, q⟩
end
/-! ### isinstance of a tracked exception -/
/-- isinstance(e, C) -/
def rIsX (K : PySem.W.Frag) : List V → Hp → VK → Prop := fun xs H Q => ∃ (a D : Addr) (c : V) (cv : Value) (b : Bool), xs = [.ref a, c] ∧ IsEx H a (.ref D) ∧ ExcC K D ∧ ClsV c cv ∧ PySem.W.kitOne K (.ref D) cv = some b ∧ Q (.bl b) H
/-- isinstance(e, (C1, C2, ..)) -/
def rIsXT (K : PySem.W.Frag) : List V → Hp → VK → Prop := fun xs H Q => ∃ (a D tp : Addr) (cs : List V) (us : List Value) (b : Bool), xs = [.ref a, .ref tp] ∧ IsEx H a (.ref D) ∧ ExcC K D ∧ H tp = some (.tup cs) ∧ Paired ClsV cs us ∧ PySem.W.kitAny K (.ref D) us = some b ∧ Q (.bl b) H
section
variable {X : Cx} {K : PySem.W.Frag}
theorem isx_at {pins : List (Addr × Obj)} {σ : L2.St} {H : Hp} {s : Shared} {a D : Addr} (I : Inv X pins σ H s) (x : IsEx H a (.ref D)) : ∃ ob, PySem.W.InstAt s.heap a ob D none := by
  obtain ⟨φ, e, q⟩ := x
  obtain ⟨ob, fs, e1, ⟨z1, z2⟩, d1⟩ := q _ (I.hok a _ e).1
  obtain ⟨oc, od, dt, sl⟩ := ob
  dsimp only at z1 z2 d1
  subst z1 z2 d1
  exact ⟨_, e1, rfl, rfl, trivial⟩
theorem k_isX (hK : X.K = K) : CallR X (.builtin "isinstance") (rIsX K) := by
  subst hK
  intro pins s σ H xs us Q I r h
  obtain ⟨a, D, c, cv, b, rfl, x, C, k, e, q⟩ := h
  obtain ⟨u1, u2, rfl, r1, r2⟩ := vals2 r
  obtain rfl : u1 = Value.ref a := r1
  obtain rfl := k.eq r2
  obtain ⟨ob, J⟩ := isx_at I x
  exact PySem.W.kia_one (PySem.W.handS_kitx_exc C.hg C.hk C.hs C.hd C.ha C.hn C.ht C.hm) I.kIn J e (fun z => nomatch z) fun tk => ⟨.bl b, H, I.tok tk, rfl, q⟩
theorem k_isXT (hK : X.K = K) : CallR X (.builtin "isinstance") (rIsXT K) := by
  subst hK
  intro pins s σ H xs us Q I r h
  obtain ⟨a, D, tp, cs, ws, b, rfl, x, C, hT, k, e, q⟩ := h
  obtain ⟨u1, u2, rfl, r1, r2⟩ := vals2 r
  obtain rfl : u1 = Value.ref a := r1
  obtain rfl : u2 = Value.ref tp := r2
  obtain ⟨ob, J⟩ := isx_at I x
  obtain ⟨_, its, rv, o, h1, h2, m, h3⟩ := (I.hok tp _ hT : ObjOk X.prog X.w H s.heap tp (.tup cs))
  obtain rfl := ClsV.all k rv
  obtain ⟨oc, od, dt, sl⟩ := o
  dsimp only at h2 h3
  subst h2 h3
  exact PySem.W.kia_tup (PySem.W.handS_kitx_exc C.hg C.hk C.hs C.hd C.ha C.hn C.ht C.hm) I.kIn J h1 e (fun z => nomatch z) fun tk => ⟨.bl b, H, I.tok tk, rfl, q⟩
end
/-! ### defs that may be called while an exception is handled -/
structure FnU (P : Program) (w : World) (K : PySem.W.Frag) (mg : Str → Option Value) (base : Heap) (k : Nat) (f : Addr) (fd : FuncData) (ps : List Str) (sp : Sp) : Prop where
  size : ∀ vs H Q E, sp vs H Q E → vs.length = ps.length
  go : ∀ (A : Around) (outer : List Env) (s : Shared) (H : Hp) (args : Args) (us : List Value) (vs : List V) (Q : VK) (E : XK), L2H.RoomH k A → Env0 P w K mg base A outer s H →
    BindsTo s fd args (ps.zip us) → Vals vs us → sp vs H Q E → codeAny (model P w) A (.call (.ref f) args) (CR CX0 outer P w H s Q E) s
/-- the context of such a def's body -/
def cxU (P : Program) (w : World) (K : PySem.W.Frag) (mg : Str → Option Value) (base : Heap) (N : List Str) (qual : Str) (scope : Scope) (f : Addr) (cd : Value) (A : Around) (outer : List Env) (s : Shared) (H : Hp) (E : XK) : Cx :=
  { cxOf CX0 P w K mg base N qual scope f cd A outer s H E with calm := false }
section
variable {P : Program} {w : World} {K : PySem.W.Frag} {mg : Str → Option Value} {base : Heap} {k : Nat} {f : Addr} {fd : FuncData} {ps : List Str} {sp : Sp}
theorem fun_okU {x qual : Str} {st : Stmt} {N : List Str} (F : Fun K x qual st f fd) (S : FnScope N ps (defScope st)) (size : ∀ vs H Q E, sp vs H Q E → vs.length = ps.length)
    (body : ∀ (cdv : Value) (A : Around) (outer : List Env) (s : Shared) (H : Hp) (vs : List V) (Q : VK) (E : XK), L2H.RoomH k (A.deeper (envOfC qual (defScope st) s.heap.objs.size f cdv)) → sp vs H Q E →
      ∃ t, PSs (cxU P w K mg base N qual (defScope st) f cdv A outer s H E) (defBody st) t ∧ t { nx := fun _ H' => Q .non H', rt := Q } (start N vs) H) : FnU P w K mg base (k + 1) f fd ps sp := by
  obtain ⟨oc, od, kV, doc, pm, an, cdv, ct, osl, rfl, lk, hcd⟩ := F.ex
  refine ⟨size, fun A outer s H args us vs Q E room env bind vals prom => ?_⟩
  have inK : K.In s.heap := env.mod.kin.keeps fun b o q => (env.bs b o q).1
  have loose : s.heap.NoLimit := env.mod.nolimit.keeps fun b o q => (env.bs b o q).1
  have kinds : ∀ z ∈ ps.zip us, (defScope st).names.lookup z.1 = some .local ∨ ((defScope st).names.lookup z.1 = some .cell ∧ ((cellsFrom (s.heap.objs.size + 1) (defScope st).names []).lookup z.1).isSome = true) := by
    rintro ⟨n, v⟩ hz
    have hn := (List.of_mem_zip hz).1
    rcases S.par n hn with h | h
    · exact Or.inl h
    · exact Or.inr ⟨h, PySem.W.cellsFrom_some _ _ _ (Or.inl h)⟩
  refine codeAny_call_function room.depth (inK _ _ lk) rfl S.co S.gen rfl (PySem.W.codeRec_of inK hcd) (bind _ _ _ _ ?_)
  refine wpAny_newFunctionEnv_cells S.kind kinds fun env' e1 s1 into => ?_
  subst e1
  refine ⟨loose.keeps into.toInCall.keep, codeAny_func ?_⟩
  obtain ⟨t, deriv, read⟩ := body cdv A outer s H vs Q E (room.deeper _) prom
  have env1 : Env0 P w K mg base { A with handled := none } outer s H := ⟨env.frames, env.mod, env.bs, env.bsz, env.funs, env.frf, env.hok, env.bare⟩
  have I0 := inv_start (CX := CX0) (E := E) (A := { A with handled := none }) S rfl env1 (size _ _ _ _ prom) vals into
  have I : Inv (cxU P w K mg base N qual (defScope st) f cdv A outer s H E) [] (start N vs) H s1 :=
    ⟨⟨I0.ok.mod, I0.ok.kind, I0.ok.glob, I0.ok.blt, I0.ok.above, I0.ok.inj, I0.ok.has, I0.ok.cab, (fun z => absurd (show false = true from z) Bool.false_ne_true), I0.ok.frames, I0.ok.stk, I0.ok.exf, I0.ok.bs, I0.ok.bsz, I0.ok.noex, I0.ok.exfs, I0.ok.funs, I0.ok.frf⟩,
      I0.os, I0.bare, I0.base, I0.loc, I0.cell, I0.free, I0.freeC, I0.pin, I0.hok, I0.len⟩
  refine wpAny_mono (deriv.run [] s1 (start N vs) H _ I read) (fun flow s' ends => ?_) fun _ _ q => q
  have done : ∀ {σ2 : L2.St} {H2 : Hp} {v : V} {u : Value}, Inv (cxU P w K mg base N qual (defScope st) f cdv A outer s H E) [] σ2 H2 s' → RelV v u → Q v H2 → CE outer P w H s Q u s' := by
    intro σ2 H2 v u J rel q
    exact ⟨v, H2, J.os, J.bare, J.base, J.hok, rel, q⟩
  match flow, ends with
  | .ret u, ends =>
    obtain ⟨v, σ2, H2, J, rel, q⟩ := ends
    exact done J rel q
  | .next, ends =>
    obtain ⟨σ2, H2, J, q⟩ := ends
    exact done (v := V.non) (u := Value.none) J rfl q
  | .brk, ends =>
    obtain ⟨_, _, _, q⟩ := ends
    exact q.elim
  | .cont, ends =>
    obtain ⟨_, _, _, q⟩ := ends
    exact q.elim
end
section
variable {X : Cx} {k : Nat} {f : Addr} {fd : FuncData} {ps : List Str} {sp : Sp} {E : XK} {x : Str} {p pos : Pos} {e : Expr} {es : List Expr} {t : TA}
theorem pe_callU (F : FnU X.prog X.w X.K X.mg X.base k f fd ps sp) (hr : L2H.RoomH k X.A) (hg : Gl X x) (hm : X.mg x = some (.ref f)) (hk : PySem.W.keepIn X.K (.ref f) = true) (hb : Binds X.K fd ps []) (hx : Passes CX0 X E)
    (ha : PA X (e :: es) t) (hdb : (x == ("__debug__" : Str)) = false := by decide) (he : starEach (e :: es) X.env = (false, eval e X.env) :: starEach es X.env := by rfl) (hpl : (backTo pos (starEach es X.env)).any (·.1) = false := by rfl) :
    PE X (.Call (.Name x p) (e :: es) [] pos) (tCall sp [] E t) := by
  constructor
  intro pins s σ H Q I h
  have args := ha.run pos pins s σ H _ I h
  refine wpAny_Call_Name_kw (ld_glob I hg hm (PySem.W.callWith_K (h₀ := X.base) I.ok.mod.kin hk (thn args ?_) he hpl) hdb)
  rintro us s1 ⟨vs, H1, I1, r, q⟩
  rw [List.append_nil] at q
  refine ⟨I1.kIn, ?_⟩
  have many : (us ++ []).length = ps.length := by rw [List.append_nil]; exact r.length.symm.trans (F.size _ _ _ _ q)
  have bs := hb s1 us I1.kIn many
  rw [List.append_nil] at bs
  have run := F.go X.A X.stack s1 H1 ⟨us, []⟩ us vs Q E hr I1.env0 bs r q
  refine wpAny_call (codeAny_mono run fun res s' z => ?_)
  match res, z with
  | .error err, z => exact hx pins σ H1 s1 err s' I1 z
  | .ok (.ret u), z => exact I1.after z
end
end BC
namespace BC
open PySem PySem.Spec PyProof.Rows L2
theorem roomM {k : Nat} {A : Around} {v : Option Value} (r : L2H.RoomH k A) : L2H.RoomH k (A.mark v) := ⟨r.dp, r.un⟩
/-- own classes ahead of ValueError's -/
def MroIs (K : PySem.W.Frag) (C : Addr) (l : List Addr) : Prop := ∃ cd, PySem.W.clsIn K C = some cd ∧ cd.mro = l.map Value.ref ++ HandSPX.veTail
theorem own_has {l : List Addr} {D : Addr} : (l.map Value.ref ++ HandSPX.veTail).contains (.ref D) = decide (D ∈ l) := by
  induction l with
  | nil => rfl
  | cons a l ih =>
    rw [List.map_cons, List.cons_append, List.contains_cons, ih]
    by_cases e : D = a
    · subst e; simp
    · have : (Value.ref D == Value.ref a) = false := by simpa using e
      rw [this, Bool.false_or]
      simp [e]
theorem mro_sub {K : PySem.W.Frag} {C : Addr} {l : List Addr} (m : MroIs K C l) (v : Value) : PySem.W.subIn K (.ref C) v = some ((l.map Value.ref ++ HandSPX.veTail).contains v) := by
  obtain ⟨cd, h1, h2⟩ := m
  show PySem.W.mroIn K C v = _
  unfold PySem.W.mroIn
  rw [h1]
  show (if cd.mro.isEmpty = true then none else some (cd.mro.contains v)) = _
  rw [h2, if_neg (by cases l <;> simp [HandSPX.veTail])]
/-- isinstance of own exceptions, among each other -/
theorem kit_own {K : PySem.W.Frag} {C D : Addr} {l l2 : List Addr} (m : MroIs K C l) (m2 : MroIs K D l2) (t : PySem.W.typeIn K (.ref D) = some (.type "type")) (hC : C ∈ l) : PySem.W.kitOne K (.ref C) (.ref D) = some (decide (D ∈ l)) := by
  unfold PySem.W.kitOne
  by_cases e : C = D
  · subst e
    rw [if_pos (by simp), decide_eq_true hC]
  · have : (Value.ref C == Value.ref D) = false := by simpa using e
    rw [this, if_neg Bool.false_ne_true]
    obtain ⟨cd2, k1, _⟩ := id m2
    show (if ((PySem.W.clsIn K D).isSome && PySem.W.typeIn K (.ref D) == some (.type "type")) = true then PySem.W.subIn K (.ref C) (.ref D) else none) = _
    rw [k1, t, if_pos (by rfl), mro_sub m, own_has]
theorem kit_ve {K : PySem.W.Frag} {C : Addr} {l : List Addr} (m : MroIs K C l) : PySem.W.kitOne K (.ref C) (.type "ValueError") = some true := by
  unfold PySem.W.kitOne
  rw [if_neg (by simp)]
  show (if PySem.W.kitMeta "ValueError" = true then PySem.W.subIn K (.ref C) (.type "ValueError") else none) = _
  rw [if_pos (by decide +kernel), mro_sub m]
  congr 1
  clear m
  induction l with
  | nil => rfl
  | cons a l ih => rw [List.map_cons, List.cons_append, List.contains_cons, ih, Bool.or_true]
/-- an own class in an except clause -/
theorem exm_own {K : PySem.W.Frag} {C D : Addr} {l : List Addr} (m : MroIs K C l) (e : ExcC K D) (t : PySem.W.typeIn K (.ref D) = some (.type "type")) : PySem.W.exmOne K (.ref C) (.ref D) = some (decide (D ∈ l)) :=
  PySem.W.exm_ref e.hs e.hd t (by rw [mro_sub m, own_has])
theorem exm_yes {K : PySem.W.Frag} {C D : Addr} {l : List Addr} (m : MroIs K C l) (e : ExcC K D) (t : PySem.W.typeIn K (.ref D) = some (.type "type")) (h : D ∈ l) : PySem.W.exmOne K (.ref C) (.ref D) = some true := by rw [exm_own m e t, decide_eq_true h]
theorem kitAny_cons' {K : PySem.W.Frag} {t c : Value} {cs : List Value} {b r : Bool} (h : PySem.W.kitOne K t c = some b) (hr : PySem.W.kitAny K t cs = some r) : PySem.W.kitAny K t (c :: cs) = some (b || r) := by
  unfold PySem.W.kitAny
  rw [h]
  cases b with
  | true => rfl
  | false => rw [Bool.false_or]; exact hr
section
variable {σ : L2.St} {H : Hp} {Q : VK} {t : TA} {sp : Sp} {E : L2.St → XK}
theorem x_callS : tCallS sp E t σ H Q = t σ H fun vs H1 => sp vs H1 Q (E σ) := rfl
end
end BC

set_option Elab.async false
set_option linter.all false
set_option maxRecDepth 100000
set_option maxHeartbeats 4000000
/-! a call of a def that an expression chooses: [f, g][i](..) -/
namespace BC
open PySem PySem.Spec PyProof.Rows L2
section
variable {X : Cx} {CX : CXT} {k1 k2 : Nat} {f1 f2 : Addr} {fd1 fd2 : FuncData} {ps1 ps2 : List Str} {sp1 sp2 : Sp} {E : L2.St → XK} {fe e : Expr} {es : List Expr} {tf : TE} {t : TA} {pos : Pos}
/-- one of two defs is called; what it raises is wished for at the caller's slots -/
def tCallF2 (f1 f2 : Addr) (sp1 sp2 : Sp) (E : L2.St → XK) (tf : TE) (t : TA) : TE := fun σ H Q => tf σ H fun x H1 => (x = .ref f1 ∧ t σ H1 fun vs H2 => sp1 vs H2 Q (E σ)) ∨ (x = .ref f2 ∧ t σ H1 fun vs H2 => sp2 vs H2 Q (E σ))
theorem x_callF2 {σ : L2.St} {H : Hp} {Q : VK} : tCallF2 f1 f2 sp1 sp2 E tf t σ H Q = tf σ H fun x H1 => (x = .ref f1 ∧ t σ H1 fun vs H2 => sp1 vs H2 Q (E σ)) ∨ (x = .ref f2 ∧ t σ H1 fun vs H2 => sp2 vs H2 Q (E σ)) := rfl
theorem pe_callF2 (hf : PE X fe tf) (F1 : FnOk X.prog X.w X.K X.mg X.base CX k1 f1 fd1 ps1 sp1) (r1 : Room k1 X.A) (kp1 : PySem.W.keepIn X.K (.ref f1) = true) (b1 : Binds X.K fd1 ps1 [])
    (F2 : FnOk X.prog X.w X.K X.mg X.base CX k2 f2 fd2 ps2 sp2) (r2 : Room k2 X.A) (kp2 : PySem.W.keepIn X.K (.ref f2) = true) (b2 : Binds X.K fd2 ps2 []) (hx : ∀ σ, PassesAt CX X σ (E σ)) (ha : PA X (e :: es) t)
    (ht : eval (.Call fe (e :: es) [] pos) X.env = (do callWith pos (← eval fe X.env) [] (backTo pos (starEach (e :: es) X.env)) (backToKw pos (keywordEach [] X.env))) := by rfl)
    (he : starEach (e :: es) X.env = (false, eval e X.env) :: starEach es X.env := by rfl) (hpl : (backTo pos (starEach es X.env)).any (·.1) = false := by rfl) :
    PE X (.Call fe (e :: es) [] pos) (tCallF2 f1 f2 sp1 sp2 E tf t) := by
  constructor
  intro pins s σ H Q I h
  refine Call_ (thn (hf.run pins s σ H _ I h) fun u s1 ⟨x, H1, I1, rx, q⟩ => ?_) ht
  rcases q with ⟨rfl, q⟩ | ⟨rfl, q⟩
  · obtain rfl : u = Value.ref f1 := rx
    exact PySem.W.callWith_K (h₀ := X.base) I1.ok.mod.kin kp1 (thn (ha.run pos pins s1 σ H1 _ I1 q) fun us s2 ⟨vs, H2, I2, r, q2⟩ => ⟨I2.kIn, run_fnS F1 r1 b1 (hx σ) I2 r q2⟩) he hpl
  · obtain rfl : u = Value.ref f2 := rx
    exact PySem.W.callWith_K (h₀ := X.base) I1.ok.mod.kin kp2 (thn (ha.run pos pins s1 σ H1 _ I1 q) fun us s2 ⟨vs, H2, I2, r, q2⟩ => ⟨I2.kIn, run_fnS F2 r2 b2 (hx σ) I2 r q2⟩) he hpl
end
end BC

set_option Elab.async false
set_option linter.all false
set_option maxRecDepth 100000
set_option maxHeartbeats 4000000
/-! head, *rest = a list -/
namespace BC
open PySem PySem.Spec PyProof.Rows L2
theorem walks_shift {prog : Program} {w : World} {A : Around} {I : Addr} {fp wr : List Addr} {G : Array GenState → Array GenState → Prop} {n : Nat} {P : Nat → Value → Prop} {St : Nat → Shared → Prop} (W : WalksS prog w A I fp wr G (n + 1) P St) :
    WalksS prog w A I fp wr G n (fun i v => P (i + 1) v) (fun i s => St (i + 1) s) :=
  ⟨W.sub, W.grefl, W.gtrans, fun i => W.frame (i + 1), fun i s Q E hi => W.item (i + 1) s Q E (by omega), W.done, fun i => W.self (i + 1)⟩
section
variable {prog : Program} {w : World} {A : Around} {E : Value → Shared → Prop} {s : Shared}
/-- the items of 'a, *b = l' -/
theorem items_star {l : Addr} {x : Value} {rest : List Value} {Q : List Value → Shared → Prop} (hh : A.handled = none) (hl : s.heap.IsList l (x :: rest).toArray) (hz : rest.length ≤ sizeLine)
    (hQ : ∀ (h' : Heap) (tk : Nat), (∀ b o, s.heap.get? b = some o → h'.get? b = some o) → Q [x, .ref h'.objs.size] { s with heap := h'.push (seqObj "list" rest.toArray 0), toks := tk }) :
    wpAny (model prog w) A (unpackItems (.ref l) 2 (some 1)) Q E s := by
  have lt : l < s.heap.objs.size := by obtain ⟨o, ho, _⟩ := hl; exact Heap.lt_size ho
  unfold unpackItems
  refine wpAny_bind ?_
  unfold notIterableAtAll
  refine wpAny_bind (wpAny_specialOf hl.typeIs PySem.F.slot_list_iter.lookup (wpAny_pure ?_))
  simp only [Bool.false_eq_true, if_false]
  refine wpAny_bind (wpAny_holding (wpAny_pyIter_list hl ?_))
  have nI : l ≠ s.heap.objs.size := Nat.ne_of_lt lt
  have it0 : (s.heap.push { cls := .type "list_iterator", data := .fields #[.ref l, .int 0 0] }).IsListIter s.heap.objs.size l 0 := ⟨_, Heap.get?_push_size _ rfl, rfl, rfl⟩
  have W := (Walks.list (prog := prog) (w := w) (A := A.in1) hh s.heap.objs.size l nI (x :: rest).toArray).toS
  have W0 := W.of_in1
  show wpAny _ _ (holding [Value.ref s.heap.objs.size] (draw (.ref s.heap.objs.size) 1) >>= _) _ _ _
  refine wpAny_bind (wpAny_holding ?_)
  show wpAny _ _ (pyNext (.ref s.heap.objs.size) >>= _) _ _ _
  refine wpAny_bind (W0.item 0 _ _ _ (by simp) ⟨it0, hl.push _⟩ fun v s1 hv st1 m1 => ?_)
  obtain rfl : x = v := by simpa using hv
  refine wpAny_bind (wpAny_holding (wpAny_pure (wpAny_pure ?_)))
  rw [if_neg (by simp)]
  have size : (x :: rest).toArray.size = rest.length + 1 := by simp
  have W1 : WalksS prog w A.in1 s.heap.objs.size [s.heap.objs.size, l] [s.heap.objs.size] (fun a b => b = a) (rest.length + 1) (fun i v => (x :: rest).toArray[i]? = some v) (fun i s' => s'.heap.IsListIter s.heap.objs.size l i ∧ s'.heap.IsList l (x :: rest).toArray) := size ▸ W
  have big : s.heap.objs.size < s1.heap.objs.size := by obtain ⟨o, ho, _⟩ := st1.1; exact Heap.lt_size ho
  refine wpAny_bind (wpAny_holding (wpAny_collect_iter (T := "list_iterator") (.inr (.inr (.inl rfl))) (walks_shift W1) (fun i s' st => ?_) st1 (fun b hb => ?_) List.mem_cons_self (fun s2 acc m2 its => ?_) hz))
  · obtain ⟨o, ho, hc, _⟩ := st.1
    exact ⟨o, ho, hc⟩
  · rcases List.mem_cons.mp hb with rfl | hb
    · exact big
    · rw [List.mem_singleton.mp hb]
      exact Nat.lt_trans lt big
  have ea : acc.toList = rest := by
    obtain ⟨e1, e2⟩ := its
    apply List.ext_getElem?
    intro i
    by_cases c : i < acc.size
    · have h1 := e2 i acc[i] (by simp [c])
      have h2 : rest[i]? = some acc[i] := by simpa using h1
      rw [h2, Array.getElem?_toList]
      simp [c]
    · rw [List.getElem?_eq_none (by simpa using Nat.le_of_not_lt c), List.getElem?_eq_none (by omega)]
  rw [ea]
  rw [if_neg (by simp)]
  simp only [Nat.sub_self, Nat.sub_zero, show 2 - 1 - 1 = 0 by rfl, List.take_length, List.drop_length]
  have kept : ∀ b o, s.heap.get? b = some o → s2.heap.get? b = some o := by
    intro b o e
    have ne : b ∉ [s.heap.objs.size] := by
      intro z
      rw [List.mem_singleton.mp z] at e
      exact absurd (Heap.lt_size e) (Nat.lt_irrefl _)
    exact m2.heap b o ne (m1.heap b o ne (Heap.get?_push_of_some _ e))
  obtain ⟨h2, g2, d2, t2, o2⟩ := s2
  have eg : g2 = s.gens := m2.gens.trans m1.gens
  have ed : d2 = s.drawn := m2.drawn.trans m1.drawn
  have eo : o2 = s.os := m2.os.trans m1.os
  subst eg ed eo
  refine wpAny_bind (wpAny_newList ?_ hz)
  exact wpAny_pure (hQ h2 t2 kept)
end
def gStar (K : PySem.W.Frag) (g1 g2 : TG) : TG := fun v σ H QG => ∃ (a : Addr) (x : V) (xs : List V), v = .ref a ∧ SqL K H a (x :: xs) ∧ ∀ p, H p = none → g1 x σ (upd H p (.lst xs)) fun σ2 H2 => g2 (.ref p) σ2 H2 QG
theorem x_gstar {K : PySem.W.Frag} {g1 g2 : TG} {v : V} {σ : L2.St} {H : Hp} {QG : L2.St → Hp → Prop} : gStar K g1 g2 v σ H QG = ∃ (a : Addr) (x : V) (xs : List V), v = .ref a ∧ SqL K H a (x :: xs) ∧ ∀ p, H p = none → g1 x σ (upd H p (.lst xs)) fun σ2 H2 => g2 (.ref p) σ2 H2 QG := rfl
theorem pg_star {X : Cx} {K : PySem.W.Frag} {t1 t2 : Expr} {sp pos : Pos} {k : Nat} {g1 g2 : TG} (hK : X.K = K) (hc : X.calm = true) (h1 : PG X t1 g1) (h2 : PG X t2 g2)
    (he : assignEach [t1, .Starred t2 sp] X.env = [(false, assign t1 X.env), (true, assign t2 X.env)] := by rfl) : PG X (.Tuple [t1, .Starred t2 sp] k pos) (gStar K g1 g2) := by
  subst hK
  constructor
  intro pins s σ H v u Q I r hw
  obtain ⟨a, x, xs, rfl, hq, hw⟩ := hw
  obtain rfl : u = Value.ref a := r
  obtain ⟨its, rv, pl, hz⟩ := I.list hq
  match its, rv with
  | y :: ys, .cons r1 rs =>
    have hl : s.heap.IsList a (y :: ys).toArray := pl.isList
    have len := rs.length
    have hz' : ys.length ≤ sizeLine := by rw [← len]; rw [List.length_cons] at hz; omega
    show wpAny _ _ (do standAt pos; unpack (.ref a) (assignEach [t1, .Starred t2 sp] X.env)) _ _ s
    rw [he]
    refine wpAny_bind (wpAny_standAt ?_)
    unfold unpack
    refine wpAny_bind (wpAny_holding ?_)
    show wpAny _ _ (unpackItems (.ref a) 2 (some 1)) _ _ s
    refine items_star (I.ok.hd hc) hl hz' fun h' tk kp => ?_
    have I1 : Inv X pins σ H { s with heap := h', toks := tk } := I.kept (t' := tk) kp
    have hn : H h'.objs.size = none := I1.hok.fresh (Nat.le_refl _)
    have J : Inv X pins σ (upd H h'.objs.size (.lst xs)) { s with heap := h'.push (seqObj "list" ys.toArray 0), toks := tk } :=
      I1.laid (t' := tk) (fun b o e => Heap.get?_push_of_some _ e) (Nat.le_refl _) ⟨by rw [len]; exact hz', ys, 0, rs, Heap.get?_push_size _ rfl⟩
    show wpAny _ _ (do holding [Value.ref h'.objs.size] (assign t1 X.env y); assignInOrder [assign t2 X.env] [Value.ref h'.objs.size]) _ _ _
    refine wpAny_bind (wpAny_holding (thn (h1.run pins _ σ _ x y _ J r1 (hw _ hn)) fun _ s3 ⟨σ3, H3, I3, q3⟩ => ?_))
    show wpAny _ _ (do holding [] (assign t2 X.env (Value.ref h'.objs.size)); assignInOrder [] []) _ _ _
    refine wpAny_bind (wpAny_holding (thn (h2.run pins s3 σ3 H3 (.ref h'.objs.size) _ _ I3 rfl q3) fun _ s4 q4 => ?_))
    exact wpAny_pure q4
end BC

set_option Elab.async false
set_option linter.all false
set_option maxRecDepth 100000
set_option maxHeartbeats 4000000
/-! strings of sites, of numbers, and what they write -/
namespace BC
open PySem PySem.Spec PyProof.Rows L2 Evl
def numS (n : Nat) : Str := ((toString ((n : Nat) : Int) : String) : Str)
theorem tl_numS (n : Nat) : TL.tl (numS n) = TL.numL n := TL.tl_num n
theorem numS_len {n : Nat} (h : n < 1000) : 1 ≤ (numS n).length ∧ (numS n).length ≤ 3 := len3' (n := (n : Int)) (by omega) (by omega)
theorem numS_free {n s : Nat} (h : s < 48 ∨ 57 < s) : s ∉ TL.tl (numS n) := by rw [tl_numS]; exact TL.numL_free h
theorem numS_inj {m n : Nat} (h : numS m = numS n) : m = n := TL.numL_inj (by rw [← tl_numS, ← tl_numS, h])
theorem joinL_mem {S : List Nat} {x : Nat} : ∀ {ps : List (List Nat)}, x ∈ TL.joinL S ps → x ∈ S ∨ ∃ p ∈ ps, x ∈ p
  | [], h => by cases h
  | [p], h => .inr ⟨p, List.mem_singleton.mpr rfl, h⟩
  | p :: q :: r, h => by
    have h' : x ∈ p ++ (S ++ TL.joinL S (q :: r)) := h
    rcases List.mem_append.mp h' with h | h
    · exact .inr ⟨p, List.mem_cons_self, h⟩
    · rcases List.mem_append.mp h with h | h
      · exact .inl h
      · rcases joinL_mem h with h | ⟨z, hz, h⟩
        · exact .inl h
        · exact .inr ⟨z, List.mem_cons_of_mem _ hz, h⟩
theorem join_mem {y : Str} {ps : List Str} {x : Nat} (h : x ∈ TL.tl (Txt.join y ps)) : x ∈ TL.tl y ∨ ∃ p ∈ ps, x ∈ TL.tl p := by
  rw [TL.join_eq, TL.tl_join] at h
  rcases joinL_mem h with h | ⟨z, hz, h⟩
  · exact .inl h
  · obtain ⟨p, hp, rfl⟩ := List.mem_map.mp hz
    exact .inr ⟨p, hp, h⟩
theorem joinL_snoc (S : List Nat) (x : List Nat) : ∀ {ps : List (List Nat)}, ps ≠ [] → TL.joinL S (ps ++ [x]) = TL.joinL S ps ++ (S ++ x)
  | [], h => absurd rfl h
  | [p], _ => rfl
  | p :: q :: r, _ => by
    show p ++ (S ++ TL.joinL S ((q :: r) ++ [x])) = p ++ (S ++ TL.joinL S (q :: r)) ++ (S ++ x)
    rw [joinL_snoc S x (by simp)]
    simp [List.append_assoc]
theorem join_snoc (y x : Str) {ps : List Str} (h : ps ≠ []) : Txt.join y (ps ++ [x]) = Txt.join y ps ++ y ++ x := by
  refine TL.ext_tl ?_
  rw [TL.tl_append, TL.tl_append, TL.join_eq, TL.join_eq, TL.tl_join, TL.tl_join, List.map_append, List.map_singleton, joinL_snoc _ _ (by simp [h]), List.append_assoc]
theorem join_one (y x : Str) : Txt.join y [x] = x := by
  rw [TL.join_eq]
  rfl
theorem join_nil (y : Str) : Txt.join y [] = Str.empty := by
  rw [TL.join_eq]
  rfl
/-! ### sites -/
def rowW (i : Nat) (r : List Nat) : List Str := (numS i ++ ((":" : String) : Str)) :: r.map numS
def rowS (i : Nat) (r : List Nat) : Str := Txt.join ((" " : String) : Str) (rowW i r)
def rowsS (G : Grid) (n : Nat) : List Str := (List.range n).map fun i => rowS i (row G i)
def siteS (G : Grid) : Str := Txt.join (("; " : String) : Str) (rowsS G G.length)
theorem rowsS_len (G : Grid) (n : Nat) : (rowsS G n).length = n := by unfold rowsS; rw [List.length_map, List.length_range]
theorem tl_sp : TL.tl ((" " : String) : Str) = [32] := by decide +kernel
theorem tl_sc : TL.tl (("; " : String) : Str) = [59, 32] := by decide +kernel
theorem tl_co : TL.tl ((":" : String) : Str) = [58] := by decide +kernel
theorem rowW_free {i : Nat} {r : List Nat} {s : Nat} (h : s < 48 ∨ 58 < s) : ∀ p ∈ rowW i r, s ∉ TL.tl p := fun p hp => by
  rcases List.mem_cons.mp hp with rfl | hp
  · rw [TL.tl_append, tl_co]
    intro m
    rcases List.mem_append.mp m with m | m
    · exact numS_free (by omega) m
    · rw [List.mem_singleton] at m
      omega
  · obtain ⟨x, _, rfl⟩ := List.mem_map.mp hp
    exact numS_free (by omega)
theorem rowS_free {i : Nat} {r : List Nat} : 59 ∉ TL.tl (rowS i r) := fun m => by
  rcases join_mem m with m | ⟨p, hp, m⟩
  · rw [tl_sp] at m
    simp at m
  · exact rowW_free (by omega) p hp m
theorem split_row (i : Nat) (r : List Nat) : Txt.split (rowS i r) ((" " : String) : Str) = rowW i r :=
  TL.split_join tl_sp (by decide +kernel) (by unfold rowW; simp) (rowW_free (by omega))
theorem split_site (G : Grid) (h : 1 ≤ G.length) : Txt.split (siteS G) (("; " : String) : Str) = rowsS G G.length :=
  TL.split_join tl_sc (by decide +kernel) (by intro e; have := congrArg List.length e; rw [rowsS_len, List.length_nil] at this; omega) (fun p hp => by
    obtain ⟨i, _, rfl⟩ := List.mem_map.mp hp
    exact rowS_free)
theorem join_bound (y : Str) (b : Nat) : ∀ ps : List Str, (∀ p ∈ ps, p.length ≤ b) → (Txt.join y ps).length ≤ ps.length * (b + y.length) := fun ps h => by
  have a := StrLaws.join_length_le y ps
  rw [TL.join_eq]
  have s : ∀ ps : List Str, (∀ p ∈ ps, p.length ≤ b) → (ps.map (·.length)).sum ≤ ps.length * b := fun ps => by
    induction ps with
    | nil => intro _; simp
    | cons p ps ih =>
      intro h
      have a := ih fun q hq => h q (List.mem_cons_of_mem _ hq)
      have c := h p List.mem_cons_self
      rw [List.map_cons, List.sum_cons, List.length_cons, Nat.succ_mul]
      omega
  have := s ps h
  rw [Nat.mul_add]
  omega
theorem rowS_len {i : Nat} {r : List Nat} (hi : i < 1000) (hr : ∀ x ∈ r, x < 1000) : (rowS i r).length ≤ (r.length + 1) * 5 := by
  have b := join_bound ((" " : String) : Str) 4 (rowW i r) (fun p hp => by
    rcases List.mem_cons.mp hp with rfl | hp
    · have := (numS_len hi).2
      rw [Str.length_append, show ((":" : String) : Str).length = 1 by decide]
      omega
    · obtain ⟨x, hx, rfl⟩ := List.mem_map.mp hp
      have := (numS_len (hr x hx)).2
      omega)
  rw [show ((" " : String) : Str).length = 1 by decide] at b
  unfold rowW at b
  rw [List.length_cons, List.length_map] at b
  exact b
theorem rowsS_succ (G : Grid) (n : Nat) : rowsS G (n + 1) = rowsS G n ++ [rowS n (row G n)] := by
  unfold rowsS
  rw [List.range_succ, List.map_append]
  rfl
theorem SiteOk.row12 {G : Grid} (h : SiteOk G) (i : Nat) : ∀ x ∈ row G i, x < 1000 := fun x hx => by
  have a := h.rlt hx
  have b := h.n2
  omega
theorem site_len {G : Grid} (h : SiteOk G) (n : Nat) (hn : n ≤ 12) : (Txt.join (("; " : String) : Str) (rowsS G n)).length ≤ n * 67 := by
  have b := join_bound (("; " : String) : Str) 65 (rowsS G n) (fun p hp => by
    obtain ⟨i, hi, rfl⟩ := List.mem_map.mp hp
    rw [List.mem_range] at hi
    have := rowS_len (i := i) (r := row G i) (by omega) (h.row12 i)
    have := h.rlen i
    omega)
  rw [show (("; " : String) : Str).length = 2 by decide, rowsS_len] at b
  omega
/-! ### what the law puts together -/
/-- the text so far, within row i behind j of its links -/
def part7 (G : Grid) (i j : Nat) : Str := Txt.join (("; " : String) : Str) (rowsS G i) ++ (if 0 < i then (("; " : String) : Str) else Str.empty) ++ rowS i ((row G i).take j)
theorem part7_end {G : Grid} {i : Nat} : part7 G i (row G i).length = Txt.join (("; " : String) : Str) (rowsS G (i + 1)) := by
  unfold part7
  rw [List.take_length, rowsS_succ]
  cases i with
  | zero =>
    show Txt.join _ [] ++ Str.empty ++ _ = Txt.join _ ([] ++ [_])
    rw [List.nil_append, join_nil, join_one, Str.empty_append, Str.empty_append]
  | succ i =>
    rw [if_pos (by omega), join_snoc _ _ (by intro e; have := congrArg List.length e; rw [rowsS_len] at this; simp at this)]
theorem part7_next {G : Grid} {i j x : Nat} (h : (row G i)[j]? = some x) : part7 G i j ++ ((" " : String) : Str) ++ numS x = part7 G i (j + 1) := by
  unfold part7
  have e : rowS i ((row G i).take (j + 1)) = rowS i ((row G i).take j) ++ ((" " : String) : Str) ++ numS x := by
    unfold rowS
    rw [List.take_add_one, h]
    show Txt.join _ ((numS i ++ _) :: (((row G i).take j ++ [x]).map numS)) = _
    rw [List.map_append, List.map_singleton]
    exact join_snoc (ps := rowW i ((row G i).take j)) _ _ (by unfold rowW; simp)
  rw [e]
  simp only [Str.append_assoc]
theorem part7_zero {G : Grid} {i : Nat} : Txt.join (("; " : String) : Str) (rowsS G i) ++ (if 0 < i then (("; " : String) : Str) else Str.empty) ++ numS i ++ ((":" : String) : Str) = part7 G i 0 := by
  unfold part7
  have e : rowS i ((row G i).take 0) = numS i ++ ((":" : String) : Str) := by
    unfold rowS rowW
    rw [List.take_zero, List.map_nil]
    exact join_one _ _
  rw [e]
  simp only [Str.append_assoc]
theorem part7_len {G : Grid} (h : SiteOk G) {i j : Nat} (hi : i < 12) : (part7 G i j).length ≤ 1000 := by
  unfold part7
  rw [Str.length_append, Str.length_append]
  have a := site_len h i (by omega)
  have b := rowS_len (i := i) (r := (row G i).take j) (by omega) (fun x hx => h.row12 i x (List.mem_of_mem_take hx))
  have c := h.rlen i
  rw [List.length_take] at b
  have d : (if 0 < i then (("; " : String) : Str) else Str.empty).length ≤ 2 := by
    split
    · decide
    · decide
  have : (min j (row G i).length + 1) * 5 ≤ 13 * 5 := Nat.mul_le_mul_right _ (by omega)
  have : i * 67 ≤ 11 * 67 := Nat.mul_le_mul_right _ (by omega)
  omega
/-! ### numbers read -/
/-- the number of at most two digits that a word writes -/
def numIn (x : Str) : Option Nat := (List.range 100).find? fun n => decide (numS n = x)
def numV (x : Str) : V := match numIn x with | some n => .int (n : Int) | none => .non
theorem numIn_some {x : Str} {n : Nat} (h : numIn x = some n) : n < 100 ∧ x = numS n := by
  have a := List.find?_some h
  have b := List.mem_of_find?_eq_some h
  exact ⟨List.mem_range.mp b, (of_decide_eq_true a).symm⟩
theorem numIn_num {n : Nat} (h : n < 100) : numIn (numS n) = some n := by
  cases e : numIn (numS n) with
  | some m => rw [numS_inj (numIn_some e).2]
  | none =>
    have := List.find?_eq_none.mp e n (List.mem_range.mpr h)
    simp at this
theorem numV_num {n : Nat} (h : n < 100) : numV (numS n) = .int (n : Int) := by unfold numV; rw [numIn_num h]
theorem num_two : ∀ n : Fin 100, 1 ≤ (numS n.val).length ∧ (numS n.val).length ≤ 2 ∧ (numS n.val).cps.toList.all (fun c => decide (48 ≤ c) && decide (c ≤ 57)) = true := by decide +kernel
theorem numIn_odd {x : Str} (h : ¬ (1 ≤ x.length ∧ x.length ≤ 2 ∧ x.cps.toList.all (fun c => decide (48 ≤ c) && decide (c ≤ 57)) = true)) : numV x = .non := by
  unfold numV
  cases e : numIn x with
  | none => rfl
  | some n =>
    obtain ⟨a, rfl⟩ := numIn_some e
    exact absurd (num_two ⟨n, a⟩) h
theorem num_one : ∀ a : Fin 10, numV ⟨#[48 + a.val]⟩ = .int (a.val : Nat) ∧ intText? ⟨#[48 + a.val]⟩ = some ((a.val : Nat) : Int) := by decide +kernel
theorem num_pair : ∀ a b : Fin 10, (numV ⟨#[48 + a.val, 48 + b.val]⟩ = if a.val = 0 then .non else .int ((10 * a.val + b.val : Nat) : Int)) ∧ intText? ⟨#[48 + a.val, 48 + b.val]⟩ = some ((10 * a.val + b.val : Nat) : Int) := by decide +kernel
theorem digits_mem (c : Nat) : c ∈ ((("0123456789" : String) : Str)).cps.toList ↔ 48 ≤ c ∧ c ≤ 57 := by
  have e : ((("0123456789" : String) : Str)).cps.toList = [48, 49, 50, 51, 52, 53, 54, 55, 56, 57] := by decide +kernel
  rw [e]
  simp only [List.mem_cons, List.mem_nil_iff, or_false]
  omega
section
variable {K : PySem.W.Frag} {σ : L2.St} {H1 : Hp} {tt : TT} {te : TE} {vs : List Nat} {Dl : Addr} {Q : VK}
theorem lc_str {x : Str} {j : Nat} (keep : Nat → Bool) (f : Nat → V) (hD : H1 Dl = none) (hn : x.cps.size ≤ 100000)
    (hw : ∀ u : V, wipe ((wipe σ vs).set j (some u)) vs = wipe σ vs)
    (ht : ∀ i c, x.cps.toList[i]? = some c → Evl.EvT tt ((wipe σ vs).set j (some (.str ⟨#[c]⟩))) H1 (keep i))
    (he : ∀ i c, x.cps.toList[i]? = some c → keep i = true → Evl.Ev te ((wipe σ vs).set j (some (.str ⟨#[c]⟩))) H1 (f i))
    (hd : ∀ H', Evl.Ex H1 H' → H' Dl = some (.lst (kept x.cps.size keep f)) → Q (.ref Dl) H') : LcG (Its x) (gName j) tt te vs σ Dl H1 Q := by
  have at' : ∀ i, i < x.cps.size → x.cps.toList[i]? = some (x.cps.toList.getD i 0) := fun i hi => by
    rw [List.getD_eq_getElem?_getD, List.getElem?_eq_getElem (by simpa using hi)]
    rfl
  refine lc_pure x.cps.size (fun i => (wipe σ vs).set j (some (.str ⟨#[x.cps.toList.getD i 0]⟩))) keep f hD hn (fun H' e => Nat.le_refl _) (fun i H' hi e => hi)
    (fun i H' x' H'' QG hi e y q => ?_) (fun i hi => hw _) (fun i hi => ht i _ (at' i hi)) (fun i hi => he i _ (at' i hi)) hd
  obtain ⟨rfl, c, hc, rfl⟩ := y
  have e1 : x.cps.toList.getD i 0 = c := by
    rw [List.getD_eq_getElem?_getD, Array.getElem?_toList, hc]
    rfl
  show QG _ _
  rw [← e1]
  exact q (Evl.Ex.refl _)
end
theorem x_inS {c : Nat} {z : Str} {H : Hp} {Q : VK} : rInS (.str ⟨#[c]⟩) (.str z) H Q ↔ Q (.bl (decide (c ∈ z.cps.toList))) H := ⟨fun ⟨i, j, e1, e2, q⟩ => by cases e1; cases e2; exact q, fun q => ⟨c, z, rfl, rfl, q⟩⟩
/-- a str that is cut -/
def rSplit : V → List V → Hp → VK → Prop := fun x xs H Q => ∃ a b, x = .str a ∧ xs = [.str b] ∧ (b.length == 0) = false ∧ a.length + 2 ≤ sizeLine ∧ ∀ p, H p = none → Q (.ref p) (upd H p (.lst ((Txt.split a b).map V.str)))
theorem k_split {X : Cx} : MtR X "str.split" rSplit := mt_split
def rAddS : R2 := fun x y H Q => ∃ i j, x = .str i ∧ y = .str j ∧ i.length + j.length ≤ sizeLine ∧ Q (.str (i ++ j)) H
theorem k_addS {X : Cx} : OpR X (binaryOp .Add) rAddS := op_add_str
theorem x_addS {i j : Str} {H : Hp} {Q : VK} : rAddS (.str i) (.str j) H Q ↔ i.length + j.length ≤ sizeLine ∧ Q (.str (i ++ j)) H := ⟨fun ⟨i, j, e1, e2, q⟩ => by cases e1; cases e2; exact q, fun q => ⟨i, j, rfl, rfl, q⟩⟩
def rIntS : List V → Hp → VK → Prop := fun xs H Q => ∃ a n, xs = [.str a] ∧ PySem.intText? a = some n ∧ a.length ≤ 640 ∧ Q (.int n) H
theorem k_intS {X : Cx} : CallR X (.type "int") rIntS := call_int_str
end BC

set_option Elab.async false
set_option linter.all false
set_option maxRecDepth 100000
set_option maxHeartbeats 4000000
/-! strings of trails, cut and read; list.count of flat values -/
namespace BC
open PySem PySem.Spec PyProof.Rows L2 Evl
/-! ### list.count of flat values -/
def rCntF (K : PySem.W.Frag) : V → List V → Hp → VK → Prop := fun x xs H Q => ∃ (a : Addr) (ys : List V) (y : V), x = .ref a ∧ xs = [y] ∧ SqL K H a ys ∧ flatV y = true ∧ ys.all flatV = true ∧ Q (.int ((ys.countP fun z => eqV z y : Nat) : Int)) H
theorem cnt_flat {y : V} : ∀ {ys : List V} {us : List Value}, Vals ys us → ys.all flatV = true → us.countP (eqU y) = ys.countP fun z => eqV z y
  | [], _, .nil, _ => rfl
  | z :: ys, _, .cons r rs, f => by
    rw [List.all_cons, Bool.and_eq_true] at f
    rw [List.countP_cons, List.countP_cons, cnt_flat rs f.2, eqU_of r f.1]
theorem k_cntF {X : Cx} {K : PySem.W.Frag} (hK : X.K = K) : MtR X "list.count" (rCntF K) := by
  subst hK
  intro pins s σ H x xs v us Q I rx rxs h
  obtain ⟨a, ys, y, rfl, rfl, hs, fy, fys, q⟩ := h
  cases rx
  cases rxs with
  | cons ry rt =>
    rename_i uy ut
    cases rt
    obtain ⟨its, rv, ⟨⟨cls, dd, data, sl⟩, n, ho, hc, hdn, hd⟩, hlen⟩ := I.list hs
    simp only at hc hd
    subst hc hd
    refine call_meets PySem.F.slot_list_count ⟨_, ho, rfl⟩ PySem.F.entry_list_count (PySem.F.args_list_count_2 _ _)
      (SeqAt.list_countAt a its.toArray n dd sl uy (eqU y)) ⟨ho, fun u' hu' => mem_eqAt ry fy rv fys u' (by simpa using hu'), ?_⟩
    have ec : its.toArray.toList.countP (eqU y) = ys.countP fun z => eqV z y := cnt_flat rv fys
    refine ⟨.int ((ys.countP fun z => eqV z y : Nat) : Int), H, I.tok _, ⟨s.toks, ?_⟩, q⟩
    show Value.int ((its.toArray.toList.countP (eqU y) : Nat) : Int) s.toks = _
    rw [ec]
/-! ### lengths -/
def totL (ps : List Str) : Nat := (ps.map (·.length)).sum
theorem totL_app (a b : List Str) : totL (a ++ b) = totL a + totL b := by unfold totL; rw [List.map_append, List.sum_append]
theorem totL_rev (a : List Str) : totL a.reverse = totL a := by
  unfold totL
  rw [List.map_reverse, List.sum_reverse]
theorem totL_take (a : List Str) (n : Nat) : totL (a.take n) ≤ totL a := by
  have := totL_app (a.take n) (a.drop n)
  rw [List.take_append_drop] at this
  omega
theorem totL_drop (a : List Str) (n : Nat) : totL (a.drop n) ≤ totL a := by
  have := totL_app (a.take n) (a.drop n)
  rw [List.take_append_drop] at this
  omega
theorem join_length (y : Str) : ∀ {ps : List Str}, ps ≠ [] → (Str.join y ps).length = totL ps + (ps.length - 1) * y.length
  | [], h => absurd rfl h
  | [p], _ => by
    show p.length = _
    unfold totL
    simp
  | p :: q :: r, _ => by
    have ih := join_length y (ps := q :: r) (by simp)
    show (p ++ y ++ Str.join y (q :: r)).length = _
    rw [Str.length_append, Str.length_append, ih]
    have e : totL (p :: q :: r) = p.length + totL (q :: r) := by unfold totL; rw [List.map_cons, List.sum_cons]
    rw [e]
    have l : (p :: q :: r).length - 1 = ((q :: r).length - 1) + 1 := by simp
    rw [l, Nat.succ_mul]
    omega
theorem split_ne (x y : Str) (h : 1 ≤ x.length ∨ Txt.split x y ≠ []) : Txt.split x y ≠ [] := by
  rcases h with h | h
  · intro e
    have := StrLaws.join_split x y
    rw [e] at this
    have : x.length = 0 := by rw [← this]; rfl
    omega
  · exact h
theorem split_sum (x y : Str) : totL (Txt.split x y) ≤ x.length ∧ ((Txt.split x y).length - 1) * y.length ≤ x.length := by
  by_cases h : Txt.split x y = []
  · rw [h]
    exact ⟨Nat.zero_le _, by simp⟩
  · have a := StrLaws.join_split x y
    have b := join_length y h
    rw [a] at b
    omega
theorem split_len {x y : Str} (h : 1 ≤ y.length) : (Txt.split x y).length ≤ x.length + 1 := by
  have a := (split_sum x y).2
  have b : (Txt.split x y).length - 1 ≤ ((Txt.split x y).length - 1) * y.length := Nat.le_mul_of_pos_right _ h
  omega
theorem join_le (y : Str) (ps : List Str) : (Txt.join y ps).length ≤ totL ps + ps.length * y.length := by
  rw [TL.join_eq]
  by_cases h : ps = []
  · rw [h]; exact Nat.zero_le _
  · rw [join_length y h]
    have : (ps.length - 1) * y.length ≤ ps.length * y.length := Nat.mul_le_mul_right _ (by omega)
    omega
/-! ### trails that are read -/
abbrev NX : Str := ((" > " : String) : Str)
theorem tl_nx : TL.tl NX = [32, 62, 32] := by decide +kernel
def wordsT (x : Str) : List Str := if x = Str.empty then [] else Txt.split x NX
def ptGo : List Str → List Nat → Option (List Nat)
  | [], acc => some acc
  | x :: ws, acc => match numIn x with
    | some n => if n < 40 ∧ n ∉ acc then ptGo ws (acc ++ [n]) else none
    | none => none
def ptT (x : Str) : Option (List Nat) := ptGo (wordsT x) []
theorem wordsT_len {x : Str} (h : x.length ≤ 4000) : (wordsT x).length ≤ 1400 := by
  unfold wordsT
  split
  · exact Nat.zero_le _
  · have a := (split_sum x NX).2
    rw [show NX.length = 3 by decide] at a
    omega
theorem wordsT_word {x p : Str} (h : p ∈ wordsT x) : p.length ≤ x.length := by
  unfold wordsT at h
  split at h
  · simp at h
  · have a := (split_sum x NX).1
    have b : p.length ≤ totL (Txt.split x NX) := by
      obtain ⟨s, t, e⟩ := List.append_of_mem h
      rw [e, totL_app]
      have : totL (p :: t) = p.length + totL t := by unfold totL; rw [List.map_cons, List.sum_cons]
      omega
    omega
theorem ptGo_ok : ∀ {ws : List Str} {acc L : List Nat}, acc.Nodup → (∀ n ∈ acc, n < 40) → ptGo ws acc = some L → L.Nodup ∧ (∀ n ∈ L, n < 40) ∧ ∃ M, L = acc ++ M ∧ ws = M.map numS
  | [], acc, L, nd, lt, h => by
    cases h
    exact ⟨nd, lt, [], by simp, rfl⟩
  | x :: ws, acc, L, nd, lt, h => by
    unfold ptGo at h
    cases e : numIn x with
    | none => rw [e] at h; cases h
    | some n =>
      rw [e] at h
      by_cases c : n < 40 ∧ n ∉ acc
      · simp only [c, not_false_eq_true, and_self, if_true] at h
        obtain ⟨a, b, M, m1, m2⟩ := ptGo_ok (ws := ws) (acc := acc ++ [n]) (L := L) (List.nodup_append.mpr ⟨nd, by simp, fun u hu v hv => by rw [List.mem_singleton.mp hv]; exact fun z => c.2 (z ▸ hu)⟩)
          (fun u hu => by
            rcases List.mem_append.mp hu with q | q
            · exact lt u q
            · rw [List.mem_singleton.mp q]; exact c.1) h
        refine ⟨a, b, n :: M, by rw [m1, List.append_assoc]; rfl, ?_⟩
        rw [List.map_cons, ← (numIn_some e).2, m2]
      · simp only [c, if_false] at h
        cases h
/-- read: the words write different pages -/
theorem ptGo_all {ws : List Str} {acc M : List Nat} (hw : ws = M.map numS) (lt : ∀ n ∈ M, n < 40) (nd : (acc ++ M).Nodup) : ptGo ws acc = some (acc ++ M) := by
  subst hw
  induction M generalizing acc with
  | nil => simp [ptGo]
  | cons n M ih =>
    rw [List.map_cons]
    unfold ptGo
    have n40 := lt n List.mem_cons_self
    rw [numIn_num (by omega)]
    have nn : n ∉ acc := fun m => by
      rw [List.nodup_append] at nd
      exact nd.2.2 n m n List.mem_cons_self rfl
    simp only [n40, nn, not_false_eq_true, and_self, if_true]
    have e : acc ++ n :: M = acc ++ [n] ++ M := by simp
    rw [e] at nd ⊢
    exact ih (fun u hu => lt u (List.mem_cons_of_mem _ hu)) nd
theorem ptT_some {x : Str} {L : List Nat} (h : ptT x = some L) : L.Nodup ∧ (∀ n ∈ L, n < 40) ∧ wordsT x = L.map numS := by
  obtain ⟨a, b, M, m1, m2⟩ := ptGo_ok List.nodup_nil (fun n hn => by simp at hn) h
  rw [List.nil_append] at m1
  subst m1
  exact ⟨a, b, m2⟩
theorem ptT_none {x : Str} (h : ptT x = none) {M : List Nat} (hw : wordsT x = M.map numS) (lt : ∀ n ∈ M, n < 40) : ¬ M.Nodup := fun nd => by
  have := ptGo_all (acc := []) hw lt (by simpa using nd)
  unfold ptT at h
  rw [this] at h
  cases h
theorem ptT_join {L : List Nat} (nd : L.Nodup) (lt : ∀ n ∈ L, n < 40) : ptT (Txt.join NX (L.map numS)) = some L := by
  refine (ptGo_all (acc := []) (M := L) ?_ lt (by simpa using nd)).trans (by simp)
  unfold wordsT
  cases L with
  | nil =>
    rw [List.map_nil, join_nil, if_pos rfl]
  | cons n M =>
    rw [if_neg]
    · exact TL.split_join tl_nx (by decide +kernel) (by simp) (fun p hp => by
        obtain ⟨x, _, rfl⟩ := List.mem_map.mp hp
        exact numS_free (by omega))
    · intro e
      have a := join_length NX (ps := (n :: M).map numS) (by simp)
      rw [← TL.join_eq, e] at a
      have b := (numS_len (n := n) (by have := lt n List.mem_cons_self; omega)).1
      have c : totL ((n :: M).map numS) = (numS n).length + totL (M.map numS) := by unfold totL; rw [List.map_cons, List.map_cons, List.sum_cons]
      rw [c] at a
      have d : Str.empty.length = 0 := by decide
      omega
/-! ### the words, made numbers -/
/-- is the value a page? -/
def isPg : V → Bool
  | .int n => decide (0 ≤ n) && decide (n ≤ 39)
  | _ => false
theorem numV_kind (x : Str) : numV x = .non ∨ ∃ n : Nat, n < 100 ∧ numV x = .int (n : Int) ∧ x = numS n := by
  unfold numV
  cases e : numIn x with
  | none => exact .inl rfl
  | some n =>
    obtain ⟨a, b⟩ := numIn_some e
    exact .inr ⟨n, a, rfl, b⟩
/-- all words are pages: they are numbers below 40 -/
theorem pages_of : ∀ {ws : List Str}, (ws.map numV).all isPg = true → ∃ M : List Nat, ws = M.map numS ∧ (∀ n ∈ M, n < 40) ∧ ws.map numV = (nz M).map V.int
  | [], _ => ⟨[], rfl, fun n h => by simp at h, rfl⟩
  | x :: ws, h => by
    rw [List.map_cons, List.all_cons, Bool.and_eq_true] at h
    obtain ⟨M, m1, m2, m3⟩ := pages_of h.2
    rcases numV_kind x with e | ⟨n, n1, e, rfl⟩
    · rw [e] at h
      exact absurd h.1 (by decide)
    · rw [e] at h
      have h1 : (decide ((0 : Int) ≤ (n : Int)) && decide (((n : Nat) : Int) ≤ 39)) = true := h.1
      rw [Bool.and_eq_true, decide_eq_true_eq, decide_eq_true_eq] at h1
      refine ⟨n :: M, by rw [List.map_cons, m1], fun u hu => ?_, ?_⟩
      · rcases List.mem_cons.mp hu with rfl | hu
        · omega
        · exact m2 u hu
      · rw [List.map_cons, e, m3]
        rfl
theorem pages_are {M : List Nat} (h : ∀ n ∈ M, n < 40) : ((M.map numS).map numV).all isPg = true := by
  rw [List.all_eq_true]
  intro v hv
  rw [List.map_map] at hv
  obtain ⟨n, hn, rfl⟩ := List.mem_map.mp hv
  have := h n hn
  show isPg (numV (numS n)) = true
  rw [numV_num (by omega)]
  show (decide ((0 : Int) ≤ (n : Int)) && decide (((n : Nat) : Int) ≤ 39)) = true
  rw [decide_eq_true (by omega), decide_eq_true (by omega)]
  rfl
theorem numV_ints {M : List Nat} (h : ∀ n ∈ M, n < 40) : (M.map numS).map numV = (nz M).map V.int := by
  unfold nz
  rw [List.map_map, List.map_map]
  refine List.map_congr_left fun n hn => ?_
  have := h n hn
  exact numV_num (by omega)
end BC

set_option Elab.async false
set_option linter.all false
set_option maxRecDepth 100000
set_option maxHeartbeats 4000000
namespace LW
open PySem PySem.Spec PyProof.Rows L2 BC Evl TR
def topS (i : Nat) : Stmt := PySem.Challenge.pw_breadcrumbs_k47_errors_of_loops.main.body.getD i (.Pass ⟨0, 0, 0, 0⟩)
abbrev s_is_integer : Stmt := topS 14
theorem sc_is_integer : FnScope ["value", "least", "most"] ["value", "least", "most"] (defScope s_is_integer) := ⟨rfl, rfl, rfl, by decide +kernel, rfl, by decide +kernel, by decide +kernel⟩
abbrev s_check_number : Stmt := topS 15
theorem sc_check_number : FnScope ["value", "least", "most"] ["value", "least", "most"] (defScope s_check_number) := ⟨rfl, rfl, rfl, by decide +kernel, rfl, by decide +kernel, by decide +kernel⟩
abbrev s_is_row : Stmt := topS 16
theorem sc_is_row : FnScope ["value", "page", "many", "other"] ["value", "page", "many"] (defScope s_is_row) := ⟨rfl, rfl, rfl, by decide +kernel, rfl, by decide +kernel, by decide +kernel⟩
abbrev s_is_site : Stmt := topS 17
theorem sc_is_site : FnScope ["value", "page", "row"] ["value"] (defScope s_is_site) := ⟨rfl, rfl, rfl, by decide +kernel, rfl, by decide +kernel, by decide +kernel⟩
abbrev s_check_site : Stmt := topS 18
theorem sc_check_site : FnScope ["site"] ["site"] (defScope s_check_site) := ⟨rfl, rfl, rfl, by decide +kernel, rfl, by decide +kernel, by decide +kernel⟩
abbrev s_check_page : Stmt := topS 19
theorem sc_check_page : FnScope ["site", "page"] ["site", "page"] (defScope s_check_page) := ⟨rfl, rfl, rfl, by decide +kernel, rfl, by decide +kernel, by decide +kernel⟩
abbrev s_check_pages : Stmt := topS 20
theorem sc_check_pages : FnScope ["site", "pages", "page"] ["site", "pages"] (defScope s_check_pages) := ⟨rfl, rfl, rfl, by decide +kernel, rfl, by decide +kernel, by decide +kernel⟩
abbrev s_times : Stmt := topS 23
theorem sc_times : FnScope ["one", "two", "most", "found", "place", "number", "spot", "factor"] ["one", "two", "most"] (defScope s_times) := ⟨rfl, rfl, rfl, by decide +kernel, rfl, by decide +kernel, by decide +kernel⟩
abbrev s_returns_to : Stmt := topS 24
theorem sc_returns_to : FnScope ["site", "page", "barred", "most", "free", "found", "step", "other", "number", "near"] ["site", "page", "barred", "most"] (defScope s_returns_to) := ⟨rfl, rfl, rfl, by decide +kernel, rfl, by decide +kernel, by decide +kernel⟩
abbrev s_closed_in : Stmt := topS 25
theorem sc_closed_in : FnScope ["site", "page", "barred", "most"] ["site", "page", "barred", "most"] (defScope s_closed_in) := ⟨rfl, rfl, rfl, by decide +kernel, rfl, by decide +kernel, by decide +kernel⟩
abbrev s_parts_in : Stmt := topS 26
theorem sc_parts_in : FnScope ["site", "pages", "most", "place", "page"] ["site", "pages", "most"] (defScope s_parts_in) := ⟨rfl, rfl, rfl, by decide +kernel, rfl, by decide +kernel, by decide +kernel⟩
abbrev s_loops_in : Stmt := topS 27
theorem sc_loops_in : FnScope ["site", "pages", "most", "found", "part"] ["site", "pages", "most"] (defScope s_loops_in) := ⟨rfl, rfl, rfl, by decide +kernel, rfl, by decide +kernel, by decide +kernel⟩
abbrev s_closed_walks : Stmt := topS 28
theorem sc_closed_walks : FnScope ["site", "page", "barred", "most"] ["site", "page", "barred", "most"] (defScope s_closed_walks) := ⟨rfl, rfl, rfl, by decide +kernel, rfl, by decide +kernel, by decide +kernel⟩
abbrev s_loop_parts : Stmt := topS 29
theorem sc_loop_parts : FnScope ["site", "pages", "most"] ["site", "pages", "most"] (defScope s_loop_parts) := ⟨rfl, rfl, rfl, by decide +kernel, rfl, by decide +kernel, by decide +kernel⟩
abbrev s_loop_numbers : Stmt := topS 30
theorem sc_loop_numbers : FnScope ["site", "pages", "most"] ["site", "pages", "most"] (defScope s_loop_numbers) := ⟨rfl, rfl, rfl, by decide +kernel, rfl, by decide +kernel, by decide +kernel⟩
abbrev s_law_open_source : Stmt := topS 32
theorem sc_law_open_source : FnScope ["_law_script", "_law_k", "_law_cell"] ["_law_script", "_law_k"] (defScope s_law_open_source) := ⟨rfl, rfl, rfl, by decide +kernel, rfl, by decide +kernel, by decide +kernel⟩
abbrev s_law_draw : Stmt := topS 33
theorem sc_law_draw : FnScope ["_law_source", "_law_limit", "_law_mixed_here", "_law_digit"] ["_law_source", "_law_limit"] (defScope s_law_draw) := ⟨rfl, rfl, rfl, by decide +kernel, rfl, by decide +kernel, by decide +kernel⟩
abbrev s_law_site : Stmt := topS 34
theorem sc_law_site : FnScope ["_law_source", "_law_script", "_law_most", "_law_many", "_law_found", "_law_page", "_law_style", "_law_dense", "_law_row", "_law_near", "_law_by_chance", "_law_ways"] ["_law_source", "_law_script", "_law_most"] (defScope s_law_site) := ⟨rfl, rfl, rfl, by decide +kernel, rfl, by decide +kernel, by decide +kernel⟩
abbrev s_law_mixed : Stmt := topS 35
theorem sc_law_mixed : FnScope ["_law_source", "_law_things", "_law_left", "_law_turn"] ["_law_source", "_law_things"] (defScope s_law_mixed) := ⟨rfl, rfl, rfl, by decide +kernel, rfl, by decide +kernel, by decide +kernel⟩
abbrev s_law_some : Stmt := topS 36
theorem sc_law_some : FnScope ["_law_source", "_law_links", "_law_most"] ["_law_source", "_law_links", "_law_most"] (defScope s_law_some) := ⟨rfl, rfl, rfl, by decide +kernel, rfl, by decide +kernel, by decide +kernel⟩
abbrev s_law_kind : Stmt := topS 37
theorem sc_law_kind : FnScope ["_law_error_here", "_law_odd", "_law_kinds"] ["_law_error_here"] (defScope s_law_kind) := ⟨rfl, rfl, rfl, by decide +kernel, rfl, by decide +kernel, by decide +kernel⟩
abbrev s_law_no_site : Stmt := topS 38
theorem sc_law_no_site : FnScope ["_law_source", "_law_links", "_law_row", "_law_odd", "_law_some_here", "_law_at", "_law_size"] ["_law_source", "_law_links"] (defScope s_law_no_site) := ⟨rfl, rfl, rfl, by decide +kernel, rfl, by decide +kernel, by decide +kernel⟩
abbrev s_law_error : Stmt := topS 39
theorem sc_law_error : FnScope ["_law_door", "_law_links", "_law_one", "_law_two", "_law_three", "_law_caught", "_law_error_here"] ["_law_door", "_law_links", "_law_one", "_law_two", "_law_three"] (defScope s_law_error) := ⟨rfl, rfl, rfl, by decide +kernel, rfl, by decide +kernel, by decide +kernel⟩
abbrev s_law : Stmt := topS 40
theorem sc_law : FnScope ["_law_script", "_law_k", "_law_source", "_law_turn", "_law_links", "_law_some_here", "_law_away", "_law_wrong", "_law_lost", "_law_far", "_law_door", "_law_size", "_law_page", "_law_bad", "_law_kept", "_law_first", "_law_found", "_law_near"] ["_law_script"] (defScope s_law) := ⟨rfl, rfl, rfl, by decide +kernel, rfl, by decide +kernel, by decide +kernel⟩
structure Txt (K : PySem.W.Frag) (mg : Str → Option Value) where
  C_BreadcrumbsError : Addr
  g_BreadcrumbsError : mg "BreadcrumbsError" = some (.ref C_BreadcrumbsError)
  k_BreadcrumbsError : PySem.W.keepIn K (.ref C_BreadcrumbsError) = true
  x_BreadcrumbsError : PySem.W.excIn K C_BreadcrumbsError [.type "ValueError", .type "Exception", .type "BaseException", .type "object"] "ValueError.__new__" = true
  e_BreadcrumbsError : ExcC K C_BreadcrumbsError
  t_BreadcrumbsError : PySem.W.typeIn K (.ref C_BreadcrumbsError) = some (.type "type")
  b_BreadcrumbsError : PySem.W.subIn K (.ref C_BreadcrumbsError) (.type "BaseException") = some true
  r_BreadcrumbsError : MroIs K C_BreadcrumbsError [C_BreadcrumbsError]
  C_EmptyHistoryError : Addr
  g_EmptyHistoryError : mg "EmptyHistoryError" = some (.ref C_EmptyHistoryError)
  k_EmptyHistoryError : PySem.W.keepIn K (.ref C_EmptyHistoryError) = true
  x_EmptyHistoryError : PySem.W.excIn K C_EmptyHistoryError [.type "ValueError", .type "Exception", .type "BaseException", .type "object"] "ValueError.__new__" = true
  e_EmptyHistoryError : ExcC K C_EmptyHistoryError
  t_EmptyHistoryError : PySem.W.typeIn K (.ref C_EmptyHistoryError) = some (.type "type")
  b_EmptyHistoryError : PySem.W.subIn K (.ref C_EmptyHistoryError) (.type "BaseException") = some true
  r_EmptyHistoryError : MroIs K C_EmptyHistoryError [C_EmptyHistoryError, C_BreadcrumbsError]
  C_InvalidEffectError : Addr
  g_InvalidEffectError : mg "InvalidEffectError" = some (.ref C_InvalidEffectError)
  k_InvalidEffectError : PySem.W.keepIn K (.ref C_InvalidEffectError) = true
  x_InvalidEffectError : PySem.W.excIn K C_InvalidEffectError [.type "ValueError", .type "Exception", .type "BaseException", .type "object"] "ValueError.__new__" = true
  e_InvalidEffectError : ExcC K C_InvalidEffectError
  t_InvalidEffectError : PySem.W.typeIn K (.ref C_InvalidEffectError) = some (.type "type")
  b_InvalidEffectError : PySem.W.subIn K (.ref C_InvalidEffectError) (.type "BaseException") = some true
  r_InvalidEffectError : MroIs K C_InvalidEffectError [C_InvalidEffectError, C_BreadcrumbsError]
  C_InvalidFormatError : Addr
  g_InvalidFormatError : mg "InvalidFormatError" = some (.ref C_InvalidFormatError)
  k_InvalidFormatError : PySem.W.keepIn K (.ref C_InvalidFormatError) = true
  x_InvalidFormatError : PySem.W.excIn K C_InvalidFormatError [.type "ValueError", .type "Exception", .type "BaseException", .type "object"] "ValueError.__new__" = true
  e_InvalidFormatError : ExcC K C_InvalidFormatError
  t_InvalidFormatError : PySem.W.typeIn K (.ref C_InvalidFormatError) = some (.type "type")
  b_InvalidFormatError : PySem.W.subIn K (.ref C_InvalidFormatError) (.type "BaseException") = some true
  r_InvalidFormatError : MroIs K C_InvalidFormatError [C_InvalidFormatError, C_BreadcrumbsError]
  C_InvalidLengthsError : Addr
  g_InvalidLengthsError : mg "InvalidLengthsError" = some (.ref C_InvalidLengthsError)
  k_InvalidLengthsError : PySem.W.keepIn K (.ref C_InvalidLengthsError) = true
  x_InvalidLengthsError : PySem.W.excIn K C_InvalidLengthsError [.type "ValueError", .type "Exception", .type "BaseException", .type "object"] "ValueError.__new__" = true
  e_InvalidLengthsError : ExcC K C_InvalidLengthsError
  t_InvalidLengthsError : PySem.W.typeIn K (.ref C_InvalidLengthsError) = some (.type "type")
  b_InvalidLengthsError : PySem.W.subIn K (.ref C_InvalidLengthsError) (.type "BaseException") = some true
  r_InvalidLengthsError : MroIs K C_InvalidLengthsError [C_InvalidLengthsError, C_BreadcrumbsError]
  C_InvalidNumberError : Addr
  g_InvalidNumberError : mg "InvalidNumberError" = some (.ref C_InvalidNumberError)
  k_InvalidNumberError : PySem.W.keepIn K (.ref C_InvalidNumberError) = true
  x_InvalidNumberError : PySem.W.excIn K C_InvalidNumberError [.type "ValueError", .type "Exception", .type "BaseException", .type "object"] "ValueError.__new__" = true
  e_InvalidNumberError : ExcC K C_InvalidNumberError
  t_InvalidNumberError : PySem.W.typeIn K (.ref C_InvalidNumberError) = some (.type "type")
  b_InvalidNumberError : PySem.W.subIn K (.ref C_InvalidNumberError) (.type "BaseException") = some true
  r_InvalidNumberError : MroIs K C_InvalidNumberError [C_InvalidNumberError, C_BreadcrumbsError]
  C_InvalidPageError : Addr
  g_InvalidPageError : mg "InvalidPageError" = some (.ref C_InvalidPageError)
  k_InvalidPageError : PySem.W.keepIn K (.ref C_InvalidPageError) = true
  x_InvalidPageError : PySem.W.excIn K C_InvalidPageError [.type "ValueError", .type "Exception", .type "BaseException", .type "object"] "ValueError.__new__" = true
  e_InvalidPageError : ExcC K C_InvalidPageError
  t_InvalidPageError : PySem.W.typeIn K (.ref C_InvalidPageError) = some (.type "type")
  b_InvalidPageError : PySem.W.subIn K (.ref C_InvalidPageError) (.type "BaseException") = some true
  r_InvalidPageError : MroIs K C_InvalidPageError [C_InvalidPageError, C_BreadcrumbsError]
  C_InvalidPagesError : Addr
  g_InvalidPagesError : mg "InvalidPagesError" = some (.ref C_InvalidPagesError)
  k_InvalidPagesError : PySem.W.keepIn K (.ref C_InvalidPagesError) = true
  x_InvalidPagesError : PySem.W.excIn K C_InvalidPagesError [.type "ValueError", .type "Exception", .type "BaseException", .type "object"] "ValueError.__new__" = true
  e_InvalidPagesError : ExcC K C_InvalidPagesError
  t_InvalidPagesError : PySem.W.typeIn K (.ref C_InvalidPagesError) = some (.type "type")
  b_InvalidPagesError : PySem.W.subIn K (.ref C_InvalidPagesError) (.type "BaseException") = some true
  r_InvalidPagesError : MroIs K C_InvalidPagesError [C_InvalidPagesError, C_BreadcrumbsError]
  C_InvalidSiteError : Addr
  g_InvalidSiteError : mg "InvalidSiteError" = some (.ref C_InvalidSiteError)
  k_InvalidSiteError : PySem.W.keepIn K (.ref C_InvalidSiteError) = true
  x_InvalidSiteError : PySem.W.excIn K C_InvalidSiteError [.type "ValueError", .type "Exception", .type "BaseException", .type "object"] "ValueError.__new__" = true
  e_InvalidSiteError : ExcC K C_InvalidSiteError
  t_InvalidSiteError : PySem.W.typeIn K (.ref C_InvalidSiteError) = some (.type "type")
  b_InvalidSiteError : PySem.W.subIn K (.ref C_InvalidSiteError) (.type "BaseException") = some true
  r_InvalidSiteError : MroIs K C_InvalidSiteError [C_InvalidSiteError, C_BreadcrumbsError]
  C_InvalidTrailError : Addr
  g_InvalidTrailError : mg "InvalidTrailError" = some (.ref C_InvalidTrailError)
  k_InvalidTrailError : PySem.W.keepIn K (.ref C_InvalidTrailError) = true
  x_InvalidTrailError : PySem.W.excIn K C_InvalidTrailError [.type "ValueError", .type "Exception", .type "BaseException", .type "object"] "ValueError.__new__" = true
  e_InvalidTrailError : ExcC K C_InvalidTrailError
  t_InvalidTrailError : PySem.W.typeIn K (.ref C_InvalidTrailError) = some (.type "type")
  b_InvalidTrailError : PySem.W.subIn K (.ref C_InvalidTrailError) (.type "BaseException") = some true
  r_InvalidTrailError : MroIs K C_InvalidTrailError [C_InvalidTrailError, C_BreadcrumbsError]
  C_InvalidVisitsError : Addr
  g_InvalidVisitsError : mg "InvalidVisitsError" = some (.ref C_InvalidVisitsError)
  k_InvalidVisitsError : PySem.W.keepIn K (.ref C_InvalidVisitsError) = true
  x_InvalidVisitsError : PySem.W.excIn K C_InvalidVisitsError [.type "ValueError", .type "Exception", .type "BaseException", .type "object"] "ValueError.__new__" = true
  e_InvalidVisitsError : ExcC K C_InvalidVisitsError
  t_InvalidVisitsError : PySem.W.typeIn K (.ref C_InvalidVisitsError) = some (.type "type")
  b_InvalidVisitsError : PySem.W.subIn K (.ref C_InvalidVisitsError) (.type "BaseException") = some true
  r_InvalidVisitsError : MroIs K C_InvalidVisitsError [C_InvalidVisitsError, C_BreadcrumbsError]
  nd : [C_BreadcrumbsError, C_EmptyHistoryError, C_InvalidEffectError, C_InvalidFormatError, C_InvalidLengthsError, C_InvalidNumberError, C_InvalidPageError, C_InvalidPagesError, C_InvalidSiteError, C_InvalidTrailError, C_InvalidVisitsError].Nodup
  f_is_integer : Addr
  fd_is_integer : FuncData
  F_is_integer : Fun K "is_integer" "is_integer" s_is_integer f_is_integer fd_is_integer
  m_is_integer : mg "is_integer" = some (.ref f_is_integer)
  b_is_integer : Binds K fd_is_integer ["value", "least", "most"] []
  f_check_number : Addr
  fd_check_number : FuncData
  F_check_number : Fun K "check_number" "check_number" s_check_number f_check_number fd_check_number
  m_check_number : mg "check_number" = some (.ref f_check_number)
  b_check_number : Binds K fd_check_number ["value", "least", "most"] []
  f_is_row : Addr
  fd_is_row : FuncData
  F_is_row : Fun K "is_row" "is_row" s_is_row f_is_row fd_is_row
  m_is_row : mg "is_row" = some (.ref f_is_row)
  b_is_row : Binds K fd_is_row ["value", "page", "many"] []
  f_is_site : Addr
  fd_is_site : FuncData
  F_is_site : Fun K "is_site" "is_site" s_is_site f_is_site fd_is_site
  m_is_site : mg "is_site" = some (.ref f_is_site)
  b_is_site : Binds K fd_is_site ["value"] []
  f_check_site : Addr
  fd_check_site : FuncData
  F_check_site : Fun K "check_site" "check_site" s_check_site f_check_site fd_check_site
  m_check_site : mg "check_site" = some (.ref f_check_site)
  b_check_site : Binds K fd_check_site ["site"] []
  f_check_page : Addr
  fd_check_page : FuncData
  F_check_page : Fun K "check_page" "check_page" s_check_page f_check_page fd_check_page
  m_check_page : mg "check_page" = some (.ref f_check_page)
  b_check_page : Binds K fd_check_page ["site", "page"] []
  f_check_pages : Addr
  fd_check_pages : FuncData
  F_check_pages : Fun K "check_pages" "check_pages" s_check_pages f_check_pages fd_check_pages
  m_check_pages : mg "check_pages" = some (.ref f_check_pages)
  b_check_pages : Binds K fd_check_pages ["site", "pages"] []
  f_times : Addr
  fd_times : FuncData
  F_times : Fun K "times" "times" s_times f_times fd_times
  m_times : mg "times" = some (.ref f_times)
  b_times : Binds K fd_times ["one", "two", "most"] []
  f_returns_to : Addr
  fd_returns_to : FuncData
  F_returns_to : Fun K "returns_to" "returns_to" s_returns_to f_returns_to fd_returns_to
  m_returns_to : mg "returns_to" = some (.ref f_returns_to)
  b_returns_to : Binds K fd_returns_to ["site", "page", "barred", "most"] []
  f_closed_in : Addr
  fd_closed_in : FuncData
  F_closed_in : Fun K "closed_in" "closed_in" s_closed_in f_closed_in fd_closed_in
  m_closed_in : mg "closed_in" = some (.ref f_closed_in)
  b_closed_in : Binds K fd_closed_in ["site", "page", "barred", "most"] []
  f_parts_in : Addr
  fd_parts_in : FuncData
  F_parts_in : Fun K "parts_in" "parts_in" s_parts_in f_parts_in fd_parts_in
  m_parts_in : mg "parts_in" = some (.ref f_parts_in)
  b_parts_in : Binds K fd_parts_in ["site", "pages", "most"] []
  f_loops_in : Addr
  fd_loops_in : FuncData
  F_loops_in : Fun K "loops_in" "loops_in" s_loops_in f_loops_in fd_loops_in
  m_loops_in : mg "loops_in" = some (.ref f_loops_in)
  b_loops_in : Binds K fd_loops_in ["site", "pages", "most"] []
  f_closed_walks : Addr
  fd_closed_walks : FuncData
  F_closed_walks : Fun K "closed_walks" "closed_walks" s_closed_walks f_closed_walks fd_closed_walks
  m_closed_walks : mg "closed_walks" = some (.ref f_closed_walks)
  b_closed_walks : Binds K fd_closed_walks ["site", "page", "barred", "most"] []
  f_loop_parts : Addr
  fd_loop_parts : FuncData
  F_loop_parts : Fun K "loop_parts" "loop_parts" s_loop_parts f_loop_parts fd_loop_parts
  m_loop_parts : mg "loop_parts" = some (.ref f_loop_parts)
  b_loop_parts : Binds K fd_loop_parts ["site", "pages", "most"] []
  f_loop_numbers : Addr
  fd_loop_numbers : FuncData
  F_loop_numbers : Fun K "loop_numbers" "loop_numbers" s_loop_numbers f_loop_numbers fd_loop_numbers
  m_loop_numbers : mg "loop_numbers" = some (.ref f_loop_numbers)
  b_loop_numbers : Binds K fd_loop_numbers ["site", "pages", "most"] []
  f_law_open_source : Addr
  fd_law_open_source : FuncData
  F_law_open_source : Fun K "_law_open_source" "_law_open_source" s_law_open_source f_law_open_source fd_law_open_source
  m_law_open_source : mg "_law_open_source" = some (.ref f_law_open_source)
  b_law_open_source : Binds K fd_law_open_source ["_law_script", "_law_k"] []
  f_law_draw : Addr
  fd_law_draw : FuncData
  F_law_draw : Fun K "_law_draw" "_law_draw" s_law_draw f_law_draw fd_law_draw
  m_law_draw : mg "_law_draw" = some (.ref f_law_draw)
  b_law_draw : Binds K fd_law_draw ["_law_source", "_law_limit"] []
  f_law_site : Addr
  fd_law_site : FuncData
  F_law_site : Fun K "_law_site" "_law_site" s_law_site f_law_site fd_law_site
  m_law_site : mg "_law_site" = some (.ref f_law_site)
  b_law_site : Binds K fd_law_site ["_law_source", "_law_script", "_law_most"] []
  f_law_mixed : Addr
  fd_law_mixed : FuncData
  F_law_mixed : Fun K "_law_mixed" "_law_mixed" s_law_mixed f_law_mixed fd_law_mixed
  m_law_mixed : mg "_law_mixed" = some (.ref f_law_mixed)
  b_law_mixed : Binds K fd_law_mixed ["_law_source", "_law_things"] []
  f_law_some : Addr
  fd_law_some : FuncData
  F_law_some : Fun K "_law_some" "_law_some" s_law_some f_law_some fd_law_some
  m_law_some : mg "_law_some" = some (.ref f_law_some)
  b_law_some : Binds K fd_law_some ["_law_source", "_law_links", "_law_most"] []
  f_law_kind : Addr
  fd_law_kind : FuncData
  F_law_kind : Fun K "_law_kind" "_law_kind" s_law_kind f_law_kind fd_law_kind
  m_law_kind : mg "_law_kind" = some (.ref f_law_kind)
  b_law_kind : Binds K fd_law_kind ["_law_error_here"] []
  f_law_no_site : Addr
  fd_law_no_site : FuncData
  F_law_no_site : Fun K "_law_no_site" "_law_no_site" s_law_no_site f_law_no_site fd_law_no_site
  m_law_no_site : mg "_law_no_site" = some (.ref f_law_no_site)
  b_law_no_site : Binds K fd_law_no_site ["_law_source", "_law_links"] []
  f_law_error : Addr
  fd_law_error : FuncData
  F_law_error : Fun K "_law_error" "_law_error" s_law_error f_law_error fd_law_error
  m_law_error : mg "_law_error" = some (.ref f_law_error)
  b_law_error : Binds K fd_law_error ["_law_door", "_law_links", "_law_one", "_law_two", "_law_three"] []
  f_law : Addr
  fd_law : FuncData
  F_law : Fun K "law" "law" s_law f_law fd_law
  m_law : mg "law" = some (.ref f_law)
  b_law : Binds K fd_law ["_law_script"] []
  t_MOST_PAGES : Tok
  c_MOST_PAGES : mg "MOST_PAGES" = some (.int 12 t_MOST_PAGES)
  t_MOST_STEPS : Tok
  c_MOST_STEPS : mg "MOST_STEPS" = some (.int 60 t_MOST_STEPS)
  n_ValueError : mg "ValueError" = none
  n_abs : mg "abs" = none
  n_all : mg "all" = none
  n_bool : mg "bool" = none
  n_enumerate : mg "enumerate" = none
  n_int : mg "int" = none
  n_isinstance : mg "isinstance" = none
  n_len : mg "len" = none
  n_list : mg "list" = none
  n_max : mg "max" = none
  n_min : mg "min" = none
  n_range : mg "range" = none
  n_repr : mg "repr" = none
  n_set : mg "set" = none
  n_sorted : mg "sorted" = none
  n_sum : mg "sum" = none
  n_tuple : mg "tuple" = none
local macro_rules | `(tactic| walk_at "sx") => `(tactic| try simp only [x_callF2, x_seq, x_next, x_brk, x_cnt, x_nev, x_ret, x_retN, x_drop, x_ifS, x_asg, x_gn, x_gsub, x_par, x_par3, x_aug, x_for, x_lc, x_rng1, x_rng2, x_rng3, x_ilist, x_itup, x_ienum, x_izip, x_izipA, x_istr, x_var, x_c, x_op, x_un, x_test, x_b, x_chain, x_and, x_or, x_not, x_andV, x_orV, x_notV, x_ife, x_nil, x_cons, x_lst, x_tup, x_cb, x_call, x_callK, x_callS, x_bm, x_bm0, x_tru, x_sl, x_nopart, x_part, x_revL, x_I0, x_I, x_U, x_ip, x_ipC, x_eqI, x_neI, x_eqB, x_neB, x_eqS, x_neS, x_isB, x_isNB, x_lrg, x_gall, x_lenSet, x_augS, x_sortSet, x_sortSetB, x_lenSetA, x_rg1, x_rg2,
  L2.start, List.map_cons, List.map_nil, List.length_cons, List.length_nil, Nat.reduceAdd, Nat.reduceSub, Nat.sub_self, Nat.zero_add, List.replicate, List.replicate_succ, List.replicate_zero, List.append_nil, List.cons_append, List.nil_append, List.set_cons_zero, List.set_cons_succ, List.getElem?_cons_zero, List.getElem?_cons_succ, Option.some.injEq, V.int.injEq, V.bl.injEq, V.ref.injEq, V.str.injEq, List.cons.injEq, and_true, true_and, exists_eq_left', exists_eq_left, exists_and_left, exists_eq, if_true, if_false, ite_true, ite_false, Bool.true_eq_false, Bool.false_eq_true, reduceIte, reduceCtorEq, Bool.not_true, Bool.not_false, decide_true, decide_false, decide_eq_true_eq, Bool.and_true, Bool.true_and, Bool.and_self, Bool.and_false, Bool.false_and, Bool.or_self, Bool.or_false, Bool.false_or, Bool.or_true, Bool.true_or, eq_self])
section
variable {P : Program} {w : World} {K : PySem.W.Frag} {mg : Str → Option Value} {base : Heap}
/-- a value with its type: a number, or what is none -/
inductive Kd (K : PySem.W.Frag) (H : Hp) : V → Prop
  | int (i : Int) : Kd K H (.int i)
  | bl (b : Bool) : Kd K H (.bl b)
  | odd {v : V} {t : Value} (h : TyX K H v t) (n : PySem.W.kitOne K t (.type "int") = some false) : Kd K H v
def inR (lo hi : Int) : V → Bool
  | .int i => decide (lo ≤ i) && decide (i ≤ hi)
  | _ => false
def spIsInt (K : PySem.W.Frag) : Sp := fun vs H Q _ => ∃ (v : V) (lo hi : Int), vs = [v, .int lo, .int hi] ∧ Kd K H v ∧ Q (.bl (inR lo hi v)) H
theorem ok_is_integer (T : Txt K mg) : FnOk P w K mg base CX0 1 T.f_is_integer T.fd_is_integer ["value", "least", "most"] (spIsInt K) := by
  refine T.F_is_integer.ok sc_is_integer (fun vs H Q E h => ?_) (fun cdv A outer s H vs Q E hr h => ?_)
  · obtain ⟨v, lo, hi, rfl, _⟩ := h
    rfl
  · obtain ⟨v, lo, hi, rfl, kd, k⟩ := h
    apply Exists.intro
    apply And.intro
    · apply pss_one
      exact (ps_ret (pe_and (pe_callB (k_isi (K := K) rfl) (by rfl) T.n_isinstance (by decide +kernel) (pa_cons (pv 0) (pa_cons (pe_bltn (v := .ty "int") (by rfl) T.n_int (by decide +kernel) rfl) pa_nil))) (pe_and (pe_not (pe_callB (k_isi (K := K) rfl) (by rfl) T.n_isinstance (by decide +kernel) (pa_cons (pv 0) (pa_cons (pe_bltn (v := .ty "bool") (by rfl) T.n_bool (by decide +kernel) rfl) pa_nil)))) (pe_one (pe_chain op_le op_le (pv 1) (pv 0) (pv 2))))))
    walk_at "sx"
    cases kd with
    | int i =>
      refine isi_int (b := true) (by decide +kernel) ?_
      walk_at "sx"
      refine isi_int (b := false) (by decide +kernel) ?_
      have k' : Q (.bl (decide (lo ≤ i) && decide (i ≤ hi))) H := k
      walk_at "sx"
      by_cases h1 : lo ≤ i
      · simpa [h1] using k'
      · simpa [h1] using k'
    | bl b =>
      refine ⟨.bl b, .ty "int", .type "bool", .type "int", true, rfl, .ty "int", .base (.bl b), kit_ty (by decide +kernel), ?_⟩
      walk_at "sx"
      refine ⟨.bl b, .ty "bool", .type "bool", .type "bool", true, rfl, .ty "bool", .base (.bl b), kit_ty (by decide +kernel), ?_⟩
      walk_at "sx"
      exact k
    | odd ty n =>
      refine ⟨v, .ty "int", _, .type "int", false, rfl, .ty "int", ty, n, ?_⟩
      have e : inR lo hi v = false := by
        cases v with
        | int i =>
          cases ty with
          | base h => cases h; exact absurd n (by rw [kit_ty (r := true) (by decide +kernel)]; simp)
        | _ => rfl
      rw [e] at k
      walk_at "sx"
      exact k
def spIsPage (K : PySem.W.Frag) : Sp := fun vs H Q _ => ∃ v, vs = [v] ∧ Kd K H v ∧ Q (.bl (inR 0 39 v)) H
theorem Kd.of {K : PySem.W.Frag} {H : Hp} {v : V} {t : Value} (h : TyX K H v t) (n : PySem.W.kitOne K t (.type "int") = some false) : Kd K H v := .odd h n
theorem kd_non {K : PySem.W.Frag} {H : Hp} : Kd K H .non := .odd (.base .non) (kit_ty (by decide +kernel))
theorem kd_str {K : PySem.W.Frag} {H : Hp} (x : Str) : Kd K H (.str x) := .odd (.base (.str x)) (kit_ty (by decide +kernel))
theorem kd_lst {K : PySem.W.Frag} {H : Hp} {a : Addr} {xs : List V} (e : H a = some (.lst xs)) : Kd K H (.ref a) := .odd (.base (.lst e)) (kit_ty (by decide +kernel))
theorem kd_tup {K : PySem.W.Frag} {H : Hp} {a : Addr} {xs : List V} (e : H a = some (.tup xs)) : Kd K H (.ref a) := .odd (.base (.tup e)) (kit_ty (by decide +kernel))
theorem kd_dic {K : PySem.W.Frag} {H : Hp} {a : Addr} {xs : List (Key × V)} (e : H a = some (.dK xs)) : Kd K H (.ref a) := .odd (.base (.dK e)) (kit_ty (by decide +kernel))
end
/-! ### sites.py on any value -/
section
variable {P : Program} {w : World} {K : PySem.W.Frag} {mg : Str → Option Value} {base : Heap}
theorem inR_inD {H : Hp} {v : V} {d : PyData} {lo hi : Int} (h : De K H v d) : inR lo hi v = inD lo hi d := by
  cases h <;> rfl
theorem de_nums {H : Hp} {m : Int} : ∀ {xs : List V} {ds : List PyData}, DeAll K H xs ds → ds.all (inD 0 m) = true → xs = (ds.map numD).map V.int ∧ ∀ n ∈ ds.map numD, 0 ≤ n ∧ n ≤ m
  | _, [], .nil, _ => ⟨rfl, fun n h => by cases h⟩
  | x :: xs, d :: ds, .cons h1 h2, c => by
    rw [List.all_cons, Bool.and_eq_true] at c
    obtain ⟨e, hn⟩ := de_nums h2 c.2
    cases h1 with
    | int i =>
      have c1 := c.1
      simp [inD] at c1
      refine ⟨by rw [e]; rfl, fun n hn2 => ?_⟩
      rw [List.map_cons] at hn2
      rcases List.mem_cons.mp hn2 with rfl | q
      · exact c1
      · exact hn n q
    | _ => exact absurd c.1 (by simp [inD])
theorem de_kd {H : Hp} {v : V} {d : PyData} (h : De K H v d) : Kd K H v := by
  cases h with
  | non => exact kd_non
  | bl b => exact .bl b
  | int i => exact .int i
  | str x => exact kd_str x
  | lst h _ => exact .odd (tyx_l h) (kit_ty (by decide +kernel))
  | tup h _ => exact .odd (tyx_t h) (kit_ty (by decide +kernel))
  | dic h => exact kd_dic h
theorem pw_sorted {ns ms : List Int} (pw : ms.Pairwise (· < ·)) (mem : ∀ k : Int, k ∈ ms ↔ k ∈ ns) : (ns = ms) ↔ ns.Pairwise (· < ·) := by
  constructor
  · rintro rfl; exact pw
  · intro h; exact asc_same h pw fun k => (mem k).symm
theorem dbl {ds : List PyData} {f : PyData → Bool} : (List.range ds.length).map (fun i => f (ds.getD i .none)) = ds.map f := by
  apply List.ext_getElem
  · simp
  · intro i h1 h2
    simp at h1
    simp [List.getD_eq_getElem?_getD, h1]
theorem kept_ds {ds : List PyData} {n : Nat} (hn : n = ds.length) (f : PyData → Bool) : kept n (fun _ => true) (fun i => V.bl (f (ds.getD i .none))) = (ds.map f).map V.bl := by
  subst hn
  rw [kept_all, ← dbl, List.map_map]
  rfl
def spIsRow (K : PySem.W.Frag) : Sp := fun vs H Q _ => ∃ (v : V) (d : PyData) (i m : Nat), vs = [v, .int i, .int m] ∧ De K H v d ∧ m ≤ 12 ∧ (∀ ds, d = .list ds → ds.length ≤ 4000) ∧ ∀ H', Ex H H' → Q (.bl (isRowD i m d)) H'
theorem ok_is_row (T : Txt K mg) : FnOk P w K mg base CX0 2 T.f_is_row T.fd_is_row ["value", "page", "many"] (spIsRow K) := by
  refine T.F_is_row.ok sc_is_row (fun vs H Q E h => ?_) (fun cdv A outer s H vs Q E hr h => ?_)
  · obtain ⟨v, d, i, m, rfl, _⟩ := h
    rfl
  · obtain ⟨v, d, i, m, rfl, hd, hm, hl, k⟩ := h
    apply Exists.intro
    apply And.intro
    · apply pss_cons
      · apply ps_if
        · exact (PW.pt (pw_or (pt_not (pt_val (pe_callB (k_isi (K := K) rfl) (by rfl) T.n_isinstance (by decide +kernel) (pa_cons (pv 0) (pa_cons (pe_bltn (v := .ty "list") (by rfl) T.n_list (by decide +kernel) rfl) pa_nil))))) (pw_or1 (pt_not (pt_val (pe_callB (k_all (K := K) rfl rfl) (by rfl) T.n_all (by decide +kernel) (pa_cons (pe_lc (own := [("other", 3)]) rfl sc_is_row.nd (k_pi_list (K := K) rfl (pv 0)) (blkOk_by (own := [("other", 3)]) (N := ["value", "page", "many", "other"]) (sc := defScope s_is_row) (by decide +kernel)) (fun _ _ _ _ _ => by exact (pg_name (i := 3) sc_is_row.nd rfl (.inl rfl))) (fun _ _ _ _ _ => by exact pts_nil) (fun _ _ _ _ _ => by exact (pe_call (ok_is_integer T) (hr.mono (by decide)) (by rfl) T.m_is_integer T.F_is_integer.kp T.b_is_integer .nil pass0 (pa_cons (pv 3) (pa_cons pe_int (pa_cons (pe_op op_sub (pv 2) pe_int) pa_nil)))))) pa_nil)))))))
        · apply pss_one
          exact (ps_ret pe_bl)
        · exact pss_nil
      apply pss_one
      exact (ps_ret (pe_and (pe_cmpR (k_notIn (K := K) rfl) (pv 1) (pv 0) (by rfl)) (pe_one (pe_cmpR (k_eqD (K := K) rfl hr.units) (pv 0) (k_sortSetB (K := K) rfl (by rfl) T.n_sorted (by rfl) T.n_set (pv 0)) (by rfl)))))
    have k0 := k H (Ex.refl H)
    walk_at "sx"
    cases hd with
    | @lst a xs ds hA hx =>
      have ln := hx.len
      have hl := hl ds rfl
      refine isi_x (b := true) (tyx_l hA) (by decide +kernel) ?_
      walk_at "sx"
      refine ⟨⟨_, hA⟩, fun D nD => ?_⟩
      refine lc_list (xs := xs) (fun _ => true) (fun j => V.bl (inD 0 ((m : Int) - 1) (ds.getD j .none))) hA nD (by omega) (fun u => rfl) (fun j x _ => tyes) (fun j x hj _ => ?_) (fun H2 e2 hD => ?_)
      · obtain ⟨d, hdj, hde⟩ := hx.at hj
        intro H3 e3 R hR
        walk_at "sx"
        refine ⟨_, rfl, _, rfl, ?_⟩
        walk_at "sx"
        refine ⟨_, _, _, rfl, de_kd (De.ex e3 _ _ hde), ?_⟩
        rw [inR_inD hde, show d = ds.getD j .none by rw [List.getD_eq_getElem?_getD, hdj]; rfl]
        exact hR _ (Ex.refl _)
      · rw [kept_ds ln] at hD
        refine allL (.inl (.inl hD)) ?_
        rw [List.all_map]
        have ea : (id ∘ inD 0 ((m : Int) - 1)) = inD 0 ((m : Int) - 1) := rfl
        rw [ea]
        have hA2 := ex_l e2 hA
        cases c : ds.all (inD 0 ((m : Int) - 1)) with
        | false =>
          walk_at "sx"
          have := k _ e2
          rwa [show isRowD i m (.list ds) = false from if_neg (by rw [c]; simp)] at this
        | true =>
          obtain ⟨ex, hn⟩ := de_nums hx c
          have kk : ∀ H', Ex H H' → Q (.bl (decide ((i : Int) ∉ ds.map numD) && decide ((ds.map numD).Pairwise (· < ·)))) H' := fun H' e => by
            have := k H' e
            rwa [show isRowD i m (.list ds) = (decide ((i : Int) ∉ ds.map numD) && decide ((ds.map numD).Pairwise (· < ·))) from if_pos c] at this
          rw [ex] at hA2
          walk_at "sx"
          refine ninL hA2 ?_
          walk_at "sx"
          by_cases c2 : (i : Int) ∈ ds.map numD
          · rw [decide_eq_true c2]
            walk_at "sx"
            have := kk _ e2
            rwa [decide_eq_false (fun z => z c2), Bool.false_and] at this
          · rw [decide_eq_false c2]
            walk_at "sx"
            refine ⟨_, hA2, by rw [List.length_map]; omega, fun z hz => by have := hn z hz; omega, fun ms p pw mem np => ?_⟩
            have ep := Ex.new np (o := .lst (ms.map V.int))
            refine eqInts (ex_l ep hA2) (.inl (.inl upd_same)) ?_
            have := kk _ (e2.trans ep)
            rw [decide_eq_true (show (i : Int) ∉ ds.map numD from c2), Bool.true_and] at this
            rwa [decide_eq_decide.mpr (pw_sorted pw mem)]
    | non => exact isi_x (b := false) (.base .non) (by decide +kernel) (by walk_at "sx"; exact k0)
    | bl b => exact isi_x (b := false) (.base (.bl b)) (by decide +kernel) (by walk_at "sx"; exact k0)
    | int i => exact isi_x (b := false) (.base (.int i)) (by decide +kernel) (by walk_at "sx"; exact k0)
    | str x => exact isi_x (b := false) (.base (.str x)) (by decide +kernel) (by walk_at "sx"; exact k0)
    | tup h1 h2 => exact isi_x (b := false) (tyx_t h1) (by decide +kernel) (by walk_at "sx"; exact k0)
    | dic h1 => exact isi_x (b := false) (.base (.dK h1)) (by decide +kernel) (by walk_at "sx"; exact k0)
def spIsSite (K : PySem.W.Frag) : Sp := fun vs H Q _ => ∃ (v : V) (d : PyData), vs = [v] ∧ De K H v d ∧ RowsL d ∧ ∀ H', Ex H H' → Q (.bl (isSiteD d)) H'
theorem ok_is_site (T : Txt K mg) : FnOk P w K mg base CX0 3 T.f_is_site T.fd_is_site ["value"] (spIsSite K) := by
  refine T.F_is_site.ok sc_is_site (fun vs H Q E h => ?_) (fun cdv A outer s H vs Q E hr h => ?_)
  · obtain ⟨v, d, rfl, _⟩ := h
    rfl
  · obtain ⟨v, d, rfl, hd, hr4, k⟩ := h
    apply Exists.intro
    apply And.intro
    · apply pss_cons
      · apply ps_if
        · exact (PW.pt (pw_or (pt_not (pt_val (pe_callB (k_isi (K := K) rfl) (by rfl) T.n_isinstance (by decide +kernel) (pa_cons (pv 0) (pa_cons (pe_bltn (v := .ty "list") (by rfl) T.n_list (by decide +kernel) rfl) pa_nil))))) (pw_or1 (pt_not (pt_chain op_le op_le pe_int (pe_callB (k_len (K := K) rfl) (by rfl) T.n_len PySem.boot_len (pa_cons (pv 0) pa_nil)) (pe_glob (v := .int 12) rfl T.c_MOST_PAGES ⟨_, rfl⟩))))))
        · apply pss_one
          exact (ps_ret pe_bl)
        · exact pss_nil
      apply pss_one
      exact (ps_ret (pe_callB (k_all (K := K) rfl rfl) (by rfl) T.n_all (by decide +kernel) (pa_cons (pe_lc (own := [("page", 1), ("row", 2)]) rfl sc_is_site.nd (k_pi_enum (K := K) rfl (by rfl) T.n_enumerate (pa_cons (pv 0) pa_nil)) (blkOk_by (own := [("page", 1), ("row", 2)]) (N := ["value", "page", "row"]) (sc := defScope s_is_site) (by decide +kernel)) (fun _ _ _ _ _ => by exact (k_tup (K := K) (n := 2) rfl rfl (pgs_cons (pg_name (i := 1) sc_is_site.nd rfl (.inl rfl)) (pgs_cons (pg_name (i := 2) sc_is_site.nd rfl (.inl rfl)) pgs_nil)))) (fun _ _ _ _ _ => by exact pts_nil) (fun _ _ _ _ _ => by exact (pe_call (ok_is_row T) (hr.mono (by decide)) (by rfl) T.m_is_row T.F_is_row.kp T.b_is_row .nil pass0 (pa_cons (pv 2) (pa_cons (pv 1) (pa_cons (pe_callB (k_len (K := K) rfl) (by rfl) T.n_len PySem.boot_len (pa_cons (pv 0) pa_nil)) pa_nil)))))) pa_nil)))
    have k0 := k H (Ex.refl H)
    walk_at "sx"
    cases hd with
    | @lst a xs ds hA hx =>
      have ln := hx.len
      have hr5 := hr4 ds rfl
      refine isi_x (b := true) (tyx_l hA) (by decide +kernel) ?_
      walk_at "sx"
      refine lenL hA ?_
      walk_at "sx"
      by_cases c1 : 1 ≤ ds.length
      · by_cases c2 : ds.length ≤ 12
        · rw [if_pos (show (1 : Int) ≤ ((xs.length : Nat) : Int) by omega)]
          rw [show (decide (((xs.length : Nat) : Int) ≤ 12)) = true from decide_eq_true (by omega)]
          walk_at "sx"
          refine ⟨_, hA, fun D nD => ?_⟩
          refine lc_enum (xs := xs) (fun _ => true) (fun j => V.bl (isRowD j ds.length (ds.getD j .none))) hA nD (by omega) (fun u v => rfl) (fun i x _ => tyes) (fun j x hj _ => ?_) (fun H2 e2 hD => ?_)
          · obtain ⟨d, hdj, hde⟩ := hx.at hj
            intro H3 e3 R hR
            walk_at "sx"
            refine ⟨_, rfl, _, rfl, _, rfl, ?_⟩
            refine lenL (ex_l e3 hA) ?_
            refine ⟨_, d, j, ds.length, by rw [ln], De.ex e3 _ _ hde, c2, fun es he => hr5 d (List.mem_of_getElem? hdj) es he, fun H4 e4 => ?_⟩
            rw [show d = ds.getD j .none by rw [List.getD_eq_getElem?_getD, hdj]; rfl]
            exact hR _ e4
          · have hk : kept xs.length (fun _ => true) (fun j => V.bl (isRowD j ds.length (ds.getD j .none))) = ((List.range ds.length).map fun j => isRowD j ds.length (ds.getD j .none)).map V.bl := by
              rw [kept_all, List.map_map, ln]; rfl
            rw [hk] at hD
            refine allL (.inl (.inl hD)) ?_
            rw [List.all_map]
            have := k _ e2
            rwa [show isSiteD (.list ds) = (List.range ds.length).all fun i => isRowD i ds.length (ds.getD i .none) from if_pos ⟨c1, c2⟩] at this
        · rw [if_pos (show (1 : Int) ≤ ((xs.length : Nat) : Int) by omega)]
          rw [show (decide (((xs.length : Nat) : Int) ≤ 12)) = false from decide_eq_false (by omega)]
          walk_at "sx"
          rwa [show isSiteD (.list ds) = false from if_neg (by omega)] at k0
      · rw [if_neg (show ¬ (1 : Int) ≤ ((xs.length : Nat) : Int) by omega)]
        rwa [show isSiteD (.list ds) = false from if_neg (by omega)] at k0
    | non => exact isi_x (b := false) (.base .non) (by decide +kernel) (by walk_at "sx"; exact k0)
    | bl b => exact isi_x (b := false) (.base (.bl b)) (by decide +kernel) (by walk_at "sx"; exact k0)
    | int i => exact isi_x (b := false) (.base (.int i)) (by decide +kernel) (by walk_at "sx"; exact k0)
    | str x => exact isi_x (b := false) (.base (.str x)) (by decide +kernel) (by walk_at "sx"; exact k0)
    | tup h1 h2 => exact isi_x (b := false) (tyx_t h1) (by decide +kernel) (by walk_at "sx"; exact k0)
    | dic h1 => exact isi_x (b := false) (.base (.dK h1)) (by decide +kernel) (by walk_at "sx"; exact k0)
end
/-! ### checks that raise -/
section
variable {P : Program} {w : World} {K : PySem.W.Frag} {mg : Str → Option Value} {base : Heap}
def spCkSite (K : PySem.W.Frag) (C : Addr) : Sp := fun vs H Q E => ∃ (v : V) (d : PyData), vs = [v] ∧ De K H v d ∧ RowsL d ∧ (isSiteD d = true → ∀ H', Ex H H' → Q .non H') ∧ (isSiteD d = false → ∀ H', Ex H H' → E (.ref C) none H')
theorem ok_check_site (T : Txt K mg) : FnOk P w K mg base (L2.CX P w) 4 T.f_check_site T.fd_check_site ["site"] (spCkSite K T.C_InvalidSiteError) := by
  refine T.F_check_site.okX sc_check_site (fun vs H Q E h => ?_) (fun cdv A outer s H vs Q E hr h => ?_)
  · obtain ⟨v, d, rfl, _⟩ := h
    rfl
  · obtain ⟨v, d, rfl, hd, hr4, k1, k2⟩ := h
    apply Exists.intro
    apply And.intro
    · apply pss_one
      apply ps_if
      · exact (pt_not (pt_val (pe_call (ok_is_site T) (hr.mono (by decide)) (by rfl) T.m_is_site T.F_is_site.kp T.b_is_site .nil pass0 (pa_cons (pv 0) pa_nil))))
      · apply pss_one
        exact (ps_raise rfl (takes_of rfl rfl rfl rfl) (pmk_own PySem.F.excBase_ValueError T.x_InvalidSiteError T.g_InvalidSiteError T.k_InvalidSiteError (raises_own T.b_InvalidSiteError T.t_InvalidSiteError) (by rfl)))
      · exact pss_nil
    walk_at "sx"
    refine ⟨v, d, rfl, hd, hr4, fun H1 e1 => ?_⟩
    walk_at "sx"
    cases c : isSiteD d with
    | true =>
      walk_at "sx"
      exact k1 c _ e1
    | false =>
      walk_at "sx"
      exact k2 c _ e1
def spCkPage (K : PySem.W.Frag) (C : Addr) : Sp := fun vs H Q E => ∃ (a : Addr) (xs : List V) (p : V), vs = [.ref a, p] ∧ SqL K H a xs ∧ Kd K H p ∧ (inR 0 ((xs.length : Nat) - 1) p = true → Q .non H) ∧ (inR 0 ((xs.length : Nat) - 1) p = false → E (.ref C) none H)
theorem ok_check_page (T : Txt K mg) : FnOk P w K mg base (L2.CX P w) 2 T.f_check_page T.fd_check_page ["site", "page"] (spCkPage K T.C_InvalidPageError) := by
  refine T.F_check_page.okX sc_check_page (fun vs H Q E h => ?_) (fun cdv A outer s H vs Q E hr h => ?_)
  · obtain ⟨a, xs, p, rfl, _⟩ := h
    rfl
  · obtain ⟨a, xs, p, rfl, hA, hp, k1, k2⟩ := h
    apply Exists.intro
    apply And.intro
    · apply pss_one
      apply ps_if
      · exact (pt_not (pt_val (pe_call (ok_is_integer T) (hr.mono (by decide)) (by rfl) T.m_is_integer T.F_is_integer.kp T.b_is_integer .nil pass0 (pa_cons (pv 1) (pa_cons pe_int (pa_cons (pe_op op_sub (pe_callB (k_len (K := K) rfl) (by rfl) T.n_len PySem.boot_len (pa_cons (pv 0) pa_nil)) pe_int) pa_nil))))))
      · apply pss_one
        exact (ps_raise rfl (takes_of rfl rfl rfl rfl) (pmk_own PySem.F.excBase_ValueError T.x_InvalidPageError T.g_InvalidPageError T.k_InvalidPageError (raises_own T.b_InvalidPageError T.t_InvalidPageError) (by rfl)))
      · exact pss_nil
    walk_at "sx"
    refine lenL hA ?_
    walk_at "sx"
    refine ⟨_, _, _, rfl, hp, ?_⟩
    cases c : inR 0 ((xs.length : Nat) - 1) p with
    | true =>
      walk_at "sx"
      exact k1 c
    | false =>
      walk_at "sx"
      exact k2 c
end
section
variable {P : Program} {w : World} {K : PySem.W.Frag} {mg : Str → Option Value} {base : Heap}
theorem inR_int {lo hi : Int} {v : V} (h : inR lo hi v = true) : ∃ i, v = .int i ∧ lo ≤ i ∧ i ≤ hi := by
  cases v with
  | int i =>
    have h' : (decide (lo ≤ i) && decide (i ≤ hi)) = true := h
    rw [Bool.and_eq_true, decide_eq_true_eq, decide_eq_true_eq] at h'
    exact ⟨i, rfl, h'.1, h'.2⟩
  | _ => cases h
def spCkN (K : PySem.W.Frag) (C : Addr) : Sp := fun vs H Q E => ∃ (v : V) (lo hi : Int), vs = [v, .int lo, .int hi] ∧ Kd K H v ∧ (inR lo hi v = true → Q .non H) ∧ (inR lo hi v = false → E (.ref C) none H)
theorem ok_check_number (T : Txt K mg) : FnOk P w K mg base (L2.CX P w) 2 T.f_check_number T.fd_check_number ["value", "least", "most"] (spCkN K T.C_InvalidNumberError) := by
  refine T.F_check_number.okX sc_check_number (fun vs H Q E h => ?_) (fun cdv A outer s H vs Q E hr h => ?_)
  · obtain ⟨v, lo, hi, rfl, _⟩ := h
    rfl
  · obtain ⟨v, lo, hi, rfl, kd, k1, k2⟩ := h
    apply Exists.intro
    apply And.intro
    · apply pss_one
      apply ps_if
      · exact (pt_not (pt_val (pe_call (ok_is_integer T) (hr.mono (by decide)) (by rfl) T.m_is_integer T.F_is_integer.kp T.b_is_integer .nil pass0 (pa_cons (pv 0) (pa_cons (pv 1) (pa_cons (pv 2) pa_nil))))))
      · apply pss_one
        exact (ps_raise rfl (takes_of rfl rfl rfl rfl) (pmk_own PySem.F.excBase_ValueError T.x_InvalidNumberError T.g_InvalidNumberError T.k_InvalidNumberError (raises_own T.b_InvalidNumberError T.t_InvalidNumberError) (by rfl)))
      · exact pss_nil
    walk_at "sx"
    refine ⟨v, lo, hi, rfl, kd, ?_⟩
    cases c : inR lo hi v with
    | true =>
      walk_at "sx"
      exact k1 c
    | false =>
      walk_at "sx"
      exact k2 c
end
section
variable {P : Program} {w : World} {K : PySem.W.Frag} {mg : Str → Option Value} {base : Heap}
/-- is the value a list of different pages of a site of m pages? -/
def isPagesD (m : Int) : PyData → Bool
  | .list ds => ds.all (inD 0 (m - 1)) && decide ((ds.map numD).Nodup)
  | _ => false
def spCkPages (K : PySem.W.Frag) (C : Addr) : Sp := fun vs H Q E => ∃ (a : Addr) (xs : List V) (v : V) (d : PyData), vs = [.ref a, v] ∧ SqL K H a xs ∧ xs.length ≤ 12 ∧ De K H v d ∧ LenL d ∧ (isPagesD xs.length d = true → ∀ H', Ex H H' → Q .non H') ∧ (isPagesD xs.length d = false → ∀ H', Ex H H' → E (.ref C) none H')
theorem ok_check_pages (T : Txt K mg) : FnOk P w K mg base (L2.CX P w) 2 T.f_check_pages T.fd_check_pages ["site", "pages"] (spCkPages K T.C_InvalidPagesError) := by
  refine T.F_check_pages.okX sc_check_pages (fun vs H Q E h => ?_) (fun cdv A outer s H vs Q E hr h => ?_)
  · obtain ⟨a, xs, v, d, rfl, _⟩ := h
    rfl
  · obtain ⟨s, zs, v, d, rfl, hS, hz, hd, hl, k1, k2⟩ := h
    apply Exists.intro
    apply And.intro
    · apply pss_cons
      · apply ps_if
        · exact (PW.pt (pw_or (pt_not (pt_val (pe_callB (k_isi (K := K) rfl) (by rfl) T.n_isinstance (by decide +kernel) (pa_cons (pv 1) (pa_cons (pe_bltn (v := .ty "list") (by rfl) T.n_list (by decide +kernel) rfl) pa_nil))))) (pw_or1 (pt_not (pt_val (pe_callB (k_all (K := K) rfl rfl) (by rfl) T.n_all (by decide +kernel) (pa_cons (pe_lc (own := [("page", 2)]) rfl sc_check_pages.nd (k_pi_list (K := K) rfl (pv 1)) (blkOk_by (own := [("page", 2)]) (N := ["site", "pages", "page"]) (sc := defScope s_check_pages) (by decide +kernel)) (fun _ _ _ _ _ => by exact (pg_name (i := 2) sc_check_pages.nd rfl (.inl rfl))) (fun _ _ _ _ _ => by exact pts_nil) (fun _ _ _ _ _ => by exact (pe_call (ok_is_integer T) (hr.mono (by decide)) (by rfl) T.m_is_integer T.F_is_integer.kp T.b_is_integer .nil pass0 (pa_cons (pv 2) (pa_cons pe_int (pa_cons (pe_op op_sub (pe_callB (k_len (K := K) rfl) (by rfl) T.n_len PySem.boot_len (pa_cons (pv 0) pa_nil)) pe_int) pa_nil)))))) pa_nil)))))))
        · apply pss_one
          exact (ps_raise rfl (takes_of rfl rfl rfl rfl) (pmk_own PySem.F.excBase_ValueError T.x_InvalidPagesError T.g_InvalidPagesError T.k_InvalidPagesError (raises_own T.b_InvalidPagesError T.t_InvalidPagesError) (by rfl)))
        · exact pss_nil
      apply pss_one
      apply ps_if
      · exact (pt_cmpR op_ne (k_lenSetA (K := K) rfl (by rfl) T.n_len (by rfl) T.n_set (pv 1)) (pe_callB (k_len (K := K) rfl) (by rfl) T.n_len PySem.boot_len (pa_cons (pv 1) pa_nil)) (by rfl))
      · apply pss_one
        exact (ps_raise rfl (takes_of rfl rfl rfl rfl) (pmk_own PySem.F.excBase_ValueError T.x_InvalidPagesError T.g_InvalidPagesError T.k_InvalidPagesError (raises_own T.b_InvalidPagesError T.t_InvalidPagesError) (by rfl)))
      · exact pss_nil
    walk_at "sx"
    cases hd with
    | @lst a xs ds hA hx =>
      have ln := hx.len
      have hl := hl ds rfl
      refine isi_x (b := true) (tyx_l hA) (by decide +kernel) ?_
      walk_at "sx"
      refine ⟨⟨_, hA⟩, fun D nD => ?_⟩
      refine lc_list (xs := xs) (fun _ => true) (fun j => V.bl (inD 0 ((zs.length : Int) - 1) (ds.getD j .none))) hA nD (by omega) (fun u => rfl) (fun j x _ => tyes) (fun j x hj _ => ?_) (fun H2 e2 hD => ?_)
      · obtain ⟨d, hdj, hde⟩ := hx.at hj
        intro H3 e3 R hR
        walk_at "sx"
        refine ⟨_, rfl, _, rfl, ?_⟩
        refine lenL (ex_l e3 hS) ?_
        walk_at "sx"
        refine ⟨_, _, _, rfl, de_kd (De.ex e3 _ _ hde), ?_⟩
        rw [inR_inD hde, show d = ds.getD j .none by rw [List.getD_eq_getElem?_getD, hdj]; rfl]
        exact hR _ (Ex.refl _)
      · rw [kept_ds ln] at hD
        refine allL (.inl (.inl hD)) ?_
        rw [List.all_map]
        have ea : (id ∘ inD 0 ((zs.length : Int) - 1)) = inD 0 ((zs.length : Int) - 1) := rfl
        rw [ea]
        have hA2 := ex_l e2 hA
        cases c : ds.all (inD 0 ((zs.length : Int) - 1)) with
        | false =>
          walk_at "sx"
          exact k2 (by show (ds.all (inD 0 ((zs.length : Int) - 1)) && decide (ds.map numD).Nodup) = false; rw [c]; rfl) _ e2
        | true =>
          obtain ⟨ex, hn⟩ := de_nums hx c
          rw [ex] at hA2
          walk_at "sx"
          refine ⟨ds.map numD, hA2, by rw [List.length_map]; omega, fun n h1 h2 => ?_⟩
          refine lenL hA2 ?_
          rw [List.length_map] at h1 h2 ⊢
          rw [List.length_map]
          have hp : isPagesD zs.length (.list ds) = decide (ds.map numD).Nodup := by
            show (ds.all (inD 0 ((zs.length : Int) - 1)) && decide (ds.map numD).Nodup) = _
            rw [c, Bool.true_and]
          refine x_neI.mpr ⟨_, rfl, ?_⟩
          by_cases nd : (ds.map numD).Nodup
          · have := h1.mpr nd
            rw [decide_eq_true (by omega), if_neg (by decide)]
            exact k1 (by rw [hp]; exact decide_eq_true nd) _ e2
          · have : n ≠ ds.length := fun e => nd (h1.mp e)
            rw [decide_eq_false (by omega), if_pos (by rfl)]
            exact k2 (by rw [hp]; exact decide_eq_false nd) _ e2
    | non => exact isi_x (b := false) (.base .non) (by decide +kernel) (by walk_at "sx"; exact k2 rfl _ (Ex.refl _))
    | bl b => exact isi_x (b := false) (.base (.bl b)) (by decide +kernel) (by walk_at "sx"; exact k2 rfl _ (Ex.refl _))
    | int i => exact isi_x (b := false) (.base (.int i)) (by decide +kernel) (by walk_at "sx"; exact k2 rfl _ (Ex.refl _))
    | str x => exact isi_x (b := false) (.base (.str x)) (by decide +kernel) (by walk_at "sx"; exact k2 rfl _ (Ex.refl _))
    | tup h1 h2 => exact isi_x (b := false) (tyx_t h1) (by decide +kernel) (by walk_at "sx"; exact k2 rfl _ (Ex.refl _))
    | dic h1 => exact isi_x (b := false) (.base (.dK h1)) (by decide +kernel) (by walk_at "sx"; exact k2 rfl _ (Ex.refl _))
end
end LW

set_option Elab.async false
set_option linter.all false
set_option maxRecDepth 100000
set_option maxHeartbeats 4000000
namespace LW
open PySem PySem.Spec PyProof.Rows L2 BC Evl TR
local macro_rules | `(tactic| walk_at "sx") => `(tactic| try simp only [x_callF2, x_seq, x_next, x_brk, x_cnt, x_nev, x_ret, x_retN, x_drop, x_ifS, x_asg, x_gn, x_gsub, x_par, x_par3, x_aug, x_for, x_lc, x_rng1, x_rng2, x_rng3, x_ilist, x_itup, x_ienum, x_izip, x_izipA, x_istr, x_var, x_c, x_op, x_un, x_test, x_b, x_chain, x_and, x_or, x_not, x_andV, x_orV, x_notV, x_ife, x_nil, x_cons, x_lst, x_tup, x_cb, x_call, x_callK, x_callS, x_bm, x_bm0, x_tru, x_sl, x_nopart, x_part, x_revL, x_I0, x_I, x_U, x_ip, x_ipC, x_eqI, x_neI, x_eqB, x_neB, x_eqS, x_neS, x_isB, x_isNB, x_lrg, x_gall, x_lenSet, x_augS, x_sortSet, x_sortSetB, x_lenSetA, x_rg1, x_rg2,
  L2.start, List.map_cons, List.map_nil, List.length_cons, List.length_nil, Nat.reduceAdd, Nat.reduceSub, Nat.sub_self, Nat.zero_add, List.replicate, List.replicate_succ, List.replicate_zero, List.append_nil, List.cons_append, List.nil_append, List.set_cons_zero, List.set_cons_succ, List.getElem?_cons_zero, List.getElem?_cons_succ, Option.some.injEq, V.int.injEq, V.bl.injEq, V.ref.injEq, V.str.injEq, List.cons.injEq, and_true, true_and, exists_eq_left', exists_eq_left, exists_and_left, exists_eq, if_true, if_false, ite_true, ite_false, Bool.true_eq_false, Bool.false_eq_true, reduceIte, reduceCtorEq, Bool.not_true, Bool.not_false, decide_true, decide_false, decide_eq_true_eq, Bool.and_true, Bool.true_and, Bool.and_self, Bool.and_false, Bool.false_and, Bool.or_self, Bool.or_false, Bool.false_or, Bool.or_true, Bool.true_or, eq_self])
/-! ### loops.py -/
section
variable {P : Program} {w : World} {K : PySem.W.Frag} {mg : Str → Option Value} {base : Heap}
theorem dec_nz (x : Nat) (L : List Nat) : decide (((x : Nat) : Int) ∈ nz L) = decide (x ∈ L) := by
  by_cases z : x ∈ L
  · rw [decide_eq_true z, decide_eq_true (nz_mem.mpr z)]
  · rw [decide_eq_false z, decide_eq_false (fun m => z (nz_mem.mp m))]
theorem wide_nn {a b : Nat} (ha : a < 2 ^ 4000) (hb : b < 2 ^ 4000) : CMulX (a : Int) (b : Int) := .inr (wide_mul (a := 4000) (b := 4000) (by rw [Int.natAbs_natCast]; exact ha) (by rw [Int.natAbs_natCast]; exact hb) (by omega) (by omega) (by omega))
def spTimes (K : PySem.W.Frag) : Sp := fun vs H Q _ => ∃ (a b : Addr) (one two : List Nat) (n : Nat), vs = [.ref a, .ref b, .int n] ∧ SqL K H a ((nz one).map V.int) ∧ SqL K H b ((nz two).map V.int) ∧ one.length = n + 1 ∧ two.length = n + 1 ∧ n ≤ 1000 ∧ (∀ x ∈ one, x < 2 ^ 4000) ∧ (∀ x ∈ two, x < 2 ^ 4000) ∧
  ∀ r H', H r = none → Ex H H' → H' r = some (.lst ((nz (conv one two n)).map V.int)) → Q (.ref r) H'
def JTm (H1 : Hp) (a b : Addr) (one two : List Nat) (n : Nat) (f : Addr) (i : Nat) (σ' : L2.St) (H' : Hp) : Prop := ∃ l4 l5 l6 l7, σ' = [some (.ref a), some (.ref b), some (.int n), some (.ref f), l4, l5, l6, l7] ∧ Ex H1 H' ∧ H' f = some (.lst ((nz (parts one two n i 0)).map V.int))
def JTj (H1 : Hp) (a b : Addr) (one two : List Nat) (n : Nat) (f : Addr) (i : Nat) (j : Nat) (σ' : L2.St) (H' : Hp) : Prop := ∃ l6 l7, σ' = [some (.ref a), some (.ref b), some (.int n), some (.ref f), some (.int i), some (.int (one.getD i 0 : Nat)), l6, l7] ∧ Ex H1 H' ∧ H' f = some (.lst ((nz (parts one two n i j)).map V.int))
theorem ok_times (T : Txt K mg) : FnOk P w K mg base CX0 1 T.f_times T.fd_times ["one", "two", "most"] (spTimes K) := by
  refine T.F_times.ok sc_times (fun vs H Q E h => ?_) (fun cdv A outer s H vs Q E hr h => ?_)
  · obtain ⟨a, b, one, two, n, rfl, _⟩ := h
    rfl
  · obtain ⟨a, b, one, two, n, rfl, hA, hB, l1, l2, hn, b1, b2, k⟩ := h
    apply Exists.intro
    apply And.intro
    · apply pss_cons
      · exact (ps_set (i := 3) sc_times.nd rfl (.inl rfl) (pe_op op_rep (pe_lst (pa_cons pe_int pa_nil)) (pe_op op_add (pv 2) pe_int)))
      apply pss_cons
      · apply ps_for PassesOwn.never rfl
        · exact (k_pi_enum (K := K) rfl (by rfl) T.n_enumerate (pa_cons (pe_slice (k_sl_list (K := K) rfl) (pv 0) po_none (po_some (pe_op op_add (pv 2) pe_int))) pa_nil))
        · exact (k_tup (K := K) (n := 2) rfl rfl (pgs_cons (pg_name (i := 4) sc_times.nd rfl (.inl rfl)) (pgs_cons (pg_name (i := 5) sc_times.nd rfl (.inl rfl)) pgs_nil)))
        · apply pss_one
          apply ps_if
          · exact (pt_cmpR op_ne (pv 5) pe_int (by rfl))
          · apply pss_one
            apply ps_for PassesOwn.never rfl
            · exact (k_pi_enum (K := K) rfl (by rfl) T.n_enumerate (pa_cons (pe_slice (k_sl_list (K := K) rfl) (pv 1) po_none (po_some (pe_op op_sub (pe_op op_add (pv 2) pe_int) (pv 4)))) pa_nil))
            · exact (k_tup (K := K) (n := 2) rfl rfl (pgs_cons (pg_name (i := 6) sc_times.nd rfl (.inl rfl)) (pgs_cons (pg_name (i := 7) sc_times.nd rfl (.inl rfl)) pgs_nil)))
            · apply pss_one
              exact (ps_augS (pv 3) (pe_op op_add (pv 4) (pv 6)) (k_get (K := K) rfl) (pe_op op_mulX (pv 5) (pv 7)) ip_add set_list)
          · exact pss_nil
      apply pss_one
      exact (ps_ret (pv 3))
    walk_at "sx"
    refine ⟨sz_ok (by omega), fun z nz1 => ?_⟩
    have e1 := Ex.new nz1 (o := .lst [V.int 0])
    refine repL upd_same (by omega) (by omega) (sz_ok (by simp; omega)) fun f nf => ?_
    have nfH : H f = none := fresh_back e1 nf
    have e2 := e1.trans (Ex.new nf (o := .lst (List.replicate ((n : Int) + 1).toNat [V.int 0]).flatten))
    have hf : (upd (upd H z (.lst [V.int 0])) f (.lst (List.replicate ((n : Int) + 1).toNat [V.int 0]).flatten)) f = some (.lst ((nz (parts one two n 0 0)).map V.int)) := by
      rw [upd_same, rep_one, parts_zero, show ((n : Int) + 1).toNat = n + 1 by omega]
      unfold nz
      rw [List.map_replicate, List.map_replicate]
      rfl
    generalize (upd (upd H z (.lst [V.int 0])) f (.lst (List.replicate ((n : Int) + 1).toNat [V.int 0]).flatten)) = H2 at e2 hf ⊢
    refine slL (ex_l e2 hA) fun sl nsl => ?_
    rw [show ((n : Int) + 1) = ((n + 1 : Nat) : Int) by omega, cut_take, List.take_of_length_le (by rw [List.length_map, nz_len]; omega)]
    have e3 := Ex.new nsl (o := .lst ((nz one).map V.int))
    refine ⟨sl, rfl, _, .inl (.inl upd_same), ?_⟩
    have hsl : (upd H2 sl (.lst ((nz one).map V.int))) sl = some (.lst ((nz one).map V.int)) := upd_same
    have nfs : f ≠ sl := ne_of_none hf nsl
    generalize (upd H2 sl (.lst ((nz one).map V.int))) = H3 at e3 hsl ⊢
    have e03 := e2.trans e3
    refine lg_enum (xs := (nz one).map V.int) (fun i σ' H' => JTm H a b one two n f i σ' H' ∧ H' sl = some (.lst ((nz one).map V.int))) ⟨⟨none, none, none, none, rfl, e03, e3 _ _ hf⟩, hsl⟩ (fun i σ' H' _ hP => .inl (.inl hP.2)) (fun i x σ' H' T hx hP nT => ?_) (fun σ' H' hP => ?_)
    · obtain ⟨⟨l4, l5, l6, l7, rfl, e, hf'⟩, hs'⟩ := hP
      obtain ⟨x, hx', rfl⟩ := at_nz hx
      have hi := (List.getElem?_eq_some_iff.mp hx').1
      have gx : one.getD i 0 = x := by rw [List.getD_eq_getElem?_getD, hx']; rfl
      have bx := b1 x (List.mem_of_getElem? hx')
      refine g_two upd_same ?_
      have eT := Ex.new nT (o := .tup [V.int i, V.int x])
      simp only [List.set_cons_zero, List.set_cons_succ]
      have e4 := e.trans eT
      have hfT := eT _ _ hf'
      have hsT := eT _ _ hs'
      generalize upd H' T (.tup [V.int i, V.int x]) = H4 at eT e4 hfT hsT ⊢
      walk_at "sx"
      by_cases c : (x : Int) = 0
      · rw [decide_eq_true c]
        walk_at "sx"
        refine ⟨⟨_, _, _, _, rfl, e4, ?_⟩, hsT⟩
        rw [← parts_next (j := 0) (.inr (.inr (by rw [gx]; omega)))]
        exact hfT
      · rw [decide_eq_false c]
        walk_at "sx"
        refine slL (ex_l e4 hB) fun s2 ns2 => ?_
        rw [show ((n : Int) + 1 - (i : Int)) = ((n + 1 - i : Nat) : Int) by omega, cut_take]
        have e5 := Ex.new ns2 (o := .lst (((nz two).map V.int).take (n + 1 - i)))
        refine ⟨s2, rfl, _, .inl (.inl upd_same), ?_⟩
        have hs2 : (upd H4 s2 (.lst (((nz two).map V.int).take (n + 1 - i)))) s2 = some (.lst (((nz two).map V.int).take (n + 1 - i))) := upd_same
        have nf2 : f ≠ s2 := ne_of_none hfT ns2
        have hf5 := e5 _ _ hfT
        have hs5 := e5 _ _ hsT
        have nss : sl ≠ s2 := ne_of_none hsT ns2
        generalize (upd H4 s2 (.lst (((nz two).map V.int).take (n + 1 - i)))) = H5 at e5 hs2 hf5 hs5 ⊢
        have l5 : (((nz two).map V.int).take (n + 1 - i)).length = n + 1 - i := by rw [List.length_take, List.length_map, nz_len]; omega
        refine lg_enum (xs := ((nz two).map V.int).take (n + 1 - i)) (fun j σ' H' => JTj H a b one two n f i j σ' H' ∧ H' sl = some (.lst ((nz one).map V.int)) ∧ H' s2 = some (.lst (((nz two).map V.int).take (n + 1 - i)))) ⟨⟨l6, l7, by rw [gx], e4.trans e5, hf5⟩, hs5, hs2⟩ (fun j σ' H' _ hP => .inl (.inl hP.2.2)) (fun j y σ' H6 T2 hy hP nT2 => ?_) (fun σ' H6 hP => ?_)
        · obtain ⟨⟨l6, l7, rfl, e6, hf6⟩, hs6, hs26⟩ := hP
          have hj : j < n + 1 - i := by
            have := (List.getElem?_eq_some_iff.mp hy).1
            rw [l5] at this
            exact this
          rw [List.getElem?_take, if_pos hj] at hy
          obtain ⟨y, hy', rfl⟩ := at_nz hy
          have by' := b2 y (List.mem_of_getElem? hy')
          have gy : two.getD j 0 = y := by rw [List.getD_eq_getElem?_getD, hy']; rfl
          refine g_two upd_same ?_
          have eT2 := Ex.new nT2 (o := .tup [V.int j, V.int y])
          simp only [List.set_cons_zero, List.set_cons_succ]
          have hfT2 := eT2 _ _ hf6
          walk_at "sx"
          refine getL (.inl (.inl hfT2)) (i := i + j) (by omega) (nz_at (parts_at (by omega))) ?_
          walk_at "sx"
          rw [gx]
          refine ⟨wide_nn bx by', ?_⟩
          refine setL hfT2 (ixN_n (j := i + j) (by omega) (by rw [List.length_map, nz_len, parts_len]; omega)) ?_
          have es : ((nz (parts one two n i j)).map V.int).set (i + j) (V.int (((part one two i j (i + j) : Nat) : Int) + (x : Int) * (y : Int))) = (nz (parts one two n i (j + 1))).map V.int := by
            rw [← parts_step (show i + j ≤ n by omega), gx, gy]
            unfold nz
            rw [List.map_set, List.map_set]
            congr 2
          rw [es]
          have nfT2 : f ≠ T2 := ne_of_none hf6 nT2
          have nsf : sl ≠ f := Ne.symm nfs
          exact ⟨⟨_, _, by rw [gx], (e6.trans eT2).mut nfH, upd_same⟩, by rw [upd_ne nsf]; exact eT2 _ _ hs6, by rw [upd_ne (Ne.symm nf2)]; exact eT2 _ _ hs26⟩
        · obtain ⟨⟨l6, l7, rfl, e6, hf6⟩, hs6, hs26⟩ := hP
          rw [l5, parts_next (.inl (by omega))] at hf6
          exact ⟨⟨_, _, _, _, rfl, e6, hf6⟩, hs6⟩
    · obtain ⟨⟨l4, l5, l6, l7, rfl, e, hf'⟩, hs'⟩ := hP
      walk_at "sx"
      rw [List.length_map, nz_len, parts_full (.inr (Nat.le_refl _))] at hf'
      exact k f _ nfH e hf'
/-- the numbers of walks to the page, by their first page -/
def spRet (K : PySem.W.Frag) : Sp := fun vs H Q _ => ∃ (s a : Addr) (G : Grid) (out : List Nat) (p n : Nat), vs = [.ref s, .int p, .ref a, .int n] ∧ GridAt H s G ∧ SiteOk G ∧ p < G.length ∧ SqL K H a ((nz out).map V.int) ∧ n ≤ 100 ∧
  ∀ r H', Ex H H' → GridN H H' r (stg G out p n 0) → Q (.ref r) H'
def PvR (H : Hp) (G : Grid) (out : List Nat) (p : Nat) (fr : Addr) (D : Addr) (i : Nat) (H' : Hp) : Prop := Ex H H' ∧ H' fr = some (.lst ((nz ((List.range G.length).filter fun x => !decide (x ∈ out))).map V.int)) ∧ GridN H H' D ((List.range i).map fun v => [fw G out p 0 v])
def JRk (H : Hp) (s a : Addr) (G : Grid) (out : List Nat) (p n : Nat) (fr D : Addr) (k : Nat) (σ' : L2.St) (H' : Hp) : Prop := ∃ l6 l7 l8 l9, σ' = [some (.ref s), some (.int p), some (.ref a), some (.int n), some (.ref fr), some (.ref D), l6, l7, l8, l9] ∧ Ex H H' ∧ H' fr = some (.lst ((nz ((List.range G.length).filter fun x => !decide (x ∈ out))).map V.int)) ∧ GridN H H' D (stg G out p k 0)
def JRj (H : Hp) (s a : Addr) (G : Grid) (out : List Nat) (p n : Nat) (fr D : Addr) (k : Nat) (j : Nat) (σ' : L2.St) (H' : Hp) : Prop := ∃ l7 l8 l9, σ' = [some (.ref s), some (.int p), some (.ref a), some (.int n), some (.ref fr), some (.ref D), some (.int k), l7, l8, l9] ∧ Ex H H' ∧ H' fr = some (.lst ((nz ((List.range G.length).filter fun x => !decide (x ∈ out))).map V.int)) ∧ GridN H H' D (stg G out p k j)
theorem mem_free {G : Grid} {out : List Nat} {v : Nat} (h : v < G.length) : v ∈ ((List.range G.length).filter fun x => !decide (x ∈ out)) ↔ v ∉ out := by
  rw [List.mem_filter, List.mem_range]
  simp [h]
theorem sum_nz (l : List Nat) : (nz l).sum = ((l.sum : Nat) : Int) := by
  induction l with
  | nil => rfl
  | cons x l ih =>
    show ((x : Nat) : Int) + (nz l).sum = _
    rw [ih, List.sum_cons, Int.natCast_add]
theorem ok_returns_to (T : Txt K mg) : FnOk P w K mg base CX0 1 T.f_returns_to T.fd_returns_to ["site", "page", "barred", "most"] (spRet K) := by
  refine T.F_returns_to.ok sc_returns_to (fun vs H Q E h => ?_) (fun cdv A outer s H vs Q E hr h => ?_)
  · obtain ⟨s, a, G, out, p, n, rfl, _⟩ := h
    rfl
  · obtain ⟨s, a, G, out, p, n, rfl, hS, ok, hp, hA, hn, k⟩ := h
    apply Exists.intro
    apply And.intro
    · apply pss_cons
      · exact (ps_set (i := 4) sc_returns_to.nd rfl (.inr rfl) (pe_lc (own := [("other", 7)]) rfl sc_returns_to.nd (pi_range1 (by rfl) T.n_range (pa_cons (pe_callB (k_len (K := K) rfl) (by rfl) T.n_len PySem.boot_len (pa_cons (pv 0) pa_nil)) pa_nil)) (blkOk_by (own := [("other", 7)]) (N := ["site", "page", "barred", "most", "free", "found", "step", "other", "number", "near"]) (sc := defScope s_returns_to) (by decide +kernel)) (fun _ _ _ _ _ => by exact (pg_name (i := 7) sc_returns_to.nd rfl (.inl rfl))) (fun _ _ _ _ _ => by exact (pts_one (pt_cmpR (k_notIn (K := K) rfl) (pv 7) (pv 2) (by rfl)))) (fun _ _ _ _ _ => by exact (pv 7))))
      apply pss_cons
      · exact (ps_set (i := 5) sc_returns_to.nd rfl (.inr rfl) (pe_lc (own := [("other", 7)]) rfl sc_returns_to.nd (pi_range1 (by rfl) T.n_range (pa_cons (pe_callB (k_len (K := K) rfl) (by rfl) T.n_len PySem.boot_len (pa_cons (pv 0) pa_nil)) pa_nil)) (blkOk_by (own := [("other", 7)]) (N := ["site", "page", "barred", "most", "free", "found", "step", "other", "number", "near"]) (sc := defScope s_returns_to) (by decide +kernel)) (fun _ _ _ _ _ => by exact (pg_name (i := 7) sc_returns_to.nd rfl (.inl rfl))) (fun _ _ _ _ _ => by exact pts_nil) (fun _ _ _ _ _ => by exact (pe_lst (pa_cons (pe_callTy call_int1 (by rfl) T.n_int (by decide +kernel) (pa_cons (pe_and (pe_cmpR op_eq (pv 7) (pv 1) (by rfl)) (pe_one (pe_cmpR (k_in (K := K) rfl) (pv 7) (pv 4) (by rfl)))) pa_nil)) pa_nil)))))
      apply pss_cons
      · apply ps_for PassesOwn.never rfl
        · exact (pi_range1 (by rfl) T.n_range (pa_cons (pv 3) pa_nil))
        · exact (pg_name (i := 6) sc_returns_to.nd rfl (.inr rfl))
        · apply pss_one
          apply ps_for PassesOwn.never rfl
          · exact (pi_range1 (by rfl) T.n_range (pa_cons (pe_callB (k_len (K := K) rfl) (by rfl) T.n_len PySem.boot_len (pa_cons (pv 0) pa_nil)) pa_nil))
          · exact (pg_name (i := 7) sc_returns_to.nd rfl (.inl rfl))
          · apply pss_cons
            · exact (ps_set (i := 8) sc_returns_to.nd rfl (.inl rfl) (pe_ifExp (pt_cmpR (k_in (K := K) rfl) (pv 7) (pv 4) (by rfl)) (pe_callB (k_sum (K := K) rfl rfl) (by rfl) T.n_sum (by decide +kernel) (pa_cons (pe_lc (own := [("near", 9)]) rfl sc_returns_to.nd (k_pi_list (K := K) rfl (pe_ix (k_ix_list (K := K) rfl) (pv 0) (pv 7) (fun _ _ => rfl))) (blkOk_by (own := [("near", 9)]) (N := ["site", "page", "barred", "most", "free", "found", "step", "other", "number", "near"]) (sc := defScope s_returns_to) (by decide +kernel)) (fun _ _ _ _ _ => by exact (pg_name (i := 9) sc_returns_to.nd rfl (.inl rfl))) (fun _ _ _ _ _ => by exact pts_nil) (fun _ _ _ _ _ => by exact (pe_ix (k_ix_list (K := K) rfl) (pe_ix (k_ix_list (K := K) rfl) (pv 5) (pv 9) (fun _ _ => rfl)) (pv 6) (fun _ _ => rfl)))) pa_nil)) pe_int))
            apply pss_one
            exact (ps_expr (k_bm (K := K) rfl (pe_bm PySem.F.plainAttrs_list PySem.F.slot_list_append PySem.F.type_list_append mt_append (pe_ix (k_ix_list (K := K) rfl) (pv 5) (pv 7) (fun _ _ => rfl)) (pa_cons (pv 8) pa_nil))))
      apply pss_one
      exact (ps_ret (pv 5))
    have n1 := ok.n1
    have n2 := ok.n2
    obtain ⟨xs, hs, hl, _⟩ := hS.lst
    refine seq_asg (fun v H1 => ∃ fr, v = .ref fr ∧ H fr = none ∧ Ex H H1 ∧ H1 fr = some (.lst ((nz ((List.range G.length).filter fun x => !decide (x ∈ out))).map V.int))) (fun R hR => ?_) (fun v H1 hC => ?_)
    · walk_at "sx"
      refine lenL (.inl (.inl hs)) ?_
      rw [hl]
      refine ⟨_, rfl, by omega, by omega, fun D nD => ?_⟩
      rw [Int.toNat_natCast]
      refine lc_rng (lo := 0) (n := G.length) (fun v => !decide (v ∈ out)) (fun v => V.int ((v : Nat) : Int)) nD (by omega) (fun u => rfl) (fun v hv => ?_) (fun v hv _ => by rw [show (0 : Int) + v = (v : Int) by omega]; exact ev_var rfl) (fun H1 e1 hD => ?_)
      · refine et_is (et_test (ev_op (ev_var rfl) (ev_var rfl) (rv_niL hA rfl (flat_ints (nz out))))) ?_
        rw [inV_ints, show (0 : Int) + v = (v : Int) by omega, dec_nz]
      · rw [kept_rng] at hD
        exact hR _ _ ⟨D, rfl, nD, e1, hD⟩
    obtain ⟨fr, rfl, nfr, e1, hfr⟩ := hC
    have hs := e1 _ _ hs
    have hS := hS.ex e1
    simp only [L2.start, List.map_cons, List.map_nil, List.set_cons_zero, List.set_cons_succ]
    have fmem : ∀ (v : Nat) (H' : Hp), v < G.length → H' fr = some (.lst ((nz ((List.range G.length).filter fun x => !decide (x ∈ out))).map V.int)) → ∀ Q : VK, Q (.bl (decide (v ∉ out))) H' → rIn K false (.int (v : Int)) (.ref fr) H' Q := fun v H' hv h Q q => by
      refine inL (.inl (.inl h)) ?_
      rw [dec_nz]
      have : decide (v ∈ ((List.range G.length).filter fun x => !decide (x ∈ out))) = decide (v ∉ out) := by
        by_cases c : v ∈ out
        · rw [decide_eq_false (fun m => (mem_free hv).mp m c), decide_eq_false (by simpa using c)]
        · rw [decide_eq_true ((mem_free hv).mpr c), decide_eq_true c]
      rw [this]
      exact q
    refine seq_asg (fun v H2 => ∃ D, v = .ref D ∧ Ex H1 H2 ∧ H2 fr = some (.lst ((nz ((List.range G.length).filter fun x => !decide (x ∈ out))).map V.int)) ∧ GridN H1 H2 D (stg G out p 0 0)) (fun R hR => ?_) (fun v H2 hC => ?_)
    · walk_at "sx"
      refine lenL (.inl (.inl hs)) ?_
      rw [hl]
      refine ⟨_, rfl, by omega, by omega, fun D nD => ?_⟩
      rw [Int.toNat_natCast]
      have nDH := nD
      refine lc_rngE (lo := 0) (n := G.length) (PvR H1 G out p fr D) ⟨Ex.new nD, (Ex.new nD) _ _ hfr, nDH, [], upd_same, rfl, List.nodup_nil, List.not_mem_nil, fun i p e => by simp at e⟩ (fun v H2 hv hP => ?_) (fun H2 hP => ?_)
      · obtain ⟨e2, hf2, g2⟩ := hP
        rw [show (0 : Int) + v = (v : Int) by omega]
        refine ⟨rfl, ?_⟩
        simp only [wipe, List.set_cons_zero, List.set_cons_succ]
        have fin : ∀ b : Bool, b = (decide (v = p) && decide (v ∉ out)) → [V.int (if b = true then 1 else 0)].length ≤ sizeLine ∧ ∀ r, H2 r = none → ∃ acc, (upd H2 r (.lst [V.int (if b = true then 1 else 0)])) D = some (.lst acc) ∧ acc.length < sizeLine ∧ PvR H1 G out p fr D (v + 1) (upd (upd H2 r (.lst [V.int (if b = true then 1 else 0)])) D (.lst (acc ++ [.ref r]))) := fun b hb => by
          refine ⟨sz_ok (by simp), fun r nr => ?_⟩
          have er := Ex.new nr (o := .lst [V.int (if b = true then 1 else 0)])
          have ev : V.int (if b = true then 1 else 0) = V.int ((fw G out p 0 v : Nat) : Int) := by
            unfold fw
            rw [hb]
            by_cases c : v = p ∧ v ∉ out
            · rw [if_pos c, decide_eq_true c.1, decide_eq_true c.2]
              rfl
            · rw [if_neg c]
              have : (decide (v = p) && decide (v ∉ out)) = false := by
                cases q : (decide (v = p) && decide (v ∉ out)) with
                | false => rfl
                | true =>
                  rw [Bool.and_eq_true] at q
                  exact absurd ⟨of_decide_eq_true q.1, of_decide_eq_true q.2⟩ c
              rw [this]
              rfl
          obtain ⟨ys, h1, h2, g3⟩ := g2.push (r := [fw G out p 0 v]) (fresh_back e2 nr) nr (Nw.of er) (by rw [upd_same, ev]; rfl)
          refine ⟨ys, h1, BC.sz_lt (by rw [h2, List.length_map, List.length_range]; omega), (e2.trans er).mut nDH, ?_, ?_⟩
          · have : fr ≠ D := ne_of_none hfr nD
            rw [upd_ne this]
            exact er _ _ hf2
          · rw [List.range_succ, List.map_append]
            exact g3
        walk_at "sx"
        by_cases c1 : (v : Int) = (p : Int)
        · have c1' : v = p := by omega
          rw [if_pos c1]
          exact fmem v H2 hv hf2 _ (.inr ⟨_, rfl, fin _ (by rw [decide_eq_true c1', Bool.true_and])⟩)
        · have c1' : ¬ v = p := by omega
          rw [if_neg c1]
          have q := fin false (by rw [decide_eq_false c1', Bool.false_and])
          simp only [Bool.false_eq_true, if_false] at q
          exact .inr q
      · obtain ⟨e2, hf2, g2⟩ := hP
        refine hR _ _ ⟨D, rfl, e2, hf2, ?_⟩
        have : stg G out p 0 0 = (List.range G.length).map fun v => [fw G out p 0 v] := List.map_congr_left fun v _ => by rw [if_neg (by omega)]; rfl
        rw [this]
        exact g2
    obtain ⟨D, rfl, e2, hf2, g2⟩ := hC
    walk_at "sx"
    refine ⟨by omega, by omega, ?_⟩
    rw [Int.toNat_natCast]
    refine lg_rng (JRk H1 s a G out p n fr D) ⟨none, none, none, none, rfl, e2, hf2, g2⟩ (fun i σ' H' hi hP => ?_) (fun σ' H' hP => ?_)
    · obtain ⟨l6, l7, l8, l9, rfl, e, hf, g⟩ := hP
      rw [show (0 : Int) + (i : Int) = (i : Int) by omega]
      walk_at "sx"
      refine lenL (.inl (.inl (e _ _ hs))) ?_
      rw [hl]
      refine ⟨_, rfl, by omega, by omega, ?_⟩
      rw [Int.toNat_natCast]
      refine lg_rng (JRj H1 s a G out p n fr D i) ⟨_, _, _, rfl, e, hf, g⟩ (fun j σ' H' hj hP => ?_) (fun σ' H' hP => ?_)
      · obtain ⟨l7, l8, l9, rfl, e, hf, g⟩ := hP
        rw [show (0 : Int) + (j : Int) = (j : Int) by omega]
        simp only [x_gn, List.set_cons_zero, List.set_cons_succ]
        have nDH := g.1
        refine seq_asg (fun v H7 => v = .int ((fw G out p (i + 1) j : Nat) : Int) ∧ Ex H' H7) (fun R hR => ?_) (fun v H7 hC => ?_)
        · walk_at "sx"
          refine fmem j H' hj hf _ ⟨_, rfl, ?_⟩
          by_cases c : j ∈ out
          · rw [decide_eq_false (by simpa using c), if_neg (by decide)]
            refine hR _ _ ⟨?_, Ex.refl _⟩
            show V.int 0 = _
            unfold fw
            rw [if_neg (by simpa using c)]
            rfl
          · rw [decide_eq_true c, if_pos rfl]
            obtain ⟨q, ys, q1, q2, q3, q4⟩ := (hS.ex e).get hj
            have rl := ok.rlen j
            refine ixL (.inl (.inl q1)) (atI_n rfl q3) ⟨q, rfl, ⟨_, .inl (.inl q4)⟩, fun D2 nD2 => ?_⟩
            refine lc_list (xs := (nz (row G j)).map V.int) (fun _ => true) (fun u => V.int ((fw G out p i ((row G j).getD u 0) : Nat) : Int)) (.inl (.inl q4)) nD2 (by rw [List.length_map, nz_len]; omega) (fun u => rfl) (fun u x _ => tyes) (fun u x hx _ => ?_) (fun H7 e7 hD2 => ?_)
            · obtain ⟨x, hx', rfl⟩ := at_nz hx
              have xl := ok.rlt (List.mem_of_getElem? hx')
              obtain ⟨y, zs, y1, y2, y3, y4⟩ := g.at.get (i := x) (by rw [stg_len]; exact xl)
              rw [stg_row xl] at y4
              rw [List.getD_eq_getElem?_getD, hx']
              intro H3 e3 R2 hR2
              walk_at "sx"
              refine ⟨_, rfl, _, rfl, ?_⟩
              refine ixL (.inl (.inl (e3 _ _ y1))) (atI_n rfl y3) ?_
              refine ⟨_, rfl, ?_⟩
              refine ixL (.inl (.inl (e3 _ _ y4))) (atI_n (j := i) rfl (nz_at (x := fw G out p i x) ?_)) (hR2 _ (Ex.refl _))
              rw [List.getElem?_map, List.getElem?_range (by split <;> omega)]
              rfl
            · rw [kept_all, List.length_map, nz_len] at hD2
              have es : (List.range (row G j).length).map (fun u => V.int ((fw G out p i ((row G j).getD u 0) : Nat) : Int)) = (nz ((row G j).map fun u => fw G out p i u)).map V.int := by
                apply List.ext_getElem?
                intro u
                by_cases hu : u < (row G j).length
                · rw [List.getElem?_map, List.getElem?_range hu]
                  have hx : (row G j)[u]? = some (row G j)[u] := List.getElem?_eq_getElem hu
                  rw [nz_at (x := fw G out p i (row G j)[u]) (by rw [List.getElem?_map, hx]; rfl)]
                  show some (V.int ((fw G out p i ((row G j).getD u 0) : Nat) : Int)) = _
                  rw [List.getD_eq_getElem?_getD, hx]
                  rfl
                · rw [List.getElem?_eq_none (by rw [List.length_map, List.length_range]; omega), List.getElem?_eq_none (by rw [List.length_map, nz_len, List.length_map]; omega)]
              rw [es] at hD2
              refine sumL (.inl (.inl hD2)) ?_
              rw [sum_nz]
              refine hR _ _ ⟨?_, e7⟩
              conv => rhs; unfold fw
              rw [if_pos c]
        obtain ⟨rfl, e7⟩ := hC
        have g7 := g.ex e7
        obtain ⟨r, ys, r1, r2, r3, r4, r5, r6⟩ := g7.chg (j := j) (by rw [stg_len]; exact hj)
        simp only [List.set_cons_zero, List.set_cons_succ]
        walk_at "sx"
        refine ixL (.inl (.inl r1)) (atI_n rfl r3) ⟨tyL r4, ?_⟩
        refine appL r4 (BC.sz_lt (by rw [List.length_map, nz_len, stg_row hj, List.length_map, List.length_range]; split <;> omega)) ?_
        rw [nz_v]
        have g8 := r6 (row (stg G out p i j) j ++ [fw G out p (i + 1) j])
        rw [stg_set hj] at g8
        have nfr' : fr ≠ r := fun z => by
          subst z
          rw [hfr] at r5
          cases r5
        exact ⟨_, _, _, rfl, (e.trans e7).mut r5, by rw [upd_ne nfr']; exact e7 _ _ hf, g8⟩
      · obtain ⟨l7, l8, l9, rfl, e, hf, g⟩ := hP
        rw [stg_next] at g
        exact ⟨_, _, _, _, rfl, e, hf, g⟩
    · obtain ⟨l6, l7, l8, l9, rfl, e, hf, g⟩ := hP
      walk_at "sx"
      exact k D _ (e1.trans e) (g.back e1)
end
section
variable {P : Program} {w : World} {K : PySem.W.Frag} {mg : Str → Option Value} {base : Heap}
def spClosed (K : PySem.W.Frag) : Sp := fun vs H Q _ => ∃ (s a : Addr) (G : Grid) (out : List Nat) (p n : Nat), vs = [.ref s, .int p, .ref a, .int n] ∧ GridAt H s G ∧ SiteOk G ∧ p < G.length ∧ SqL K H a ((nz out).map V.int) ∧ n ≤ 100 ∧
  ∀ r H', H r = none → Ex H H' → H' r = some (.lst ((nz (cl G out p n)).map V.int)) → Q (.ref r) H'
theorem ok_closed_in (T : Txt K mg) : FnOk P w K mg base CX0 2 T.f_closed_in T.fd_closed_in ["site", "page", "barred", "most"] (spClosed K) := by
  refine T.F_closed_in.ok sc_closed_in (fun vs H Q E h => ?_) (fun cdv A outer s H vs Q E hr h => ?_)
  · obtain ⟨s, a, G, out, p, n, rfl, _⟩ := h
    rfl
  · obtain ⟨s, a, G, out, p, n, rfl, hS, ok, hp, hA, hn, k⟩ := h
    apply Exists.intro
    apply And.intro
    · apply pss_one
      exact (ps_ret (pe_ix (k_ix_list (K := K) rfl) (pe_call (ok_returns_to T) (hr.mono (by decide)) (by rfl) T.m_returns_to T.F_returns_to.kp T.b_returns_to .nil pass0 (pa_cons (pv 0) (pa_cons (pv 1) (pa_cons (pv 2) (pa_cons (pv 3) pa_nil))))) (pv 1) (fun _ _ => rfl)))
    walk_at "sx"
    refine ⟨s, a, G, out, p, n, rfl, hS, ok, hp, hA, hn, fun r H1 e1 g => ?_⟩
    obtain ⟨q, xs, q1, q2, q3, q4, q5⟩ := g.get (i := p) (by rw [stg_len]; exact hp)
    rw [stg_cl hp] at q4
    exact ixL (.inl (.inl q1)) (atI_n rfl q3) (k q H1 q5 e1 q4)
def spParts (K : PySem.W.Frag) : Sp := fun vs H Q _ => ∃ (s a : Addr) (G : Grid) (L : List Nat) (n : Nat), vs = [.ref s, .ref a, .int n] ∧ GridAt H s G ∧ SiteOk G ∧ SqL K H a ((nz L).map V.int) ∧ L.length ≤ 100 ∧ (∀ x ∈ L, x < G.length) ∧ n ≤ 100 ∧
  ∀ r H', Ex H H' → GridN H H' r (prs G L n) → Q (.ref r) H'
def PvP (H : Hp) (G : Grid) (L : List Nat) (n : Nat) (D : Addr) (i : Nat) (H' : Hp) : Prop := Ex H H' ∧ GridN H H' D ((List.range i).map fun i => cl G (L.take i) (L.getD i 0) n)
theorem ok_parts_in (T : Txt K mg) : FnOk P w K mg base CX0 3 T.f_parts_in T.fd_parts_in ["site", "pages", "most"] (spParts K) := by
  refine T.F_parts_in.ok sc_parts_in (fun vs H Q E h => ?_) (fun cdv A outer s H vs Q E hr h => ?_)
  · obtain ⟨s, a, G, L, n, rfl, _⟩ := h
    rfl
  · obtain ⟨s, a, G, L, n, rfl, hS, ok, hA, hl, lt, hn, k⟩ := h
    apply Exists.intro
    apply And.intro
    · apply pss_one
      exact (ps_ret (pe_lc (own := [("place", 3), ("page", 4)]) rfl sc_parts_in.nd (k_pi_enum (K := K) rfl (by rfl) T.n_enumerate (pa_cons (pv 1) pa_nil)) (blkOk_by (own := [("place", 3), ("page", 4)]) (N := ["site", "pages", "most", "place", "page"]) (sc := defScope s_parts_in) (by decide +kernel)) (fun _ _ _ _ _ => by exact (k_tup (K := K) (n := 2) rfl rfl (pgs_cons (pg_name (i := 3) sc_parts_in.nd rfl (.inl rfl)) (pgs_cons (pg_name (i := 4) sc_parts_in.nd rfl (.inl rfl)) pgs_nil)))) (fun _ _ _ _ _ => by exact pts_nil) (fun _ _ _ _ _ => by exact (pe_call (ok_closed_in T) (hr.mono (by decide)) (by rfl) T.m_closed_in T.F_closed_in.kp T.b_closed_in .nil pass0 (pa_cons (pv 0) (pa_cons (pv 4) (pa_cons (pe_slice (k_sl_list (K := K) rfl) (pv 1) po_none (po_some (pv 3))) (pa_cons (pv 2) pa_nil))))))))
    walk_at "sx"
    refine ⟨_, hA, fun D nD => ?_⟩
    have nDD := nD
    refine lc_enumE (xs := (nz L).map V.int) (PvP H G L n D) ⟨Ex.new nD, nD, [], upd_same, rfl, List.nodup_nil, List.not_mem_nil, fun i p e => by simp at e⟩ (fun i H' _ hP => ex_l hP.1 hA) (fun i x H' T hx hP nT => ?_) (fun H' hP => ?_)
    · obtain ⟨e, g⟩ := hP
      obtain ⟨x, hx', rfl⟩ := at_nz hx
      have hi := (List.getElem?_eq_some_iff.mp hx').1
      have xl := lt x (List.mem_of_getElem? hx')
      refine g_two upd_same ⟨by rfl, ?_⟩
      have eT := Ex.new nT (o := .tup [V.int i, V.int x])
      simp only [wipe, List.set_cons_zero, List.set_cons_succ]
      have e1 := e.trans eT
      walk_at "sx"
      refine slL (ex_l e1 hA) fun sl nsl => ?_
      rw [cut_take]
      have es := Ex.new nsl (o := .lst (((nz L).map V.int).take i))
      refine ⟨s, sl, G, L.take i, x, n, rfl, hS.ex (e1.trans es), ok, xl, .inl (.inl (by rw [upd_same]; unfold nz; rw [List.map_take, List.map_take])), hn, fun r H3 nr e3 hr => ?_⟩
      have e4 := (eT.trans es).trans e3
      have nr0 : H' r = none := fresh_back (eT.trans es) nr
      obtain ⟨ys, h1, h2, g3⟩ := g.push (fresh_back e nr0) nr0 (Nw.of e4) hr
      refine ⟨ys, h1, BC.sz_lt (by rw [h2, List.length_map, List.length_range]; omega), (e.trans e4).mut nDD, ?_⟩
      rw [List.range_succ, List.map_append]
      have gx : L.getD i 0 = x := by rw [List.getD_eq_getElem?_getD, hx']; rfl
      show GridN H _ D (_ ++ [cl G (L.take i) (L.getD i 0) n])
      rw [gx]
      exact g3
    · obtain ⟨e, g⟩ := hP
      rw [List.length_map, nz_len] at g
      exact k D H' e g
def spLoops (K : PySem.W.Frag) : Sp := fun vs H Q _ => ∃ (s a : Addr) (G : Grid) (L : List Nat) (n : Nat), vs = [.ref s, .ref a, .int n] ∧ GridAt H s G ∧ SiteOk G ∧ SqL K H a ((nz L).map V.int) ∧ L.length ≤ 12 ∧ (∀ x ∈ L, x < G.length) ∧ n ≤ 60 ∧
  ∀ r H', H r = none → Ex H H' → H' r = some (.lst ((nz (fold n (prs G L n))).map V.int)) → Q (.ref r) H'
def JLo (H : Hp) (s a : Addr) (G : Grid) (L : List Nat) (n : Nat) (i : Nat) (σ' : L2.St) (H' : Hp) : Prop := ∃ f l4, σ' = [some (.ref s), some (.ref a), some (.int n), some (.ref f), l4] ∧ H f = none ∧ Ex H H' ∧ H' f = some (.lst ((nz (fold n ((prs G L n).take i))).map V.int))
theorem prs_mem {G : Grid} {L : List Nat} {n : Nat} {q : List Nat} (h : q ∈ prs G L n) : ∃ out p, q = cl G out p n := by
  unfold prs at h
  obtain ⟨i, _, rfl⟩ := List.mem_map.mp h
  exact ⟨_, _, rfl⟩
theorem ok_loops_in (T : Txt K mg) : FnOk P w K mg base CX0 4 T.f_loops_in T.fd_loops_in ["site", "pages", "most"] (spLoops K) := by
  refine T.F_loops_in.ok sc_loops_in (fun vs H Q E h => ?_) (fun cdv A outer s H vs Q E hr h => ?_)
  · obtain ⟨s, a, G, L, n, rfl, _⟩ := h
    rfl
  · obtain ⟨s, a, G, L, n, rfl, hS, ok, hA, hl, lt, hn, k⟩ := h
    apply Exists.intro
    apply And.intro
    · apply pss_cons
      · exact (ps_set (i := 3) sc_loops_in.nd rfl (.inl rfl) (pe_op op_cat (pe_lst (pa_cons pe_int pa_nil)) (pe_op op_rep (pe_lst (pa_cons pe_int pa_nil)) (pv 2))))
      apply pss_cons
      · apply ps_for PassesOwn.never rfl
        · exact (k_pi_list (K := K) rfl (pe_call (ok_parts_in T) (hr.mono (by decide)) (by rfl) T.m_parts_in T.F_parts_in.kp T.b_parts_in .nil pass0 (pa_cons (pv 0) (pa_cons (pv 1) (pa_cons (pv 2) pa_nil)))))
        · exact (pg_name (i := 4) sc_loops_in.nd rfl (.inl rfl))
        · apply pss_one
          exact (ps_set (i := 3) sc_loops_in.nd rfl (.inl rfl) (pe_call (ok_times T) (hr.mono (by decide)) (by rfl) T.m_times T.F_times.kp T.b_times .nil pass0 (pa_cons (pv 3) (pa_cons (pv 4) (pa_cons (pv 2) pa_nil)))))
      apply pss_one
      exact (ps_ret (pv 3))
    have small : ∀ q ∈ prs G L n, ∀ x ∈ q, x ≤ 12 ^ n := fun q hq => by
      obtain ⟨out, p, rfl⟩ := prs_mem hq
      exact cl_le ok out p n
    walk_at "sx"
    refine ⟨sz_ok (by omega), fun z nz1 => ⟨sz_ok (by omega), fun y ny => ?_⟩⟩
    have s1 := Ex.new nz1 (o := .lst [V.int 1])
    have s2 := s1.trans (Ex.new ny (o := .lst [V.int 0]))
    refine repL upd_same (by omega) (by omega) (sz_ok (by simp; omega)) fun x nx => ?_
    have s3 := s2.trans (Ex.new nx (o := .lst (List.replicate (n : Int).toNat [V.int 0]).flatten))
    have nzy : z ≠ y := ne_of_none upd_same ny
    have nzx : z ≠ x := ne_of_none (by rw [upd_ne nzy]; exact upd_same) nx
    refine catL (by rw [upd_ne nzx, upd_ne nzy, upd_same]) upd_same (sz_ok (by rw [rep_one]; simp; omega)) fun f nf => ?_
    have s4 := s3.trans (Ex.new nf (o := .lst ([V.int 1] ++ (List.replicate (n : Int).toNat [V.int 0]).flatten)))
    have nfH := fresh_back s3 nf
    have hf : (upd (upd (upd (upd H z (.lst [V.int 1])) y (.lst [V.int 0])) x (.lst (List.replicate (n : Int).toNat [V.int 0]).flatten)) f (.lst ([V.int 1] ++ (List.replicate (n : Int).toNat [V.int 0]).flatten))) f = some (.lst ((nz (fold n ((prs G L n).take 0))).map V.int)) := by
      rw [upd_same, rep_one, Int.toNat_natCast]
      show _ = some (HO.lst ((nz (1 :: List.replicate n 0)).map V.int))
      unfold nz
      rw [List.map_cons, List.map_cons, List.map_replicate, List.map_replicate]
      rfl
    generalize (upd (upd (upd (upd H z (.lst [V.int 1])) y (.lst [V.int 0])) x (.lst (List.replicate (n : Int).toNat [V.int 0]).flatten)) f (.lst ([V.int 1] ++ (List.replicate (n : Int).toNat [V.int 0]).flatten))) = H1 at s4 hf ⊢
    refine ⟨s, a, G, L, n, rfl, hS.ex s4, ok, ex_l s4 hA, by omega, lt, by omega, fun r H2 e2 g => ?_⟩
    have e02 := s4.trans e2
    obtain ⟨ps, hr, pl, hrow⟩ := g.at
    refine ⟨r, rfl, ⟨_, .inl (.inl hr)⟩, ?_⟩
    have nr : H1 r = none := g.1
    refine lg_list (xs := ps.map V.ref) (fun i σ' H' => JLo H s a G L n i σ' H' ∧ Ex H2 H') ⟨⟨f, none, rfl, nfH, e02, e2 _ _ hf⟩, Ex.refl _⟩ (fun i σ' H' _ hP => .inl (.inl (hP.2 _ _ hr))) (fun i x σ' H' hx hP => ?_) (fun σ' H' hP => ?_)
    · obtain ⟨⟨f, l4, rfl, nf, e, hf⟩, e2'⟩ := hP
      rw [List.getElem?_map] at hx
      obtain ⟨p, hp, rfl⟩ : ∃ p, ps[i]? = some p ∧ x = .ref p := by
        cases q : ps[i]? with
        | none => rw [q] at hx; cases hx
        | some p => rw [q] at hx; cases hx; exact ⟨p, rfl, rfl⟩
      have hi := (List.getElem?_eq_some_iff.mp hp).1
      have hpp := e2' _ _ (hrow i p hp)
      have hat : (prs G L n)[i]? = some (row (prs G L n) i) := at_row (by omega)
      have hm := List.mem_of_getElem? hat
      have rlen : (row (prs G L n) i).length = n + 1 := by
        obtain ⟨out, q, e⟩ := prs_mem hm
        rw [e, cl_len]
      walk_at "sx"
      refine ⟨f, p, fold n ((prs G L n).take i), row (prs G L n) i, n, rfl, .inl (.inl hf), .inl (.inl hpp), fold_len _ _, rlen, by omega, fun x hx => ?_, fun x hx => Nat.lt_of_le_of_lt (small _ hm x hx) (big_cl hn), fun q H3 nq e3 hq => ?_⟩
      · exact Nat.lt_of_le_of_lt (fold_le small i x hx) (big_fold hn (by rw [prs_len] at pl; omega))
      · rw [← fold_snoc hat] at hq
        exact ⟨⟨q, _, rfl, fresh_back e nq, e.trans e3, hq⟩, e2'.trans e3⟩
    · obtain ⟨⟨f, l4, rfl, nf, e, hf⟩, _⟩ := hP
      walk_at "sx"
      rw [List.length_map, pl, List.take_of_length_le (Nat.le_refl _)] at hf
      exact k f H' nf e hf
end
end LW

set_option Elab.async false
set_option linter.all false
set_option maxRecDepth 100000
set_option maxHeartbeats 4000000
namespace LW
open PySem PySem.Spec PyProof.Rows L2 BC Evl TR
local macro_rules | `(tactic| walk_at "sx") => `(tactic| try simp only [x_callF2, x_seq, x_next, x_brk, x_cnt, x_nev, x_ret, x_retN, x_drop, x_ifS, x_asg, x_gn, x_gsub, x_par, x_par3, x_aug, x_for, x_lc, x_rng1, x_rng2, x_rng3, x_ilist, x_itup, x_ienum, x_izip, x_izipA, x_istr, x_var, x_c, x_op, x_un, x_test, x_b, x_chain, x_and, x_or, x_not, x_andV, x_orV, x_notV, x_ife, x_nil, x_cons, x_lst, x_tup, x_cb, x_call, x_callK, x_callS, x_bm, x_bm0, x_tru, x_sl, x_nopart, x_part, x_revL, x_I0, x_I, x_U, x_ip, x_ipC, x_eqI, x_neI, x_eqB, x_neB, x_eqS, x_neS, x_isB, x_isNB, x_lrg, x_gall, x_lenSet, x_augS, x_sortSet, x_sortSetB, x_lenSetA, x_rg1, x_rg2,
  L2.start, List.map_cons, List.map_nil, List.length_cons, List.length_nil, Nat.reduceAdd, Nat.reduceSub, Nat.sub_self, Nat.zero_add, List.replicate, List.replicate_succ, List.replicate_zero, List.append_nil, List.cons_append, List.nil_append, List.set_cons_zero, List.set_cons_succ, List.getElem?_cons_zero, List.getElem?_cons_succ, Option.some.injEq, V.int.injEq, V.bl.injEq, V.ref.injEq, V.str.injEq, List.cons.injEq, and_true, true_and, exists_eq_left', exists_eq_left, exists_and_left, exists_eq, if_true, if_false, ite_true, ite_false, Bool.true_eq_false, Bool.false_eq_true, reduceIte, reduceCtorEq, Bool.not_true, Bool.not_false, decide_true, decide_false, decide_eq_true_eq, Bool.and_true, Bool.true_and, Bool.and_self, Bool.and_false, Bool.false_and, Bool.or_self, Bool.or_false, Bool.false_or, Bool.or_true, Bool.true_or, eq_self])
section
variable {P : Program} {w : World} {K : PySem.W.Frag} {mg : Str → Option Value} {base : Heap}
theorem nz_numD (r : List Nat) : ((nz r).map PyData.int).map numD = nz r := by
  rw [List.map_map]
  conv => rhs; rw [← List.map_id (nz r)]
  rfl
theorem row_D {G : Grid} (ok : SiteOk G) {i : Nat} (hi : i < G.length) : isRowD i G.length (.list ((nz (row G i)).map PyData.int)) = true := by
  have hr := at_row hi
  have hall : ((nz (row G i)).map PyData.int).all (inD 0 ((G.length : Int) - 1)) = true := by
    rw [List.all_eq_true]
    intro d hd
    obtain ⟨x, hx, rfl⟩ := List.mem_map.mp hd
    obtain ⟨y, hy, rfl⟩ := List.mem_map.mp hx
    have := ok.rlt hy
    show (decide ((0 : Int) ≤ (y : Int)) && decide ((y : Int) ≤ (G.length : Int) - 1)) = true
    rw [decide_eq_true (by omega), decide_eq_true (by omega)]
    rfl
  have e : isRowD i G.length (.list ((nz (row G i)).map PyData.int)) = (decide ((i : Int) ∉ ((nz (row G i)).map PyData.int).map numD) && decide ((((nz (row G i)).map PyData.int).map numD).Pairwise (· < ·))) := if_pos hall
  rw [e, nz_numD]
  have h1 : (i : Int) ∉ nz (row G i) := fun m => by
    obtain ⟨y, hy, e⟩ := List.mem_map.mp m
    have : y = i := by exact Int.ofNat.inj e
    rw [this] at hy
    exact ok.no i _ hr hy
  have h2 : (nz (row G i)).Pairwise (· < ·) := by
    unfold nz
    rw [List.pairwise_map]
    exact (ok.asc i _ hr).imp fun h => by omega
  rw [decide_eq_true h1, decide_eq_true h2]
  rfl
theorem site_D {G : Grid} (ok : SiteOk G) : isSiteD (dG G) = true := by
  have n1 := ok.n1
  have n2 := ok.n2
  have e : isSiteD (dG G) = (List.range (G.map fun r => PyData.list ((nz r).map PyData.int)).length).all fun i => isRowD i (G.map fun r => PyData.list ((nz r).map PyData.int)).length ((G.map fun r => PyData.list ((nz r).map PyData.int)).getD i .none) := if_pos (by rw [List.length_map]; exact ⟨n1, n2⟩)
  rw [e, List.all_eq_true]
  intro i hi
  rw [List.mem_range, List.length_map] at hi
  rw [List.length_map, List.getD_eq_getElem?_getD, List.getElem?_map, at_row hi]
  exact row_D ok hi
theorem rows_D {G : Grid} (ok : SiteOk G) : RowsL (dG G) := fun ds h e he => by
  cases h
  obtain ⟨r, hr, rfl⟩ := List.mem_map.mp he
  intro es h2
  cases h2
  obtain ⟨i, hi, e⟩ := List.getElem_of_mem hr
  have := ok.len (List.getElem?_eq_some_iff.mpr ⟨hi, e⟩)
  rw [List.length_map, nz_len]
  omega
def numsD : PyData → List Int
  | .list ds => ds.map numD
  | _ => []
/-- pages that are valid -/
theorem pages_D {H : Hp} {v : V} {d : PyData} {m : Nat} (h : De K H v d) (c : isPagesD m d = true) : ∃ (a : Addr) (L : List Nat), v = .ref a ∧ SqL K H a ((nz L).map V.int) ∧ L.Nodup ∧ (∀ x ∈ L, x < m) ∧ nz L = numsD d := by
  cases h with
  | @lst a xs ds hA hx =>
    have c' : (ds.all (inD 0 ((m : Int) - 1)) && decide (ds.map numD).Nodup) = true := c
    rw [Bool.and_eq_true, decide_eq_true_eq] at c'
    obtain ⟨ex, hn⟩ := de_nums hx c'.1
    have e : nz ((ds.map numD).map Int.toNat) = ds.map numD := by
      unfold nz
      rw [List.map_map]
      conv => rhs; rw [← List.map_id (ds.map numD)]
      exact List.map_congr_left fun x hx => Int.toNat_of_nonneg (hn x hx).1
    refine ⟨a, (ds.map numD).map Int.toNat, rfl, ?_, ?_, fun x hx => ?_, e⟩
    · rw [e, ← ex]
      exact hA
    · have h2 := c'.2
      unfold List.Nodup at h2 ⊢
      rw [List.pairwise_map]
      refine (List.pairwise_iff_getElem.mpr fun i j hi hj lt => ?_)
      have h3 := List.pairwise_iff_getElem.mp h2 i j hi hj lt
      have hi' := hn _ (List.getElem_mem hi)
      have hj' := hn _ (List.getElem_mem hj)
      omega
    · obtain ⟨y, hy, rfl⟩ := List.mem_map.mp hx
      have := hn y hy
      omega
  | _ => cases c
/-- the first of the arguments that is wrong -/
def spLPE (K : PySem.W.Frag) (Cs Cp Cn : Addr) : Sp := fun vs H Q E => ∃ (v0 v2 v3 : V) (d0 d2 d3 : PyData), vs = [v0, v2, v3] ∧ De K H v0 d0 ∧ RowsL d0 ∧ De K H v2 d2 ∧ LenL d2 ∧ De K H v3 d3 ∧
  (isSiteD d0 = false → ∀ H', Ex H H' → E (.ref Cs) none H') ∧
  (isSiteD d0 = true → ∃ (s : Addr) (G : Grid), v0 = .ref s ∧ d0 = dG G ∧ GridAt H s G ∧ SiteOk G ∧ (isPagesD G.length d2 = false → ∀ H', Ex H H' → E (.ref Cp) none H') ∧
    (isPagesD G.length d2 = true → (inR 0 60 v3 = false → ∀ H', Ex H H' → E (.ref Cn) none H') ∧ (inR 0 60 v3 = true → ∀ r H', Ex H H' → Q (.ref r) H')))
theorem ok_loop_parts (T : Txt K mg) : FnOk P w K mg base (L2.CX P w) 5 T.f_loop_parts T.fd_loop_parts ["site", "pages", "most"] (spLPE K T.C_InvalidSiteError T.C_InvalidPagesError T.C_InvalidNumberError) := by
  refine T.F_loop_parts.okX sc_loop_parts (fun vs H Q E h => ?_) (fun cdv A outer s H vs Q E hr h => ?_)
  · obtain ⟨v0, v2, v3, d0, d2, d3, rfl, _⟩ := h
    rfl
  · obtain ⟨v0, v2, v3, d0, d2, d3, rfl, h0, hrw, h2, hl, h3, k1, k2⟩ := h
    apply Exists.intro
    apply And.intro
    · apply pss_cons
      · exact (ps_expr (pe_callS (ok_check_site T) (hr.mono (by decide)) (by rfl) T.m_check_site T.F_check_site.kp T.b_check_site (fun σ => passAt (takes_of rfl rfl rfl rfl) σ) (pa_cons (pv 0) pa_nil)))
      apply pss_cons
      · exact (ps_expr (pe_callS (ok_check_pages T) (hr.mono (by decide)) (by rfl) T.m_check_pages T.F_check_pages.kp T.b_check_pages (fun σ => passAt (takes_of rfl rfl rfl rfl) σ) (pa_cons (pv 0) (pa_cons (pv 1) pa_nil))))
      apply pss_cons
      · exact (ps_expr (pe_callS (ok_check_number T) (hr.mono (by decide)) (by rfl) T.m_check_number T.F_check_number.kp T.b_check_number (fun σ => passAt (takes_of rfl rfl rfl rfl) σ) (pa_cons (pv 2) (pa_cons pe_int (pa_cons (pe_glob (v := .int 60) rfl T.c_MOST_STEPS ⟨_, rfl⟩) pa_nil)))))
      apply pss_one
      exact (ps_ret (pe_call (ok_parts_in T) (hr.mono (by decide)) (by rfl) T.m_parts_in T.F_parts_in.kp T.b_parts_in .nil pass0 (pa_cons (pv 0) (pa_cons (pv 1) (pa_cons (pv 2) pa_nil)))))
    walk_at "sx"
    refine ⟨v0, d0, rfl, h0, hrw, fun c H1 e1 => ?_, k1⟩
    obtain ⟨s, G, rfl, rfl, hS, ok, k3, k4⟩ := k2 c
    obtain ⟨xs, hs, hxl, _⟩ := (hS.ex e1).lst
    refine ⟨s, xs, v2, d2, rfl, .inl (.inl hs), by rw [hxl]; exact ok.n2, De.ex e1 _ _ h2, hl, ?_, ?_⟩
    · rw [hxl]
      intro c2 H2 e2
      obtain ⟨k5, k6⟩ := k4 c2
      have e12 := e1.trans e2
      refine ⟨v3, 0, 60, rfl, de_kd (De.ex e12 _ _ h3), fun c3 => ?_, fun c3 => k5 c3 _ e12⟩
      obtain ⟨n, rfl, n0, n1⟩ := inR_int c3
      obtain ⟨n, rfl⟩ : ∃ q : Nat, n = (q : Int) := ⟨n.toNat, by omega⟩
      obtain ⟨a, L, rfl, hA, nd, lt, enz⟩ := pages_D (De.ex e12 _ _ h2) c2
      have n2 := ok.n2
      have ll := nodup_lt _ nd lt
      exact ⟨s, a, G, L, n, rfl, hS.ex e12, ok, hA, by omega, lt, by omega, fun r H3 e3 g => k6 c3 r H3 (e12.trans e3)⟩
    · rw [hxl]
      exact fun c2 H2 e2 => k3 c2 _ (e1.trans e2)
theorem ok_loop_numbers (T : Txt K mg) : FnOk P w K mg base (L2.CX P w) 5 T.f_loop_numbers T.fd_loop_numbers ["site", "pages", "most"] (spLPE K T.C_InvalidSiteError T.C_InvalidPagesError T.C_InvalidNumberError) := by
  refine T.F_loop_numbers.okX sc_loop_numbers (fun vs H Q E h => ?_) (fun cdv A outer s H vs Q E hr h => ?_)
  · obtain ⟨v0, v2, v3, d0, d2, d3, rfl, _⟩ := h
    rfl
  · obtain ⟨v0, v2, v3, d0, d2, d3, rfl, h0, hrw, h2, hl, h3, k1, k2⟩ := h
    apply Exists.intro
    apply And.intro
    · apply pss_cons
      · exact (ps_expr (pe_callS (ok_check_site T) (hr.mono (by decide)) (by rfl) T.m_check_site T.F_check_site.kp T.b_check_site (fun σ => passAt (takes_of rfl rfl rfl rfl) σ) (pa_cons (pv 0) pa_nil)))
      apply pss_cons
      · exact (ps_expr (pe_callS (ok_check_pages T) (hr.mono (by decide)) (by rfl) T.m_check_pages T.F_check_pages.kp T.b_check_pages (fun σ => passAt (takes_of rfl rfl rfl rfl) σ) (pa_cons (pv 0) (pa_cons (pv 1) pa_nil))))
      apply pss_cons
      · exact (ps_expr (pe_callS (ok_check_number T) (hr.mono (by decide)) (by rfl) T.m_check_number T.F_check_number.kp T.b_check_number (fun σ => passAt (takes_of rfl rfl rfl rfl) σ) (pa_cons (pv 2) (pa_cons pe_int (pa_cons (pe_glob (v := .int 60) rfl T.c_MOST_STEPS ⟨_, rfl⟩) pa_nil)))))
      apply pss_one
      exact (ps_ret (pe_call (ok_loops_in T) (hr.mono (by decide)) (by rfl) T.m_loops_in T.F_loops_in.kp T.b_loops_in .nil pass0 (pa_cons (pv 0) (pa_cons (pv 1) (pa_cons (pv 2) pa_nil)))))
    walk_at "sx"
    refine ⟨v0, d0, rfl, h0, hrw, fun c H1 e1 => ?_, k1⟩
    obtain ⟨s, G, rfl, rfl, hS, ok, k3, k4⟩ := k2 c
    obtain ⟨xs, hs, hxl, _⟩ := (hS.ex e1).lst
    refine ⟨s, xs, v2, d2, rfl, .inl (.inl hs), by rw [hxl]; exact ok.n2, De.ex e1 _ _ h2, hl, ?_, ?_⟩
    · rw [hxl]
      intro c2 H2 e2
      obtain ⟨k5, k6⟩ := k4 c2
      have e12 := e1.trans e2
      refine ⟨v3, 0, 60, rfl, de_kd (De.ex e12 _ _ h3), fun c3 => ?_, fun c3 => k5 c3 _ e12⟩
      obtain ⟨n, rfl, n0, n1⟩ := inR_int c3
      obtain ⟨n, rfl⟩ : ∃ q : Nat, n = (q : Int) := ⟨n.toNat, by omega⟩
      obtain ⟨a, L, rfl, hA, nd, lt, enz⟩ := pages_D (De.ex e12 _ _ h2) c2
      have n2 := ok.n2
      have ll := nodup_lt _ nd lt
      exact ⟨s, a, G, L, n, rfl, hS.ex e12, ok, hA, by omega, lt, by omega, fun r H3 nr e3 hr' => k6 c3 r H3 (e12.trans e3)⟩
    · rw [hxl]
      exact fun c2 H2 e2 => k3 c2 _ (e1.trans e2)
def spCWE (K : PySem.W.Frag) (Cs Cg Cp Cn : Addr) : Sp := fun vs H Q E => ∃ (v0 v1 v2 v3 : V) (d0 d1 d2 d3 : PyData), vs = [v0, v1, v2, v3] ∧ De K H v0 d0 ∧ RowsL d0 ∧ De K H v1 d1 ∧ De K H v2 d2 ∧ LenL d2 ∧ De K H v3 d3 ∧
  (isSiteD d0 = false → ∀ H', Ex H H' → E (.ref Cs) none H') ∧
  (isSiteD d0 = true → ∃ (s : Addr) (G : Grid), v0 = .ref s ∧ d0 = dG G ∧ GridAt H s G ∧ SiteOk G ∧ (inR 0 ((G.length : Nat) - 1) v1 = false → ∀ H', Ex H H' → E (.ref Cg) none H') ∧ (inR 0 ((G.length : Nat) - 1) v1 = true → (isPagesD G.length d2 = false → ∀ H', Ex H H' → E (.ref Cp) none H') ∧
    ∀ p, v1 = .int p → isPagesD G.length d2 = true → (p ∈ numsD d2 → ∀ H', Ex H H' → E (.ref Cp) none H') ∧ (p ∉ numsD d2 → (inR 0 60 v3 = false → ∀ H', Ex H H' → E (.ref Cn) none H') ∧ (inR 0 60 v3 = true → ∀ r H', Ex H H' → Q (.ref r) H'))))
theorem ok_closed_walks (T : Txt K mg) : FnOk P w K mg base (L2.CX P w) 5 T.f_closed_walks T.fd_closed_walks ["site", "page", "barred", "most"] (spCWE K T.C_InvalidSiteError T.C_InvalidPageError T.C_InvalidPagesError T.C_InvalidNumberError) := by
  refine T.F_closed_walks.okX sc_closed_walks (fun vs H Q E h => ?_) (fun cdv A outer s H vs Q E hr h => ?_)
  · obtain ⟨v0, v1, v2, v3, d0, d1, d2, d3, rfl, _⟩ := h
    rfl
  · obtain ⟨v0, v1, v2, v3, d0, d1, d2, d3, rfl, h0, hrw, h1, h2, hl, h3, k1, k2⟩ := h
    apply Exists.intro
    apply And.intro
    · apply pss_cons
      · exact (ps_expr (pe_callS (ok_check_site T) (hr.mono (by decide)) (by rfl) T.m_check_site T.F_check_site.kp T.b_check_site (fun σ => passAt (takes_of rfl rfl rfl rfl) σ) (pa_cons (pv 0) pa_nil)))
      apply pss_cons
      · exact (ps_expr (pe_callS (ok_check_page T) (hr.mono (by decide)) (by rfl) T.m_check_page T.F_check_page.kp T.b_check_page (fun σ => passAt (takes_of rfl rfl rfl rfl) σ) (pa_cons (pv 0) (pa_cons (pv 1) pa_nil))))
      apply pss_cons
      · exact (ps_expr (pe_callS (ok_check_pages T) (hr.mono (by decide)) (by rfl) T.m_check_pages T.F_check_pages.kp T.b_check_pages (fun σ => passAt (takes_of rfl rfl rfl rfl) σ) (pa_cons (pv 0) (pa_cons (pv 2) pa_nil))))
      apply pss_cons
      · apply ps_if
        · exact (pt_cmpR (k_in (K := K) rfl) (pv 1) (pv 2) (by rfl))
        · apply pss_one
          exact (ps_raise rfl (takes_of rfl rfl rfl rfl) (pmk_own PySem.F.excBase_ValueError T.x_InvalidPagesError T.g_InvalidPagesError T.k_InvalidPagesError (raises_own T.b_InvalidPagesError T.t_InvalidPagesError) (by rfl)))
        · exact pss_nil
      apply pss_cons
      · exact (ps_expr (pe_callS (ok_check_number T) (hr.mono (by decide)) (by rfl) T.m_check_number T.F_check_number.kp T.b_check_number (fun σ => passAt (takes_of rfl rfl rfl rfl) σ) (pa_cons (pv 3) (pa_cons pe_int (pa_cons (pe_glob (v := .int 60) rfl T.c_MOST_STEPS ⟨_, rfl⟩) pa_nil)))))
      apply pss_one
      exact (ps_ret (pe_call (ok_closed_in T) (hr.mono (by decide)) (by rfl) T.m_closed_in T.F_closed_in.kp T.b_closed_in .nil pass0 (pa_cons (pv 0) (pa_cons (pv 1) (pa_cons (pv 2) (pa_cons (pv 3) pa_nil))))))
    walk_at "sx"
    refine ⟨v0, d0, rfl, h0, hrw, fun c H1 e1 => ?_, k1⟩
    obtain ⟨s, G, rfl, rfl, hS, ok, k3, k4⟩ := k2 c
    obtain ⟨xs, hs, hxl, _⟩ := (hS.ex e1).lst
    refine ⟨s, xs, v1, rfl, .inl (.inl hs), de_kd (De.ex e1 _ _ h1), ?_, ?_⟩
    · rw [hxl]
      intro c1
      obtain ⟨k5, k6⟩ := k4 c1
      refine ⟨s, xs, v2, d2, rfl, .inl (.inl hs), by rw [hxl]; exact ok.n2, De.ex e1 _ _ h2, hl, ?_, ?_⟩
      · rw [hxl]
        intro c2 H2 e2
        have e12 := e1.trans e2
        obtain ⟨i, rfl, i0, i1⟩ := inR_int c1
        obtain ⟨i, rfl⟩ : ∃ q : Nat, i = (q : Int) := ⟨i.toNat, by omega⟩
        obtain ⟨a, L, rfl, hA, nd, lt, enz⟩ := pages_D h2 c2
        obtain ⟨k7, k8⟩ := k6 _ rfl c2
        rw [← enz] at k7 k8
        have n2 := ok.n2
        have ll := nodup_lt _ nd lt
        have hA2 := ex_l e12 hA
        refine inL hA2 ⟨_, rfl, ?_⟩
        by_cases m : (i : Int) ∈ nz L
        · rw [decide_eq_true m, if_pos rfl]
          exact k7 m _ e12
        · rw [decide_eq_false m, if_neg (by decide)]
          obtain ⟨k9, k10⟩ := k8 m
          refine ⟨v3, 0, 60, rfl, de_kd (De.ex e12 _ _ h3), fun c3 => ?_, fun c3 => k9 c3 _ e12⟩
          obtain ⟨n, rfl, n0, n1⟩ := inR_int c3
          obtain ⟨n, rfl⟩ : ∃ q : Nat, n = (q : Int) := ⟨n.toNat, by omega⟩
          exact ⟨s, a, G, L, i, n, rfl, hS.ex e12, ok, by omega, hA2, by omega, fun r H3 nr e3 hr' => k10 c3 r H3 (e12.trans e3)⟩
      · rw [hxl]
        exact fun c2 H2 e2 => k5 c2 _ (e1.trans e2)
    · rw [hxl]
      exact fun c1 => k3 c1 _ e1
end
end LW

set_option Elab.async false
set_option linter.all false
set_option maxRecDepth 100000
set_option maxHeartbeats 4000000
namespace LW
open PySem PySem.Spec PyProof.Rows L2 BC Evl TR
local macro_rules | `(tactic| walk_at "sx") => `(tactic| try simp only [x_callF2, x_seq, x_next, x_brk, x_cnt, x_nev, x_ret, x_retN, x_drop, x_ifS, x_asg, x_gn, x_gsub, x_par, x_par3, x_aug, x_for, x_lc, x_rng1, x_rng2, x_rng3, x_ilist, x_itup, x_ienum, x_izip, x_izipA, x_istr, x_var, x_c, x_op, x_un, x_test, x_b, x_chain, x_and, x_or, x_not, x_andV, x_orV, x_notV, x_ife, x_nil, x_cons, x_lst, x_tup, x_cb, x_call, x_callK, x_callS, x_bm, x_bm0, x_tru, x_sl, x_nopart, x_part, x_revL, x_I0, x_I, x_U, x_ip, x_ipC, x_eqI, x_neI, x_eqB, x_neB, x_eqS, x_neS, x_isB, x_isNB, x_lrg, x_gall, x_lenSet, x_augS, x_sortSet, x_sortSetB, x_lenSetA, x_rg1, x_rg2,
  L2.start, List.map_cons, List.map_nil, List.length_cons, List.length_nil, Nat.reduceAdd, Nat.reduceSub, Nat.sub_self, Nat.zero_add, List.replicate, List.replicate_succ, List.replicate_zero, List.append_nil, List.cons_append, List.nil_append, List.set_cons_zero, List.set_cons_succ, List.getElem?_cons_zero, List.getElem?_cons_succ, Option.some.injEq, V.int.injEq, V.bl.injEq, V.ref.injEq, V.str.injEq, List.cons.injEq, and_true, true_and, exists_eq_left', exists_eq_left, exists_and_left, exists_eq, if_true, if_false, ite_true, ite_false, Bool.true_eq_false, Bool.false_eq_true, reduceIte, reduceCtorEq, Bool.not_true, Bool.not_false, decide_true, decide_false, decide_eq_true_eq, Bool.and_true, Bool.true_and, Bool.and_self, Bool.and_false, Bool.false_and, Bool.or_self, Bool.or_false, Bool.false_or, Bool.or_true, Bool.true_or, eq_self])
section
variable {P : Program} {w : World} {K : PySem.W.Frag} {mg : Str → Option Value} {base : Heap}
def spOpen (K : PySem.W.Frag) : Sp := fun vs H Q _ => ∃ (a : Addr) (ns : List Int) (k : Nat), vs = [.ref a, .int k] ∧ SqL K H a (ns.map V.int) ∧ ns.length ≤ 63 ∧ ∀ p H', H p = none → Ex H H' → BagAt H' p 0 → Q (.ref p) H'
theorem ok_law_open_source (T : Txt K mg) : FnOk P w K mg base CX0 1 T.f_law_open_source T.fd_law_open_source ["_law_script", "_law_k"] (spOpen K) := by
  refine T.F_law_open_source.ok sc_law_open_source (fun vs H Q E h => ?_) (fun cdv A outer s H vs Q E hr h => ?_)
  · obtain ⟨a, ns, k, rfl, _⟩ := h
    rfl
  · obtain ⟨a, ns, i, rfl, hA, hl, k⟩ := h
    apply Exists.intro
    apply And.intro
    · apply pss_cons
      · exact (ps_set (i := 2) sc_law_open_source.nd rfl (.inl rfl) pe_int)
      apply pss_cons
      · apply ps_if
        · exact (pt_cmpR op_lt (pv 1) (pe_callB (k_len (K := K) rfl) (by rfl) T.n_len PySem.boot_len (pa_cons (pv 0) pa_nil)) (by rfl))
        · apply pss_one
          exact (ps_set (i := 2) sc_law_open_source.nd rfl (.inl rfl) (pe_ix (k_ix_list (K := K) rfl) (pv 0) (pv 1) (fun _ _ => rfl)))
        · exact pss_nil
      apply pss_one
      exact (ps_ret (pe_lst (pa_cons (pe_callB (call_max2 rfl) (by rfl) T.n_max (by decide +kernel) (pa_cons pe_int (pa_cons (pe_op op_sub (pv 2) (pe_op op_powX pe_int pe_int)) pa_nil))) (pa_cons (pe_op op_add (pe_op op_mulX (pe_op op_modX (pv 2) (pe_op op_add (pe_op op_powX pe_int pe_int) pe_int)) pe_int) (pe_op op_modX (pv 1) pe_int)) (pa_cons pe_int pa_nil)))))
    refine seq_asg (fun v H' => v = .int 0 ∧ H' = H) (fun R hR => hR _ _ ⟨rfl, rfl⟩) (fun v H1 hC => ?_)
    obtain ⟨rfl, rfl⟩ := hC
    refine seq_cut (fun σ' H' => ∃ n : Int, σ' = [some (.ref a), some (.int i), some (.int n)] ∧ H' = H1) (fun N hN => ?_) (fun σ' H' hC => ?_)
    · walk_at "sx"
      refine lenL hA ?_
      walk_at "sx"
      rw [List.length_map]
      by_cases c : (i : Int) < (ns.length : Nat)
      · rw [if_pos c]
        have hx : ns[i]? = some ns[i] := List.getElem?_eq_getElem (by omega)
        exact ixL hA (atI_n rfl (at_ints hx)) (hN _ _ ⟨_, rfl, rfl⟩)
      · rw [if_neg c]
        exact hN _ _ ⟨_, rfl, rfl⟩
    obtain ⟨n, rfl, rfl⟩ := hC
    walk_at "sx"
    have t60 : Int.toNat 60 = 60 := rfl
    rw [t60]
    have m0 : 0 ≤ n % (10 ^ 60 + 7) := Int.emod_nonneg _ (by decide)
    have m1 : n % (10 ^ 60 + 7) < 10 ^ 60 + 7 := Int.emod_lt_of_pos _ (by decide)
    have m2 : 0 ≤ (i : Int) % 64 := Int.emod_nonneg _ (by decide)
    have m3 : (i : Int) % 64 < 64 := Int.emod_lt_of_pos _ (by decide)
    refine ⟨⟨by decide, by decide, by decide⟩, _, _, ⟨rfl, rfl⟩, ⟨by decide, by decide, by decide⟩, by decide, .inl (.inr ⟨by decide, by decide⟩), by decide, sz_ok (by omega), fun p np => ?_⟩
    refine k p _ np (Ex.new np) ⟨_, _, _, upd_same, by omega, by omega, by omega, by omega⟩
theorem ok_law_draw (T : Txt K mg) : FnOk P w K mg base CX0 1 T.f_law_draw T.fd_law_draw ["_law_source", "_law_limit"] spDraw := by
  refine T.F_law_draw.ok sc_law_draw (fun vs H Q E h => ?_) (fun cdv A outer s H vs Q E hr h => ?_)
  · obtain ⟨b, m, c, rfl, _⟩ := h
    rfl
  · obtain ⟨b, m, c, rfl, h1, h2, hB, hc, k⟩ := h
    obtain ⟨x0, x1, x2, hb, h3, h4, h5, h6⟩ := hB
    apply Exists.intro
    apply And.intro
    · apply pss_cons
      · apply ps_if
        · exact (pt_cmpR op_gt (pe_ix (k_ix_list (K := K) rfl) (pv 0) pe_int (fun _ _ => rfl)) pe_int (by rfl))
        · apply pss_cons
          · exact (ps_set (i := 3) sc_law_draw.nd rfl (.inl rfl) (pe_op op_modX (pe_ix (k_ix_list (K := K) rfl) (pv 0) pe_int (fun _ _ => rfl)) (pv 1)))
          apply pss_cons
          · exact (ps_asg (pe_op op_fdivX (pe_ix (k_ix_list (K := K) rfl) (pv 0) pe_int (fun _ _ => rfl)) (pv 1)) (pg_sub (pv 0) pe_int set_list))
          apply pss_one
          exact (ps_ret (pv 3))
        · exact pss_nil
      apply pss_cons
      · exact (ps_asg (pe_op op_add (pe_ix (k_ix_list (K := K) rfl) (pv 0) pe_int (fun _ _ => rfl)) pe_int) (pg_sub (pv 0) pe_int set_list))
      apply pss_cons
      · exact (ps_set (i := 2) sc_law_draw.nd rfl (.inl rfl) (pe_op op_modX (pe_op op_powX (pe_op op_add (pe_op op_add (pe_ix (k_ix_list (K := K) rfl) (pv 0) pe_int (fun _ _ => rfl)) (pe_op op_mulX (pe_op op_mulX pe_int (pe_ix (k_ix_list (K := K) rfl) (pv 0) pe_int (fun _ _ => rfl))) (pe_ix (k_ix_list (K := K) rfl) (pv 0) pe_int (fun _ _ => rfl)))) pe_int) pe_int) pe_int))
      apply pss_cons
      · exact (ps_set (i := 2) sc_law_draw.nd rfl (.inl rfl) (pe_op op_modX (pe_op op_powX (pe_op op_add (pv 2) (pe_op op_mulX pe_int (pe_ix (k_ix_list (K := K) rfl) (pv 0) pe_int (fun _ _ => rfl)))) pe_int) pe_int))
      apply pss_one
      exact (ps_ret (pe_op op_modX (pe_op op_fdivX (pv 2) pe_int) (pv 1)))
    walk_at "sx"
    refine ixL (.inl (.inl hb)) (atI_n (j := 0) rfl rfl) ?_
    walk_at "sx"
    have hdm : ∀ i, CDivW i m := fun i => wide_div (b := 2001) h1 (big_lt h1 h2) (by omega) (by omega)
    by_cases h0 : 0 < x0
    · simp only [h0, if_true]
      refine ixL (.inl (.inl hb)) (atI_n (j := 0) rfl rfl) ?_
      walk_at "sx"
      refine ⟨h1, ?_⟩
      refine ixL (.inl (.inl hb)) (atI_n (j := 0) rfl rfl) ?_
      walk_at "sx"
      refine ⟨hdm _, ?_⟩
      refine setL hb (ixN_n (j := 0) rfl (by simp)) ?_
      exact k _ _ (Int.emod_nonneg _ (by omega)) (Int.emod_lt_of_pos _ h1) Fx.put ⟨_, _, _, upd_same, h3, h4, h5, by omega⟩
    · simp only [h0, if_false]
      refine ixL (.inl (.inl hb)) (atI_n (j := 2) rfl rfl) ?_
      walk_at "sx"
      refine setL hb (ixN_n (j := 2) rfl (by simp)) ?_
      have hb2 : (upd H b (.lst [V.int x0, V.int x1, V.int (x2 + 1)])) b = some (.lst [V.int x0, V.int x1, V.int (x2 + 1)]) := upd_same
      refine ixL (.inl (.inl hb2)) (atI_n (j := 1) rfl rfl) ?_
      walk_at "sx"
      refine ixL (.inl (.inl hb2)) (atI_n (j := 2) rfl rfl) ?_
      walk_at "sx"
      refine ⟨.inl (.inl ⟨by decide, by decide⟩), ?_⟩
      refine ixL (.inl (.inl hb2)) (atI_n (j := 2) rfl rfl) ?_
      walk_at "sx"
      have y0 : 0 ≤ x2 + 1 ∧ x2 + 1 ≤ 1000001 := by omega
      have sq0 : 0 ≤ 40503 * (x2 + 1) * (x2 + 1) := Int.mul_nonneg (by omega) (by omega)
      have sq1 : 40503 * (x2 + 1) * (x2 + 1) ≤ 40503 * 1000001 * 1000001 := Int.mul_le_mul (by omega) y0.2 (by omega) (by omega)
      refine ⟨.inl (.inl ⟨by omega, by omega⟩), ⟨by decide, by decide, Nat.lt_of_lt_of_le (log2_small (k := 300) (by decide) (by omega)) (by decide)⟩, by decide, ?_⟩
      generalize hz : (x1 + 40503 * (x2 + 1) * (x2 + 1) + 11) ^ Int.toNat 3 % 2305843009213693951 = z
      have hz0 : 0 ≤ z := by rw [← hz]; exact Int.emod_nonneg _ (by decide)
      have hz1 : z < 2305843009213693951 := by rw [← hz]; exact Int.emod_lt_of_pos _ (by decide)
      refine ixL (.inl (.inl hb2)) (atI_n (j := 2) rfl rfl) ?_
      walk_at "sx"
      have c4 : CPowX (z + 69621 * (x2 + 1)) 3 := ⟨by decide, by decide, Nat.lt_of_lt_of_le (log2_small (k := 300) (by decide) (by omega)) (by decide)⟩
      refine ⟨.inl (.inl ⟨by decide, by decide⟩), c4, by decide, ⟨by decide, by decide⟩, h1, ?_⟩
      exact k _ _ (Int.emod_nonneg _ (by omega)) (Int.emod_lt_of_pos _ h1) Fx.put ⟨_, _, _, hb2, h3, h4, by omega, by omega⟩
end
section
variable {P : Program} {w : World} {K : PySem.W.Frag} {mg : Str → Option Value} {base : Heap}
theorem fx_l0 {b a : Addr} {H H' : Hp} {xs : List V} (x : Fx b H H') (n : H b = none) (h : SqL K H a xs) : SqL K H' a xs := by
  rcases h with h | h
  · rcases h with h | ⟨o, h⟩
    · exact .inl (.inl (x a _ (ne_of_none h n) h))
    · exact .inl (.inr ⟨o, x a _ (ne_of_none h n) h⟩)
  · exact .inr h
/-- a drawn site -/
def spSite (K : PySem.W.Frag) : Sp := fun vs H Q _ => ∃ (b a : Addr) (ns : List Int) (mo c : Nat), vs = [.ref b, .ref a, .int mo] ∧ (∃ H0 : Hp, H0 b = none ∧ Fx b H0 H ∧ SqL K H0 a (ns.map V.int)) ∧ 1 ≤ mo ∧ mo ≤ 12 ∧ BagAt H b c ∧ c ≤ 100000 ∧
  ∀ s (G : Grid) H', Fx b H H' → BagAt H' b (c + 200) → GridN H H' s G → SiteOk G → G.length ≤ max 5 mo → Q (.ref s) H'
def RowsOk (m : Nat) (G : Grid) : Prop := ∀ (i : Nat) (r : List Nat), G[i]? = some r → r.Pairwise (· < ·) ∧ (∀ x ∈ r, x < m) ∧ i ∉ r
def JNe (H : Hp) (b a : Addr) (mo m c : Nat) (st ds : Int) (i : Nat) (σ' : L2.St) (H' : Hp) : Prop := ∃ f l5 l8 l9 l10 l11 G, σ' = [some (.ref b), some (.ref a), some (.int mo), some (.int m), some (.ref f), l5, some (.int st), some (.int ds), l8, l9, l10, l11] ∧
  Fx b H H' ∧ BagAt H' b (c + 6 + m * i) ∧ GridN H H' f G ∧ G.length = i ∧ RowsOk m G
def JRo (H0 : Hp) (b a : Addr) (mo m c : Nat) (st ds : Int) (f r : Addr) (i : Nat) (j : Nat) (σ' : L2.St) (H' : Hp) : Prop := ∃ l9 l10 l11 R, σ' = [some (.ref b), some (.ref a), some (.int mo), some (.int m), some (.ref f), some (.int (i : Int)), some (.int st), some (.int ds), some (.ref r), l9, l10, l11] ∧
  Fx b H0 H' ∧ BagAt H' b (c + 6 + m * i + j) ∧ H' r = some (.lst ((nz R).map V.int)) ∧ R.Pairwise (· < ·) ∧ (∀ x ∈ R, x < j) ∧ i ∉ R
theorem ok_law_site (T : Txt K mg) : FnOk P w K mg base CX0 2 T.f_law_site T.fd_law_site ["_law_source", "_law_script", "_law_most"] (spSite K) := by
  refine T.F_law_site.ok sc_law_site (fun vs H Q E h => ?_) (fun cdv A outer s H vs Q E hr h => ?_)
  · obtain ⟨b, a, ns, mo, c, rfl, _⟩ := h
    rfl
  · obtain ⟨b, a, ns, mo, c, rfl, ⟨H0, nb0, f0, hA⟩, m1, m2, hB, hc, k⟩ := h
    apply Exists.intro
    apply And.intro
    · apply pss_cons
      · exact (ps_set (i := 3) sc_law_site.nd rfl (.inl rfl) (pe_ix (k_ix_list (K := K) rfl) (pe_lst (pa_cons (pe_op op_add pe_int (pe_call (ok_law_draw T) (hr.mono (by decide)) (by rfl) T.m_law_draw T.F_law_draw.kp T.b_law_draw .nil pass0 (pa_cons (pv 0) (pa_cons pe_int pa_nil)))) (pa_cons (pe_op op_add pe_int (pe_call (ok_law_draw T) (hr.mono (by decide)) (by rfl) T.m_law_draw T.F_law_draw.kp T.b_law_draw .nil pass0 (pa_cons (pv 0) (pa_cons (pv 2) pa_nil)))) (pa_cons (pv 2) pa_nil)))) (pe_call (ok_law_draw T) (hr.mono (by decide)) (by rfl) T.m_law_draw T.F_law_draw.kp T.b_law_draw .nil pass0 (pa_cons (pv 0) (pa_cons pe_int pa_nil))) (fun _ _ => rfl)))
      apply pss_cons
      · exact (ps_par (i := 6) (j := 7) (by rfl) sc_law_site.nd rfl rfl (by decide) rfl rfl (pa_cons (pe_call (ok_law_draw T) (hr.mono (by decide)) (by rfl) T.m_law_draw T.F_law_draw.kp T.b_law_draw .nil pass0 (pa_cons (pv 0) (pa_cons pe_int pa_nil))) (pa_cons (pe_op op_add pe_int (pe_call (ok_law_draw T) (hr.mono (by decide)) (by rfl) T.m_law_draw T.F_law_draw.kp T.b_law_draw .nil pass0 (pa_cons (pv 0) (pa_cons pe_int pa_nil)))) pa_nil)) (by rfl))
      apply pss_cons
      · apply ps_if
        · exact (pt_cmpR (k_eqD (K := K) rfl hr.units) (pv 1) (pe_lst pa_nil) (by rfl))
        · apply pss_one
          exact (ps_par3 (i := 3) (j := 6) (l := 7) (by rfl) sc_law_site.nd rfl rfl rfl (by decide) (by decide) (by decide) rfl rfl rfl (pa_cons (pe_callB (call_min2 rfl) (by rfl) T.n_min (by decide +kernel) (pa_cons pe_int (pa_cons (pv 2) pa_nil))) (pa_cons pe_int (pa_cons pe_int pa_nil))) (by rfl))
        · exact pss_nil
      apply pss_cons
      · exact (ps_set (i := 4) sc_law_site.nd rfl (.inl rfl) (pe_lst pa_nil))
      apply pss_cons
      · apply ps_for PassesOwn.never rfl
        · exact (pi_range1 (by rfl) T.n_range (pa_cons (pv 3) pa_nil))
        · exact (pg_name (i := 5) sc_law_site.nd rfl (.inl rfl))
        · apply pss_cons
          · exact (ps_set (i := 8) sc_law_site.nd rfl (.inl rfl) (pe_lst pa_nil))
          apply pss_cons
          · apply ps_for PassesOwn.never rfl
            · exact (pi_range1 (by rfl) T.n_range (pa_cons (pv 3) pa_nil))
            · exact (pg_name (i := 9) sc_law_site.nd rfl (.inl rfl))
            · apply pss_cons
              · exact (ps_set (i := 10) sc_law_site.nd rfl (.inl rfl) (pe_cmpR op_lt (pe_call (ok_law_draw T) (hr.mono (by decide)) (by rfl) T.m_law_draw T.F_law_draw.kp T.b_law_draw .nil pass0 (pa_cons (pv 0) (pa_cons pe_int pa_nil))) (pv 7) (by rfl)))
              apply pss_cons
              · apply ps_if
                · exact (PW.pt (pw_and (pt_cmpR op_eq (pv 6) pe_int (by rfl)) (pw_and1 (pt_cmpR op_lt (pv 9) (pv 5) (by rfl)))))
                · apply pss_one
                  exact (ps_set (i := 10) sc_law_site.nd rfl (.inl rfl) (pe_cmpR (k_in (K := K) rfl) (pv 5) (pe_ix (k_ix_list (K := K) rfl) (pv 4) (pv 9) (fun _ _ => rfl)) (by rfl)))
                · exact pss_nil
              apply pss_cons
              · exact (ps_set (i := 11) sc_law_site.nd rfl (.inl rfl) (pe_lst (pa_cons pe_bl (pa_cons (pv 10) (pa_cons (pe_cmpR op_eq (pv 9) (pe_op op_modX (pe_op op_add (pv 5) pe_int) (pv 3)) (by rfl)) (pa_cons (pe_cmpR op_eq (pe_callB call_abs (by rfl) T.n_abs (by decide +kernel) (pa_cons (pe_op op_sub (pv 9) (pv 5)) pa_nil)) pe_int (by rfl)) (pa_cons (pv 10) (pa_cons pe_bl pa_nil))))))))
              apply pss_one
              apply ps_if
              · exact (PW.pt (pw_and (pt_cmpR op_ne (pv 9) (pv 5) (by rfl)) (pw_and1 (pt_val (pe_ix (k_ix_list (K := K) rfl) (pv 11) (pv 6) (fun _ _ => rfl))))))
              · apply pss_one
                exact (ps_expr (k_bm (K := K) rfl (pe_bm PySem.F.plainAttrs_list PySem.F.slot_list_append PySem.F.type_list_append mt_append (pv 8) (pa_cons (pv 9) pa_nil))))
              · exact pss_nil
          apply pss_one
          exact (ps_expr (k_bm (K := K) rfl (pe_bm PySem.F.plainAttrs_list PySem.F.slot_list_append PySem.F.type_list_append mt_append (pv 4) (pa_cons (pv 8) pa_nil))))
      apply pss_one
      exact (ps_ret (pv 4))
    obtain ⟨ob, hob⟩ := hB.some
    refine seq_asg (fun v H' => ∃ m : Nat, v = .int m ∧ 1 ≤ m ∧ m ≤ max 5 mo ∧ Fx b H H' ∧ BagAt H' b (c + 3)) (fun R hR => ?_) (fun v H1 hC => ?_)
    · walk_at "sx"
      refine ⟨b, _, _, rfl, by omega, big_of (by omega), hB, by omega, fun r1 H1 r10 r11 f1 b1 => ?_⟩
      walk_at "sx"
      refine ⟨b, _, _, rfl, by omega, big_of (by omega), b1, by omega, fun r2 H2 r20 r21 f2 b2 => ?_⟩
      walk_at "sx"
      refine ⟨sz_ok (by omega), fun z nz => ?_⟩
      have ez := Ex.new nz (o := .lst [V.int (1 + r1), V.int (1 + r2), V.int mo])
      refine ⟨b, _, _, rfl, by omega, big_of (by omega), b2.ex ez, by omega, fun r3 H3 r30 r31 f3 b3 => ?_⟩
      obtain ⟨x, hx, em⟩ := pickI (ns := [1 + r1, 1 + r2, (mo : Int)]) r30 r31
      simp only [List.mem_cons, List.mem_nil_iff, or_false] at hx
      refine ixL (.inl (.inl (f3 _ _ (b2.apart nz) upd_same))) em ?_
      exact hR _ _ ⟨x.toNat, by rw [Int.toNat_of_nonneg (by omega)], by omega, by omega, ((f1.trans f2).trans (Fx.of ez)).trans f3, b3⟩
    obtain ⟨m, rfl, n1, n2, f1, b1⟩ := hC
    simp only [L2.start, List.map_cons, List.map_nil, List.set_cons_zero, List.set_cons_succ]
    refine seq_cut (fun σ' H' => ∃ (st ds : Int), σ' = [some (.ref b), some (.ref a), some (.int mo), some (.int m), none, none, some (.int st), some (.int ds), none, none, none, none] ∧ 0 ≤ st ∧ st < 6 ∧ Fx b H H' ∧ BagAt H' b (c + 5)) (fun N hN => ?_) (fun σ2 H2 hC => ?_)
    · walk_at "sx"
      refine ⟨b, _, _, rfl, by omega, big_of (by omega), b1, by omega, fun st H2 s0 s1 f2 b2 => ?_⟩
      refine ⟨b, _, _, rfl, by omega, big_of (by omega), b2, by omega, fun r H3 r0 r1 f3 b3 => ?_⟩
      walk_at "sx"
      refine ⟨_, _, ⟨rfl, rfl⟩, ?_⟩
      exact hN _ _ ⟨st, _, rfl, s0, s1, (f1.trans f2).trans f3, b3⟩
    obtain ⟨st, ds, rfl, s0, s1, f2, b2⟩ := hC
    refine seq_cut (fun σ' H' => ∃ (m : Nat) (st ds : Int), σ' = [some (.ref b), some (.ref a), some (.int mo), some (.int m), none, none, some (.int st), some (.int ds), none, none, none, none] ∧ 1 ≤ m ∧ m ≤ max 5 mo ∧ 0 ≤ st ∧ st < 6 ∧ Ex H2 H') (fun N hN => ?_) (fun σ3 H3 hC => ?_)
    · walk_at "sx"
      refine ⟨sz_ok (by omega), fun z nz => ?_⟩
      have ez := Ex.new nz (o := .lst [])
      refine eqInts (ms := []) (fx_l0 ((f0.trans f2).trans (Fx.of ez)) nb0 hA) (.inl (.inl upd_same)) ?_
      walk_at "sx"
      by_cases q : ns = []
      · rw [if_pos q]
        refine ⟨_, _, ⟨rfl, rfl⟩, ?_⟩
        refine ⟨_, _, _, ⟨rfl, rfl, rfl⟩, ?_⟩
        have : (if (mo : Int) < 4 then (mo : Int) else 4) = ((min 4 mo : Nat) : Int) := by split <;> omega
        rw [this]
        exact hN _ _ ⟨min 4 mo, 1, 2, rfl, by omega, by omega, by omega, by omega, ez⟩
      · rw [if_neg q]
        exact hN _ _ ⟨m, st, ds, rfl, n1, n2, s0, s1, ez⟩
    clear n1 n2 s0 s1
    obtain ⟨m, st, ds, rfl, n1, n2, s0, s1, e3⟩ := hC
    have f3 := f2.trans (Fx.of e3)
    have b3 := b2.ex e3
    refine seq_asg (fun v H' => ∃ f, v = .ref f ∧ Fx b H H' ∧ BagAt H' b (c + 6) ∧ GridN H H' f []) (fun R hR => ?_) (fun v H4 hC => ?_)
    · walk_at "sx"
      refine ⟨sz_ok (by omega), fun f nf => ?_⟩
      have nfb := b3.apart nf
      exact hR _ _ ⟨f, rfl, f3.trans (Fx.of (Ex.new nf)), (b3.ex (Ex.new nf)).mono (by omega), fx_none f3 nf nfb, [], upd_same, rfl, List.nodup_nil, List.not_mem_nil, fun i p e => by simp at e⟩
    obtain ⟨f, rfl, f4, b4, g4⟩ := hC
    simp only [List.set_cons_zero, List.set_cons_succ]
    walk_at "sx"
    refine ⟨by omega, by omega, ?_⟩
    rw [Int.toNat_natCast]
    refine lg_rng (JNe H b a mo m c st ds) ⟨f, none, none, none, none, none, [], rfl, f4, by simpa using b4, g4, rfl, fun i r e => by simp at e⟩ (fun i σ' H' hi hP => ?_) (fun σ' H' hP => ?_)
    · obtain ⟨f, l5, l8, l9, l10, l11, G, rfl, fx, hb, gn, gl, rok⟩ := hP
      rw [show (0 : Int) + (i : Int) = (i : Int) by omega]
      simp only [x_gn, List.set_cons_zero, List.set_cons_succ]
      have mi : m * i ≤ 132 := by
        have a : m * i ≤ 12 * 11 := Nat.mul_le_mul (by omega) (by omega)
        omega
      refine seq_asg (fun v H1 => ∃ r, v = .ref r ∧ H' r = none ∧ Ex H' H1 ∧ H1 r = some (.lst [])) (fun R hR => ?_) (fun v H1 hC => ?_)
      · walk_at "sx"
        exact ⟨sz_ok (by omega), fun r nr => hR _ _ ⟨r, rfl, nr, Ex.new nr, upd_same⟩⟩
      obtain ⟨r, rfl, nr, e1, hr⟩ := hC
      have nrb := hb.apart nr
      simp only [List.set_cons_zero, List.set_cons_succ]
      refine seq_cut (fun σ' H2 => ∃ l9 l10 l11 R, σ' = [some (.ref b), some (.ref a), some (.int mo), some (.int m), some (.ref f), some (.int (i : Int)), some (.int st), some (.int ds), some (.ref r), l9, l10, l11] ∧ Fx b H' H2 ∧ BagAt H2 b (c + 6 + m * i + m) ∧ H2 r = some (.lst ((nz R).map V.int)) ∧ R.Pairwise (· < ·) ∧ (∀ x ∈ R, x < m) ∧ i ∉ R) (fun N hN => ?_) (fun σ2 H2 hC => ?_)
      · walk_at "sx"
        refine ⟨by omega, by omega, ?_⟩
        rw [Int.toNat_natCast]
        refine lg_rng (JRo H' b a mo m c st ds f r i) ⟨l9, l10, l11, [], rfl, Fx.of e1, hb.ex e1, hr, List.Pairwise.nil, fun x h => (List.not_mem_nil h).elim, List.not_mem_nil⟩ (fun j σ' H3 hj hP => ?_) (fun σ' H3 hP => ?_)
        · obtain ⟨l9, l10, l11, R, rfl, fx3, b3, hr3, pw, lt, no⟩ := hP
          rw [show (0 : Int) + (j : Int) = (j : Int) by omega]
          simp only [x_gn, List.set_cons_zero, List.set_cons_succ]
          refine seq_asg (fun v H4 => ∃ bc : Bool, v = .bl bc ∧ Fx b H3 H4 ∧ BagAt H4 b (c + 6 + m * i + (j + 1))) (fun R' hR => ?_) (fun v H4 hC => ?_)
          · walk_at "sx"
            refine ⟨b, _, _, rfl, by omega, big_of (by omega), b3, by omega, fun r4 H4 r40 r41 f4 b4 => ?_⟩
            walk_at "sx"
            exact hR _ _ ⟨_, rfl, f4, b4⟩
          obtain ⟨bc, rfl, f4, b4⟩ := hC
          have hr4 := f4 _ _ nrb hr3
          simp only [List.set_cons_zero, List.set_cons_succ]
          refine seq_cut (fun σ' H5 => ∃ bc : Bool, σ' = [some (.ref b), some (.ref a), some (.int mo), some (.int m), some (.ref f), some (.int (i : Int)), some (.int st), some (.int ds), some (.ref r), some (.int (j : Int)), some (.bl bc), l11] ∧ H5 = H4) (fun N2 hN2 => ?_) (fun σ5 H5 hC => ?_)
          · walk_at "sx"
            by_cases c1 : st = 4
            · rw [if_pos c1]
              by_cases c2 : (j : Int) < (i : Int)
              · rw [if_pos c2]
                obtain ⟨q, xs, q1, q2, q3, q4⟩ := (gn.nw (Nw.fx hob (fx3.trans f4))).at.get (i := j) (by omega)
                refine ixL (.inl (.inl q1)) (atI_n rfl q3) ?_
                exact inL (.inl (.inl q4)) (hN2 _ _ ⟨_, rfl, rfl⟩)
              · rw [if_neg c2]
                exact hN2 _ _ ⟨_, rfl, rfl⟩
            · rw [if_neg c1]
              exact hN2 _ _ ⟨_, rfl, rfl⟩
          obtain ⟨bc, rfl, rfl⟩ := hC
          refine seq_asg (fun v H6 => ∃ q x y z : Bool, ∃ g, v = .ref g ∧ H5 g = none ∧ Ex H5 H6 ∧ H6 g = some (.lst [.bl true, .bl bc, .bl x, .bl y, .bl bc, .bl false])) (fun R' hR => ?_) (fun v H6 hC => ?_)
          · walk_at "sx"
            refine ⟨by omega, sz_ok (by simp), fun g ng => ?_⟩
            exact hR _ _ ⟨true, _, _, true, g, rfl, ng, Ex.new ng, upd_same⟩
          obtain ⟨_, x, y, _, g, rfl, ng, e6, hg⟩ := hC
          have hr6 := e6 _ _ hr4
          obtain ⟨v, hv, ev⟩ := pick (xs := [V.bl true, .bl bc, .bl x, .bl y, .bl bc, .bl false]) s0 s1
          obtain ⟨bb, rfl⟩ : ∃ bb, v = .bl bb := by
            simp only [List.mem_cons, List.mem_nil_iff, or_false] at hv
            rcases hv with rfl | rfl | rfl | rfl | rfl | rfl <;> exact ⟨_, rfl⟩
          have b6 := b4.ex e6
          have f36 := (fx3.trans f4).trans (Fx.of e6)
          simp only [List.set_cons_zero, List.set_cons_succ]
          walk_at "sx"
          by_cases c1 : (j : Int) = (i : Int)
          · rw [decide_eq_true c1]
            walk_at "sx"
            exact ⟨_, _, _, R, rfl, f36, b6, hr6, pw, fun x hx => by have := lt x hx; omega, no⟩
          · rw [decide_eq_false c1]
            walk_at "sx"
            refine ixL (.inl (.inl hg)) ev ⟨_, rfl, ?_⟩
            cases bb with
            | true =>
              rw [if_pos rfl]
              have rl : R.length ≤ j := nodup_lt j (asc_nodup pw) lt
              refine ⟨tyL hr6, appL hr6 (BC.sz_lt (by rw [List.length_map, nz_len]; omega)) ?_⟩
              rw [nz_v]
              refine ⟨_, _, _, R ++ [j], rfl, f36.mut nr, b6.off nrb, upd_same, ?_, fun x hx => ?_, fun hx => ?_⟩
              · rw [List.pairwise_append]
                refine ⟨pw, List.pairwise_singleton _ _, fun x hx y hy => ?_⟩
                rw [List.mem_singleton.mp hy]
                exact lt x hx
              · rcases List.mem_append.mp hx with h | h
                · have := lt x h; omega
                · rw [List.mem_singleton.mp h]; omega
              · rcases List.mem_append.mp hx with h | h
                · exact no h
                · have := List.mem_singleton.mp h
                  omega
            | false =>
              rw [if_neg (by decide)]
              exact ⟨_, _, _, R, rfl, f36, b6, hr6, pw, fun x hx => by have := lt x hx; omega, no⟩
        · obtain ⟨l9, l10, l11, R, rfl, fx3, b3, hr3, pw, lt, no⟩ := hP
          exact hN _ _ ⟨_, _, _, R, rfl, fx3, b3, hr3, pw, lt, no⟩
      obtain ⟨l9', l10', l11', R, rfl, f12, b12, hr2, pw, lt, no⟩ := hC
      have nw := Nw.fx hob f12
      have nrH : H r = none := fx_none fx nr nrb
      obtain ⟨xs, hf, xl, g3⟩ := gn.push nrH nr nw hr2
      walk_at "sx"
      refine ⟨tyL hf, appL hf (BC.sz_lt (by omega)) ?_⟩
      have nfb : f ≠ b := fun e => by subst e; rw [gn.1] at hob; cases hob
      refine ⟨f, _, _, _, _, _, G ++ [R], rfl, (fx.trans f12).mut gn.1, ((b12.off nfb).mono ?_), g3, by rw [List.length_append, List.length_singleton, gl], fun u x e => ?_⟩
      · have e : m * (i + 1) = m * i + m := Nat.mul_succ m i
        omega
      · by_cases hu : u < G.length
        · rw [List.getElem?_append_left hu] at e
          exact rok u x e
        · rw [List.getElem?_append_right (by omega)] at e
          have hu2 : u - G.length = 0 := by
            have := (List.getElem?_eq_some_iff.mp e).1
            rw [List.length_singleton] at this
            omega
          rw [hu2] at e
          obtain rfl : R = x := by simpa using e
          have : u = i := by omega
          subst this
          exact ⟨pw, lt, no⟩
    · obtain ⟨f, l5, l8, l9, l10, l11, G, rfl, fx, hb, gn, gl, rok⟩ := hP
      walk_at "sx"
      have mi : m * m ≤ 144 := by
        have a : m * m ≤ 12 * 12 := Nat.mul_le_mul (by omega) (by omega)
        omega
      exact k f G _ fx (hb.mono (by omega)) gn ⟨by omega, by omega, fun i r e => (rok i r e).1, fun i r e x hx => by rw [gl]; exact (rok i r e).2.1 x hx, fun i r e => (rok i r e).2.2⟩ (by omega)
theorem seqIx {r : Int} {n : Nat} (h0 : 0 ≤ r) (h1 : r < n) : seqIndex? r n = some r.toNat := by
  unfold seqIndex?
  have e : (if r < 0 then r + (n : Int) else r) = r := if_neg (by omega)
  simp only [e]
  rw [if_pos (by simp; omega)]
theorem erase_perm : ∀ {B : List Nat} {k : Nat} {x : Nat}, B[k]? = some x → (x :: B.eraseIdx k).Perm B
  | [], _, _, h => by simp at h
  | y :: B, 0, x, h => by
    obtain rfl : y = x := by simpa using h
    exact List.Perm.refl _
  | y :: B, k + 1, x, h => by
    rw [List.getElem?_cons_succ] at h
    rw [List.eraseIdx_cons_succ]
    exact (List.Perm.swap y x _).trans ((erase_perm h).cons y)
theorem erase_map (B : List Nat) (k : Nat) : ((nz B).map V.int).eraseIdx k = (nz (B.eraseIdx k)).map V.int := by
  induction B generalizing k with
  | nil => rfl
  | cons x B ih =>
    cases k with
    | zero => rfl
    | succ k =>
      show V.int x :: ((nz B).map V.int).eraseIdx k = V.int x :: (nz (B.eraseIdx k)).map V.int
      rw [ih]
/-- drawn in another order -/
def spMixed (K : PySem.W.Frag) : Sp := fun vs H Q _ => ∃ (b a : Addr) (L : List Nat) (c : Nat), vs = [.ref b, .ref a] ∧ SqL K H a ((nz L).map V.int) ∧ L.length ≤ 100 ∧ BagAt H b c ∧ c ≤ 100000 ∧
  ∀ r (M : List Nat) H', H r = none → Fx b H H' → BagAt H' b (c + L.length) → H' r = some (.lst ((nz M).map V.int)) → M.Perm L → Q (.ref r) H'
def PvS (H : Hp) (b l D : Addr) (L : List Nat) (c : Nat) (i : Nat) (H' : Hp) : Prop := ∃ A B : List Nat, H' l = some (.lst ((nz B).map V.int)) ∧ H' D = some (.lst ((nz A).map V.int)) ∧ (A ++ B).Perm L ∧ A.length = i ∧ A.length + B.length = L.length ∧ Fx b H H' ∧ BagAt H' b (c + i)
theorem ok_law_mixed (T : Txt K mg) : FnOk P w K mg base CX0 2 T.f_law_mixed T.fd_law_mixed ["_law_source", "_law_things"] (spMixed K) := by
  refine T.F_law_mixed.ok sc_law_mixed (fun vs H Q E h => ?_) (fun cdv A outer s H vs Q E hr h => ?_)
  · obtain ⟨b, a, L, c, rfl, _⟩ := h
    rfl
  · obtain ⟨b, a, L, c, rfl, hA, hl, hB, hc, k⟩ := h
    apply Exists.intro
    apply And.intro
    · apply pss_cons
      · exact (ps_set (i := 2) sc_law_mixed.nd rfl (.inr rfl) (pe_callTy (k_listOf (K := K) rfl) (by rfl) T.n_list (by decide +kernel) (pa_cons (pv 1) pa_nil)))
      apply pss_one
      exact (ps_ret (pe_lc (own := [("_law_turn", 3)]) rfl sc_law_mixed.nd (pi_range1 (by rfl) T.n_range (pa_cons (pe_callB (k_len (K := K) rfl) (by rfl) T.n_len PySem.boot_len (pa_cons (pv 2) pa_nil)) pa_nil)) (blkOk_by (own := [("_law_turn", 3)]) (N := ["_law_source", "_law_things", "_law_left", "_law_turn"]) (sc := defScope s_law_mixed) (by decide +kernel)) (fun _ _ _ _ _ => by exact (pg_name (i := 3) sc_law_mixed.nd rfl (.inl rfl))) (fun _ _ _ _ _ => by exact pts_nil) (fun _ _ _ _ _ => by exact (k_bm (K := K) rfl (pe_bm PySem.F.plainAttrs_list PySem.F.slot_list_pop PySem.F.type_list_pop mt_popAt (pv 2) (pa_cons (pe_call (ok_law_draw T) (hr.mono (by decide)) (by rfl) T.m_law_draw T.F_law_draw.kp T.b_law_draw .nil pass0 (pa_cons (pv 0) (pa_cons (pe_callB (k_len (K := K) rfl) (by rfl) T.n_len PySem.boot_len (pa_cons (pv 2) pa_nil)) pa_nil))) pa_nil))))))
    refine seq_asg (fun v H' => ∃ l, v = .ref l ∧ H l = none ∧ Ex H H' ∧ H' l = some (.lst ((nz L).map V.int))) (fun R hR => ?_) (fun v H1 hC => ?_)
    · walk_at "sx"
      exact ⟨a, _, rfl, .inl hA, fun q nq => hR _ _ ⟨q, rfl, nq, Ex.new nq, upd_same⟩⟩
    obtain ⟨l, rfl, nl, e1, hl1⟩ := hC
    have nlb := hB.apart nl
    walk_at "sx"
    refine lenL (.inl (.inl hl1)) ?_
    rw [List.length_map, nz_len]
    refine ⟨_, rfl, by omega, by omega, fun D nD => ?_⟩
    rw [Int.toNat_natCast]
    have nDl : D ≠ l := Ne.symm (ne_of_none hl1 nD)
    have nDb := (hB.ex e1).apart nD
    refine lc_rngE (lo := 0) (n := L.length) (PvS H b l D L c) ⟨[], L, (Ex.new nD) _ _ hl1, upd_same, List.Perm.refl _, rfl, by simp, (Fx.of e1).trans (Fx.of (Ex.new nD)), (hB.ex e1).off nDb⟩ (fun i H3 hi hP => ?_) (fun H3 hP => ?_)
    · obtain ⟨A, B, hB1, hA1, pm, hl, hs, fx, hb⟩ := hP
      refine ⟨rfl, ?_⟩
      simp only [wipe, List.set_cons_zero, List.set_cons_succ]
      walk_at "sx"
      refine ⟨tyL hB1, lenL (.inl (.inl hB1)) ?_⟩
      rw [List.length_map, nz_len]
      refine ⟨b, _, _, rfl, by omega, big_of (by omega), hb, by omega, fun r H4 r0 r1 f4 b4 => ?_⟩
      have hB4 := f4 _ _ nlb hB1
      have hA4 := f4 _ _ nDb hA1
      have hx : B[r.toNat]? = some B[r.toNat] := List.getElem?_eq_getElem (by omega)
      have pm2 : (A ++ [B[r.toNat]]) ++ B.eraseIdx r.toNat |>.Perm (A ++ B) := by
        rw [List.append_assoc]
        exact List.Perm.append_left A (erase_perm hx)
      have le := List.length_eraseIdx_of_lt (l := B) (i := r.toNat) (by omega)
      generalize B[r.toNat] = x at hx pm2
      refine ⟨l, _, r, r.toNat, .int (x : Int), rfl, rfl, hB4, by omega, by omega, seqIx r0 (by rw [List.length_map, nz_len]; omega), nz_at hx, ?_⟩
      refine ⟨(nz A).map V.int, by rw [upd_ne nDl]; exact hA4, BC.sz_lt (by rw [List.length_map, nz_len]; omega), A ++ [x], B.eraseIdx r.toNat, ?_, ?_, pm2.trans pm, by rw [List.length_append, List.length_singleton, hl], by rw [List.length_append, List.length_singleton, le]; omega, ?_, ?_⟩
      · rw [upd_ne (Ne.symm nDl), upd_same, erase_map]
      · rw [upd_same, nz_v]
      · exact ((fx.trans f4).mut nl).mut (fresh_back e1 nD)
      · exact (b4.off nlb).off nDb
    · obtain ⟨A, B, hB1, hA1, pm, hl, hs, fx, hb⟩ := hP
      have : B = [] := List.length_eq_zero_iff.mp (by omega)
      subst this
      rw [List.append_nil] at pm
      exact k D A H3 (fresh_back e1 nD) fx hb hA1 pm
/-- drawn pages -/
def spSome : Sp := fun vs H Q _ => ∃ (b s : Addr) (G : Grid) (mo : Int) (c : Nat), vs = [.ref b, .ref s, .int mo] ∧ GridAt H s G ∧ G.length ≤ 12 ∧ 0 ≤ mo ∧ mo ≤ 1000 ∧ BagAt H b c ∧ c ≤ 10000 ∧
  ∀ r (L : List Nat) H', H r = none → Fx b H H' → BagAt H' b (c + 20) → H' r = some (.lst ((nz L).map V.int)) → L.Nodup → (∀ x ∈ L, x < G.length) → Q (.ref r) H'
theorem ok_law_some (T : Txt K mg) : FnOk P w K mg base CX0 3 T.f_law_some T.fd_law_some ["_law_source", "_law_links", "_law_most"] spSome := by
  refine T.F_law_some.ok sc_law_some (fun vs H Q E h => ?_) (fun cdv A outer s H vs Q E hr h => ?_)
  · obtain ⟨b, s, G, mo, c, rfl, _⟩ := h
    rfl
  · obtain ⟨b, s, G, mo, c, rfl, hS, hg, m0, m1, hB, hc, k⟩ := h
    apply Exists.intro
    apply And.intro
    · apply pss_one
      exact (ps_ret (pe_slice (k_sl_list (K := K) rfl) (pe_call (ok_law_mixed T) (hr.mono (by decide)) (by rfl) T.m_law_mixed T.F_law_mixed.kp T.b_law_mixed .nil pass0 (pa_cons (pv 0) (pa_cons (pe_listRg rfl (by rfl) T.n_list (prg_1 (by rfl) T.n_range (pe_callB (k_len (K := K) rfl) (by rfl) T.n_len PySem.boot_len (pa_cons (pv 1) pa_nil)))) pa_nil))) po_none (po_some (pe_call (ok_law_draw T) (hr.mono (by decide)) (by rfl) T.m_law_draw T.F_law_draw.kp T.b_law_draw .nil pass0 (pa_cons (pv 0) (pa_cons (pe_op op_add (pv 2) pe_int) pa_nil))))))
    obtain ⟨xs, hs, hl, _⟩ := hS.lst
    walk_at "sx"
    refine lenL (.inl (.inl hs)) ?_
    rw [hl]
    refine ⟨_, rfl, .of_le (by omega) (by omega) (by omega) (by omega), fun q nq => ?_⟩
    have eq1 := Ex.new nq (o := .lst (rgV 0 ((G.length : Nat) : Int)))
    refine ⟨b, q, List.range G.length, c, rfl, .inl (.inl ?_), by rw [List.length_range]; omega, hB.ex eq1, by omega, fun r M H2 nr f2 b2 hr pm => ?_⟩
    · rw [upd_same, rgV_ints, show (((G.length : Nat) : Int) - 0).toNat = G.length by omega, show ((List.range G.length).map fun i => (0 : Int) + ((i : Nat) : Int)) = nz (List.range G.length) from List.map_congr_left fun i _ => by omega]
    have nrb := (hB.ex eq1).apart nr
    refine ⟨b, _, _, rfl, by omega, big_of (by omega), b2, by rw [List.length_range]; omega, fun t H3 t0 t1 f3 b3 => ?_⟩
    refine ⟨t, rfl, ?_⟩
    refine slL (.inl (.inl (f3 _ _ nrb hr))) fun u nu => ?_
    have eu := Ex.new nu (o := .lst (cutV ((nz M).map V.int) none (some t)))
    have nub := b3.apart nu
    rw [List.length_range] at b3
    refine k u (M.take t.toNat) _ (fresh_back eq1 (fx_none f2 (fx_none f3 nu nub) nub)) (((Fx.of eq1).trans f2).trans (f3.trans (Fx.of eu))) ((b3.ex eu).mono (by omega)) ?_ ?_ fun x hx => ?_
    · rw [upd_same]
      conv => lhs; rw [show t = ((t.toNat : Nat) : Int) by omega]
      rw [cut_take]
      unfold nz
      rw [List.map_take, List.map_take]
    · exact (pm.nodup_iff.mpr List.nodup_range).sublist (List.take_sublist _ _)
    · exact List.mem_range.mp (pm.mem_iff.mp (List.mem_of_mem_take hx))
end
end LW

set_option Elab.async false
set_option linter.all false
set_option maxRecDepth 100000
set_option maxHeartbeats 4000000
namespace LW
open PySem PySem.Spec PyProof.Rows L2 BC Evl TR
local macro_rules | `(tactic| walk_at "sx") => `(tactic| try simp only [x_callF2, x_seq, x_next, x_brk, x_cnt, x_nev, x_ret, x_retN, x_drop, x_ifS, x_asg, x_gn, x_gsub, x_par, x_par3, x_aug, x_for, x_lc, x_rng1, x_rng2, x_rng3, x_ilist, x_itup, x_ienum, x_izip, x_izipA, x_istr, x_var, x_c, x_op, x_un, x_test, x_b, x_chain, x_and, x_or, x_not, x_andV, x_orV, x_notV, x_ife, x_nil, x_cons, x_lst, x_tup, x_cb, x_call, x_callK, x_callS, x_bm, x_bm0, x_tru, x_sl, x_nopart, x_part, x_revL, x_I0, x_I, x_U, x_ip, x_ipC, x_eqI, x_neI, x_eqB, x_neB, x_eqS, x_neS, x_isB, x_isNB, x_lrg, x_gall, x_lenSet, x_augS, x_sortSet, x_sortSetB, x_lenSetA, x_rg1, x_rg2,
  L2.start, List.map_cons, List.map_nil, List.length_cons, List.length_nil, Nat.reduceAdd, Nat.reduceSub, Nat.sub_self, Nat.zero_add, List.replicate, List.replicate_succ, List.replicate_zero, List.append_nil, List.cons_append, List.nil_append, List.set_cons_zero, List.set_cons_succ, List.getElem?_cons_zero, List.getElem?_cons_succ, Option.some.injEq, V.int.injEq, V.bl.injEq, V.ref.injEq, V.str.injEq, List.cons.injEq, and_true, true_and, exists_eq_left', exists_eq_left, exists_and_left, exists_eq, if_true, if_false, ite_true, ite_false, Bool.true_eq_false, Bool.false_eq_true, reduceIte, reduceCtorEq, Bool.not_true, Bool.not_false, decide_true, decide_false, decide_eq_true_eq, Bool.and_true, Bool.true_and, Bool.and_self, Bool.and_false, Bool.false_and, Bool.or_self, Bool.or_false, Bool.false_or, Bool.or_true, Bool.true_or, eq_self])
section
variable {P : Program} {w : World} {K : PySem.W.Frag} {mg : Str → Option Value} {base : Heap}
theorem isx {H : Hp} {Q : VK} {a D C : Addr} {l l2 : List Addr} (x : IsEx H a (.ref D)) (e : ExcC K D) (m : MroIs K D l) (hD : D ∈ l) (m2 : MroIs K C l2) (t : PySem.W.typeIn K (.ref C) = some (.type "type")) (q : Q (.bl (decide (C ∈ l))) H) : rIsX K [.ref a, .ref C] H Q :=
  ⟨a, D, _, _, _, rfl, x, e, .own C, kit_own m m2 t hD, q⟩
theorem isx_ve {H : Hp} {Q : VK} {a D : Addr} {l : List Addr} (x : IsEx H a (.ref D)) (e : ExcC K D) (m : MroIs K D l) (q : Q (.bl true) H) : rIsX K [.ref a, .ty "ValueError"] H Q :=
  ⟨a, D, _, _, _, rfl, x, e, .ty _, kit_ve m, q⟩
def csA (T : Txt K mg) : List Addr := [T.C_BreadcrumbsError, T.C_EmptyHistoryError, T.C_InvalidEffectError, T.C_InvalidFormatError, T.C_InvalidLengthsError, T.C_InvalidNumberError, T.C_InvalidPageError, T.C_InvalidPagesError, T.C_InvalidSiteError, T.C_InvalidTrailError, T.C_InvalidVisitsError]
theorem dq (T : Txt K mg) {i j : Nat} {C D : Addr} (hD : (csA T)[j]? = some D) (hC : (csA T)[i]? = some C) (i0 : i ≠ 0) : decide (C ∈ [D, T.C_BreadcrumbsError]) = decide (i = j) := by
  have nd : (csA T).Nodup := T.nd
  have hB : (csA T)[0]? = some T.C_BreadcrumbsError := rfl
  by_cases e : i = j
  · subst e
    rw [hD] at hC
    cases hC
    rw [decide_eq_true (List.mem_cons_self), decide_eq_true rfl]
  · rw [decide_eq_false e]
    refine decide_eq_false fun m => ?_
    simp only [List.mem_cons, List.mem_nil_iff, or_false] at m
    rcases m with rfl | rfl
    · exact e (nd_at nd hC hD)
    · exact i0 (nd_at nd hC hB)
/-- the four errors, their places among all, their words -/
inductive Kinds (T : Txt K mg) : Nat → Addr → Str → Prop
  | site : Kinds T 8 T.C_InvalidSiteError (Str.ofString "site")
  | page : Kinds T 6 T.C_InvalidPageError (Str.ofString "page")
  | pages : Kinds T 7 T.C_InvalidPagesError (Str.ofString "pages")
  | number : Kinds T 5 T.C_InvalidNumberError (Str.ofString "number")
theorem Kinds.facts {T : Txt K mg} {j : Nat} {D : Addr} {z : Str} (k : Kinds T j D z) : ExcC K D ∧ MroIs K D [D, T.C_BreadcrumbsError] ∧ PySem.W.typeIn K (.ref D) = some (.type "type") ∧ (csA T)[j]? = some D ∧ 5 ≤ j ∧ j ≤ 8 := by
  cases k with
  | site => exact ⟨T.e_InvalidSiteError, T.r_InvalidSiteError, T.t_InvalidSiteError, rfl, by omega, by omega⟩
  | page => exact ⟨T.e_InvalidPageError, T.r_InvalidPageError, T.t_InvalidPageError, rfl, by omega, by omega⟩
  | pages => exact ⟨T.e_InvalidPagesError, T.r_InvalidPagesError, T.t_InvalidPagesError, rfl, by omega, by omega⟩
  | number => exact ⟨T.e_InvalidNumberError, T.r_InvalidNumberError, T.t_InvalidNumberError, rfl, by omega, by omega⟩
def spKind (T : Txt K mg) : Sp := fun vs H Q _ => ∃ (a D : Addr) (j : Nat) (z : Str), vs = [.ref a] ∧ IsEx H a (.ref D) ∧ Kinds T j D z ∧ ∀ H', Ex H H' → Q (.str z) H'
theorem ok_law_kind (T : Txt K mg) : FnOk P w K mg base CX0 1 T.f_law_kind T.fd_law_kind ["_law_error_here"] (spKind T) := by
  refine T.F_law_kind.ok sc_law_kind (fun vs H Q E h => ?_) (fun cdv A outer s H vs Q E hr h => ?_)
  · obtain ⟨a, D, j, z, rfl, _⟩ := h
    rfl
  · obtain ⟨a, D, j, z, rfl, x, kk, k⟩ := h
    apply Exists.intro
    apply And.intro
    · apply pss_cons
      · exact (ps_set (i := 1) sc_law_kind.nd rfl (.inl rfl) (pe_callB (k_isXT (K := K) rfl) (by rfl) T.n_isinstance (by decide +kernel) (pa_cons (pv 0) (pa_cons (pe_tup (pa_cons (pe_glob (v := .ref T.C_InvalidEffectError) (by rfl) T.g_InvalidEffectError rfl) (pa_cons (pe_glob (v := .ref T.C_InvalidFormatError) (by rfl) T.g_InvalidFormatError rfl) (pa_cons (pe_glob (v := .ref T.C_InvalidLengthsError) (by rfl) T.g_InvalidLengthsError rfl) (pa_cons (pe_glob (v := .ref T.C_EmptyHistoryError) (by rfl) T.g_EmptyHistoryError rfl) pa_nil))))) pa_nil))))
      apply pss_cons
      · exact (ps_set (i := 2) sc_law_kind.nd rfl (.inl rfl) (pe_lst (pa_cons (pe_callB (k_isX (K := K) rfl) (by rfl) T.n_isinstance (by decide +kernel) (pa_cons (pv 0) (pa_cons (pe_glob (v := .ref T.C_InvalidSiteError) (by rfl) T.g_InvalidSiteError rfl) pa_nil))) (pa_cons (pe_callB (k_isX (K := K) rfl) (by rfl) T.n_isinstance (by decide +kernel) (pa_cons (pv 0) (pa_cons (pe_glob (v := .ref T.C_InvalidPageError) (by rfl) T.g_InvalidPageError rfl) pa_nil))) pa_nil))))
      apply pss_cons
      · exact (ps_set (i := 2) sc_law_kind.nd rfl (.inl rfl) (pe_op op_cat (pv 2) (pe_lst (pa_cons (pe_callB (k_isX (K := K) rfl) (by rfl) T.n_isinstance (by decide +kernel) (pa_cons (pv 0) (pa_cons (pe_glob (v := .ref T.C_InvalidPagesError) (by rfl) T.g_InvalidPagesError rfl) pa_nil))) (pa_cons (pe_callB (k_isX (K := K) rfl) (by rfl) T.n_isinstance (by decide +kernel) (pa_cons (pv 0) (pa_cons (pe_glob (v := .ref T.C_InvalidNumberError) (by rfl) T.g_InvalidNumberError rfl) pa_nil))) pa_nil)))))
      apply pss_cons
      · exact (ps_set (i := 2) sc_law_kind.nd rfl (.inl rfl) (pe_op op_cat (pv 2) (pe_lst (pa_cons (pe_callB (k_isX (K := K) rfl) (by rfl) T.n_isinstance (by decide +kernel) (pa_cons (pv 0) (pa_cons (pe_glob (v := .ref T.C_InvalidTrailError) (by rfl) T.g_InvalidTrailError rfl) pa_nil))) (pa_cons (pe_callB (k_isX (K := K) rfl) (by rfl) T.n_isinstance (by decide +kernel) (pa_cons (pv 0) (pa_cons (pe_glob (v := .ref T.C_InvalidVisitsError) (by rfl) T.g_InvalidVisitsError rfl) pa_nil))) pa_nil)))))
      apply pss_cons
      · apply ps_if
        · exact (PW.pt (pw_or (pt_val (pv 1)) (pw_or (pt_not (pt_val (pe_callB (k_isX (K := K) rfl) (by rfl) T.n_isinstance (by decide +kernel) (pa_cons (pv 0) (pa_cons (pe_bltn (v := .ty "ValueError") (by rfl) T.n_ValueError (by decide +kernel) rfl) pa_nil))))) (pw_or1 (pt_cmpR op_ne (k_bm (K := K) rfl (pe_bm PySem.F.plainAttrs_list PySem.F.slot_list_count PySem.F.type_list_count (k_cntF (K := K) rfl) (pv 2) (pa_cons pe_bl pa_nil))) pe_int (by rfl))))))
        · apply pss_one
          exact (ps_ret pe_str)
        · exact pss_nil
      apply pss_one
      exact (ps_ret (pe_ix (k_ix_list (K := K) rfl) (pe_lst (pa_cons pe_str (pa_cons pe_str (pa_cons pe_str (pa_cons pe_str (pa_cons pe_str (pa_cons pe_str pa_nil))))))) (k_bm (K := K) rfl (pe_bm PySem.F.plainAttrs_list PySem.F.slot_list_index PySem.F.type_list_index (k_index (K := K) rfl) (pv 2) (pa_cons pe_bl pa_nil))) (fun _ _ => rfl)))
    obtain ⟨e, m, _, hj, j5, j8⟩ := kk.facts
    have hD : D ∈ [D, T.C_BreadcrumbsError] := List.mem_cons_self
    have n := fun {i : Nat} {C : Addr} (h : (csA T)[i]? = some C) (i0 : i ≠ 0) => dq T hj h i0
    have o1 := n (i := 1) rfl (by decide)
    have o2 := n (i := 2) rfl (by decide)
    have o3 := n (i := 3) rfl (by decide)
    have o4 := n (i := 4) rfl (by decide)
    have o5 := n (i := 5) rfl (by decide)
    have o6 := n (i := 6) rfl (by decide)
    have o7 := n (i := 7) rfl (by decide)
    have o8 := n (i := 8) rfl (by decide)
    have o9 := n (i := 9) rfl (by decide)
    have o10 := n (i := 10) rfl (by decide)
    rw [decide_eq_false (show ¬ 1 = j by omega)] at o1
    rw [decide_eq_false (show ¬ 2 = j by omega)] at o2
    rw [decide_eq_false (show ¬ 3 = j by omega)] at o3
    rw [decide_eq_false (show ¬ 4 = j by omega)] at o4
    rw [decide_eq_false (show ¬ 9 = j by omega)] at o9
    rw [decide_eq_false (show ¬ 10 = j by omega)] at o10
    refine seq_asg (fun v H' => v = .bl false ∧ Ex H H') (fun R hR => ?_) (fun v H1 hC => ?_)
    · walk_at "sx"
      refine ⟨sz_ok (by omega), fun p np => ?_⟩
      have x1 := Ex.new np (o := .tup [V.ref T.C_InvalidEffectError, V.ref T.C_InvalidFormatError, V.ref T.C_InvalidLengthsError, V.ref T.C_EmptyHistoryError])
      have kn := kitAny_cons' (kit_own m T.r_InvalidEffectError T.t_InvalidEffectError hD) (kitAny_cons' (kit_own m T.r_InvalidFormatError T.t_InvalidFormatError hD) (kitAny_cons' (kit_own m T.r_InvalidLengthsError T.t_InvalidLengthsError hD) (kitAny_cons' (cs := []) (kit_own m T.r_EmptyHistoryError T.t_EmptyHistoryError hD) rfl)))
      rw [o1, o2, o3, o4] at kn
      exact ⟨a, _, p, _, _, _, rfl, x.at (x1 a), e, upd_same, .cons (.own _) (.cons (.own _) (.cons (.own _) (.cons (.own _) .nil))), kn, hR _ _ ⟨rfl, x1⟩⟩
    obtain ⟨rfl, e1⟩ := hC
    try simp only [L2.start, List.map_cons, List.map_nil, List.set_cons_zero, List.set_cons_succ]
    refine seq_asg (fun v H' => ∃ p, v = .ref p ∧ Ex H H' ∧ H' p = some (.lst [.bl (decide (8 = j)), .bl (decide (6 = j))])) (fun R hR => ?_) (fun v H2 hC => ?_)
    · walk_at "sx"
      have x1 := x.at (e1 a)
      refine isx x1 e m hD T.r_InvalidSiteError T.t_InvalidSiteError (isx x1 e m hD T.r_InvalidPageError T.t_InvalidPageError ⟨sz_ok (by omega), fun p np => ?_⟩)
      rw [o8, o6]
      exact hR _ _ ⟨p, rfl, e1.trans (Ex.new np), upd_same⟩
    obtain ⟨p2, rfl, e2, h2⟩ := hC
    try simp only [List.set_cons_zero, List.set_cons_succ]
    refine seq_asg (fun v H' => ∃ p, v = .ref p ∧ Ex H H' ∧ H' p = some (.lst [.bl (decide (8 = j)), .bl (decide (6 = j)), .bl (decide (7 = j)), .bl (decide (5 = j))])) (fun R hR => ?_) (fun v H3 hC => ?_)
    · walk_at "sx"
      have x1 := x.at (e2 a)
      refine isx x1 e m hD T.r_InvalidPagesError T.t_InvalidPagesError (isx x1 e m hD T.r_InvalidNumberError T.t_InvalidNumberError ⟨sz_ok (by omega), fun p np => ?_⟩)
      rw [o7, o5]
      have ep := Ex.new np (o := .lst [V.bl (decide (7 = j)), V.bl (decide (5 = j))])
      exact catL (ep _ _ h2) upd_same (sz_ok (by simp)) fun q nq => hR _ _ ⟨q, rfl, e2.trans (ep.trans (Ex.new nq)), upd_same⟩
    obtain ⟨p3, rfl, e3, h3⟩ := hC
    try simp only [List.set_cons_zero, List.set_cons_succ]
    refine seq_asg (fun v H' => ∃ p, v = .ref p ∧ Ex H H' ∧ H' p = some (.lst [.bl (decide (8 = j)), .bl (decide (6 = j)), .bl (decide (7 = j)), .bl (decide (5 = j)), .bl false, .bl false])) (fun R hR => ?_) (fun v H4 hC => ?_)
    · walk_at "sx"
      have x1 := x.at (e3 a)
      refine isx x1 e m hD T.r_InvalidTrailError T.t_InvalidTrailError (isx x1 e m hD T.r_InvalidVisitsError T.t_InvalidVisitsError ⟨sz_ok (by omega), fun p np => ?_⟩)
      rw [o9, o10]
      have ep := Ex.new np (o := .lst [V.bl false, V.bl false])
      exact catL (ep _ _ h3) upd_same (sz_ok (by simp)) fun q nq => hR _ _ ⟨q, rfl, e3.trans (ep.trans (Ex.new nq)), upd_same⟩
    obtain ⟨p4, rfl, e4, h4⟩ := hC
    try simp only [List.set_cons_zero, List.set_cons_succ]
    walk_at "sx"
    refine isx_ve (x.at (e4 a)) e m ⟨_, rfl, ?_⟩
    rw [if_neg (by decide)]
    cases kk with
    | site =>
      refine ⟨tyL h4, p4, _, _, rfl, rfl, .inl (.inl h4), rfl, rfl, ?_⟩
      refine x_neI.mpr ⟨_, rfl, ?_⟩
      rw [if_neg (by decide)]
      refine ⟨sz_ok (by omega), fun q nq => ?_⟩
      have e8 := Ex.new nq (o := .lst [V.str (Str.ofString "site"), V.str (Str.ofString "page"), V.str (Str.ofString "pages"), V.str (Str.ofString "number"), V.str (Str.ofString "trail"), V.str (Str.ofString "visits")])
      have h8 := e8 _ _ h4
      refine ⟨tyL h8, p4, _, _, 0, V.bl true, rfl, rfl, .inl (.inl h8), rfl, rfl, rfl, rfl, fun m z' hm hz => ?_, ?_⟩
      · match m, hm, hz with
        | q, hm, _ => exact absurd hm (by omega)
      · refine ixL (.inl (.inl upd_same)) (atI_n (j := 0) rfl rfl) ?_
        exact k _ (e4.trans e8)
    | page =>
      refine ⟨tyL h4, p4, _, _, rfl, rfl, .inl (.inl h4), rfl, rfl, ?_⟩
      refine x_neI.mpr ⟨_, rfl, ?_⟩
      rw [if_neg (by decide)]
      refine ⟨sz_ok (by omega), fun q nq => ?_⟩
      have e8 := Ex.new nq (o := .lst [V.str (Str.ofString "site"), V.str (Str.ofString "page"), V.str (Str.ofString "pages"), V.str (Str.ofString "number"), V.str (Str.ofString "trail"), V.str (Str.ofString "visits")])
      have h8 := e8 _ _ h4
      refine ⟨tyL h8, p4, _, _, 1, V.bl true, rfl, rfl, .inl (.inl h8), rfl, rfl, rfl, rfl, fun m z' hm hz => ?_, ?_⟩
      · match m, hm, hz with
        | 0, _, hz => cases hz; rfl
      · refine ixL (.inl (.inl upd_same)) (atI_n (j := 1) rfl rfl) ?_
        exact k _ (e4.trans e8)
    | pages =>
      refine ⟨tyL h4, p4, _, _, rfl, rfl, .inl (.inl h4), rfl, rfl, ?_⟩
      refine x_neI.mpr ⟨_, rfl, ?_⟩
      rw [if_neg (by decide)]
      refine ⟨sz_ok (by omega), fun q nq => ?_⟩
      have e8 := Ex.new nq (o := .lst [V.str (Str.ofString "site"), V.str (Str.ofString "page"), V.str (Str.ofString "pages"), V.str (Str.ofString "number"), V.str (Str.ofString "trail"), V.str (Str.ofString "visits")])
      have h8 := e8 _ _ h4
      refine ⟨tyL h8, p4, _, _, 2, V.bl true, rfl, rfl, .inl (.inl h8), rfl, rfl, rfl, rfl, fun m z' hm hz => ?_, ?_⟩
      · match m, hm, hz with
        | 0, _, hz => cases hz; rfl
        | 1, _, hz => cases hz; rfl
      · refine ixL (.inl (.inl upd_same)) (atI_n (j := 2) rfl rfl) ?_
        exact k _ (e4.trans e8)
    | number =>
      refine ⟨tyL h4, p4, _, _, rfl, rfl, .inl (.inl h4), rfl, rfl, ?_⟩
      refine x_neI.mpr ⟨_, rfl, ?_⟩
      rw [if_neg (by decide)]
      refine ⟨sz_ok (by omega), fun q nq => ?_⟩
      have e8 := Ex.new nq (o := .lst [V.str (Str.ofString "site"), V.str (Str.ofString "page"), V.str (Str.ofString "pages"), V.str (Str.ofString "number"), V.str (Str.ofString "trail"), V.str (Str.ofString "visits")])
      have h8 := e8 _ _ h4
      refine ⟨tyL h8, p4, _, _, 3, V.bl true, rfl, rfl, .inl (.inl h8), rfl, rfl, rfl, rfl, fun m z' hm hz => ?_, ?_⟩
      · match m, hm, hz with
        | 0, _, hz => cases hz; rfl
        | 1, _, hz => cases hz; rfl
        | 2, _, hz => cases hz; rfl
      · refine ixL (.inl (.inl upd_same)) (atI_n (j := 3) rfl rfl) ?_
        exact k _ (e4.trans e8)
end
end LW

set_option Elab.async false
set_option linter.all false
set_option maxRecDepth 100000
set_option maxHeartbeats 4000000
namespace LW
open PySem PySem.Spec PyProof.Rows L2 BC Evl TR
local macro_rules | `(tactic| walk_at "sx") => `(tactic| try simp only [x_callF2, x_seq, x_next, x_brk, x_cnt, x_nev, x_ret, x_retN, x_drop, x_ifS, x_asg, x_gn, x_gsub, x_par, x_par3, x_aug, x_for, x_lc, x_rng1, x_rng2, x_rng3, x_ilist, x_itup, x_ienum, x_izip, x_izipA, x_istr, x_var, x_c, x_op, x_un, x_test, x_b, x_chain, x_and, x_or, x_not, x_andV, x_orV, x_notV, x_ife, x_nil, x_cons, x_lst, x_tup, x_cb, x_call, x_callK, x_callS, x_bm, x_bm0, x_tru, x_sl, x_nopart, x_part, x_revL, x_I0, x_I, x_U, x_ip, x_ipC, x_eqI, x_neI, x_eqB, x_neB, x_eqS, x_neS, x_isB, x_isNB, x_lrg, x_gall, x_lenSet, x_augS, x_sortSet, x_sortSetB, x_lenSetA, x_rg1, x_rg2,
  L2.start, List.map_cons, List.map_nil, List.length_cons, List.length_nil, Nat.reduceAdd, Nat.reduceSub, Nat.sub_self, Nat.zero_add, List.replicate, List.replicate_succ, List.replicate_zero, List.append_nil, List.cons_append, List.nil_append, List.set_cons_zero, List.set_cons_succ, List.getElem?_cons_zero, List.getElem?_cons_succ, Option.some.injEq, V.int.injEq, V.bl.injEq, V.ref.injEq, V.str.injEq, List.cons.injEq, and_true, true_and, exists_eq_left', exists_eq_left, exists_and_left, exists_eq, if_true, if_false, ite_true, ite_false, Bool.true_eq_false, Bool.false_eq_true, reduceIte, reduceCtorEq, Bool.not_true, Bool.not_false, decide_true, decide_false, decide_eq_true_eq, Bool.and_true, Bool.true_and, Bool.and_self, Bool.and_false, Bool.false_and, Bool.or_self, Bool.or_false, Bool.false_or, Bool.or_true, Bool.true_or, eq_self])
section
variable {P : Program} {w : World} {K : PySem.W.Frag} {mg : Str → Option Value} {base : Heap}
def inPg : V → PyData → Bool
  | .int p, d => decide (p ∈ numsD d)
  | _, _ => false
/-- what one of the functions answers for a valid site of m pages -/
def wordE (n m : Nat) (v1 : V) (d2 : PyData) (v3 : V) : Str :=
  if n = 0 ∧ inR 0 ((m : Int) - 1) v1 = false then Str.ofString "page"
  else if isPagesD m d2 = false then Str.ofString "pages"
  else if n = 0 ∧ inPg v1 d2 = true then Str.ofString "pages"
  else if inR 0 60 v3 = false then Str.ofString "number" else Str.ofString "none"
def spErr (K : PySem.W.Frag) : Sp := fun vs H Q _ => ∃ (n : Nat) (v0 v1 v2 v3 : V) (d0 d1 d2 d3 : PyData) (z : Str), vs = [.int n, v0, v1, v2, v3] ∧ n ≤ 2 ∧ De K H v0 d0 ∧ RowsL d0 ∧ De K H v1 d1 ∧ De K H v2 d2 ∧ LenL d2 ∧ De K H v3 d3 ∧
  ((isSiteD d0 = false ∧ z = Str.ofString "site") ∨ ∃ (s : Addr) (G : Grid), v0 = .ref s ∧ d0 = dG G ∧ GridAt H s G ∧ SiteOk G ∧ z = wordE n G.length v1 d2 v3) ∧ ∀ H', Ex H H' → Q (.str z) H'
theorem ok_law_error (T : Txt K mg) : FnOk P w K mg base CX0 6 T.f_law_error T.fd_law_error ["_law_door", "_law_links", "_law_one", "_law_two", "_law_three"] (spErr K) := by
  refine T.F_law_error.ok sc_law_error (fun vs H Q E h => ?_) (fun cdv A outer s H vs Q E hr h => ?_)
  · obtain ⟨n, v0, v1, v2, v3, d0, d1, d2, d3, z, rfl, _⟩ := h
    rfl
  · obtain ⟨n, v0, v1, v2, v3, d0, d1, d2, d3, z, rfl, hn, h0, hrw, h1, h2, hl, h3, hz, k⟩ := h
    apply Exists.intro
    apply And.intro
    · apply pss_cons
      · exact (ps_set (i := 5) sc_law_error.nd rfl (.inl rfl) pe_non)
      apply pss_cons
      · exact (ps_try_trk (i := 6) rfl rfl rfl sc_law_error.nd rfl rfl ⟨rfl, by decide, .inl T.g_BreadcrumbsError⟩ takes0 (fun W pn xe tk _ => (pss_one (ps_if (pt_cmpR op_eq (pv 0) pe_int (by rfl)) (pss_one (ps_expr (pe_callS (ok_closed_walks T) (hr.mono (by decide)) (by rfl) T.m_closed_walks T.F_closed_walks.kp T.b_closed_walks (fun σ => passAt tk σ) (pa_cons (pv 1) (pa_cons (pv 2) (pa_cons (pv 3) (pa_cons (pv 4) pa_nil))))))) (pss_one (ps_expr (pe_callF2 (pe_ix (k_ix_list (K := K) rfl) (pe_lst (pa_cons (pe_glob (v := .ref T.f_loop_parts) (by rfl) T.m_loop_parts rfl) (pa_cons (pe_glob (v := .ref T.f_loop_numbers) (by rfl) T.m_loop_numbers rfl) pa_nil))) (pe_op op_sub (pv 0) pe_int) (fun _ _ => rfl)) (ok_loop_parts T) (hr.mono (by decide)) T.F_loop_parts.kp T.b_loop_parts (ok_loop_numbers T) (hr.mono (by decide)) T.F_loop_numbers.kp T.b_loop_numbers (fun σ => passAt tk σ) (pa_cons (pv 1) (pa_cons (pv 3) (pa_cons (pv 4) pa_nil))))))))) (fun a cls d pn => (pss_one (ps_set (i := 5) sc_law_error.nd rfl (.inl rfl) (pv 6)))))
      apply pss_one
      exact (ps_ret (pe_ifExp (pt_cmpR op_isN (pv 5) pe_non (by rfl)) pe_str (pe_call (ok_law_kind T) (hr.mono (by decide)) (by rfl) T.m_law_kind T.F_law_kind.kp T.b_law_kind .nil pass0 (pa_cons (pv 5) pa_nil))))
    walk_at "sx"
    have bad : ∀ {D : Addr} {j : Nat} {y : Str} {H1 : Hp}, Kinds T j D y → Ex H H1 → z = y → WE (wTrk K (Value.ref T.C_BreadcrumbsError) 6 (fun a cls d => tAsg (tVar 6) (gName 5)) (fun _ _ _ _ => False) { nx := tRet (tIf (tTest (tOp (fun x y H Q => y = V.non ∧ Q (V.bl (decide (x = V.non))) H) (tVar 5) (tC V.non))) (tC (V.str (Str.ofString "none"))) (tCall (spKind T) [] E0 (tCons (tVar 5) tNil))) { nx := fun x H' => Q V.non H', rt := Q }, rt := Q }) [some (V.int (n : Int)), some v0, some v1, some v2, some v3, some V.non, none] (.ref D) none H1 := fun {D j y H1} kk e1 ez => by
      obtain ⟨e, m, t, _⟩ := kk.facts
      refine ⟨true, exm_yes m T.e_BreadcrumbsError T.t_BreadcrumbsError (by simp), fun _ x nx => ?_, fun q => nomatch q⟩
      have x2 := e1.trans (Ex.new nx (o := ExT (.ref D) none x))
      walk_at "sx"
      refine ⟨x, D, j, y, rfl, isEx_T upd_same, kk, fun H2 e2 => ?_⟩
      rw [← ez]
      exact k _ (x2.trans e2)
    have rest : ∀ H1, Ex H H1 → n ≠ 0 → spLPE K T.C_InvalidSiteError T.C_InvalidPagesError T.C_InvalidNumberError [v0, v2, v3] H1 (fun x H1 => Q (V.str (Str.ofString "none")) H1) (WE (wTrk K (Value.ref T.C_BreadcrumbsError) 6 (fun a cls d => tAsg (tVar 6) (gName 5)) (fun _ _ _ _ => False) { nx := tRet (tIf (tTest (tOp (fun x y H Q => y = V.non ∧ Q (V.bl (decide (x = V.non))) H) (tVar 5) (tC V.non))) (tC (V.str (Str.ofString "none"))) (tCall (spKind T) [] E0 (tCons (tVar 5) tNil))) { nx := fun x H' => Q V.non H', rt := Q }, rt := Q }) [some (V.int (n : Int)), some v0, some v1, some v2, some v3, some V.non, none]) := fun H1 e1 n0 => by
      refine ⟨v0, v2, v3, d0, d2, d3, rfl, De.ex e1 _ _ h0, hrw, De.ex e1 _ _ h2, hl, De.ex e1 _ _ h3, fun c H2 e2 => ?_, fun c => ?_⟩
      · rcases hz with ⟨_, hz⟩ | ⟨s, G, _, rfl, _, ok, _⟩
        · exact bad .site (e1.trans e2) hz
        · rw [site_D ok] at c; cases c
      · rcases hz with ⟨c', _⟩ | ⟨s, G, hv, hd, hS, ok, hz⟩
        · rw [c'] at c; cases c
        · unfold wordE at hz
          rw [if_neg (fun q => n0 q.1)] at hz
          refine ⟨s, G, hv, hd, hS.ex e1, ok, fun c2 H2 e2 => ?_, fun c2 => ?_⟩
          · rw [if_pos c2] at hz
            exact bad .pages (e1.trans e2) hz
          · rw [if_neg (by rw [c2]; decide), if_neg (fun q => n0 q.1)] at hz
            refine ⟨fun c3 H2 e2 => ?_, fun c3 r H2 e2 => ?_⟩
            · rw [if_pos c3] at hz
              exact bad .number (e1.trans e2) hz
            · rw [if_neg (by rw [c3]; decide)] at hz
              show Q (V.str (Str.ofString "none")) H2
              rw [← hz]
              exact k _ (e1.trans e2)
    by_cases n0 : n = 0
    · subst n0
      rw [if_pos (show ((0 : Nat) : Int) = 0 from rfl)]
      refine ⟨v0, v1, v2, v3, d0, d1, d2, d3, rfl, h0, hrw, h1, h2, hl, h3, fun c H2 e2 => ?_, fun c => ?_⟩
      · rcases hz with ⟨_, hz⟩ | ⟨s, G, _, rfl, _, ok, _⟩
        · exact bad .site e2 hz
        · rw [site_D ok] at c; cases c
      · rcases hz with ⟨c', _⟩ | ⟨s, G, hv, hd, hS, ok, hz⟩
        · rw [c'] at c; cases c
        · unfold wordE at hz
          refine ⟨s, G, hv, hd, hS, ok, fun c1 H2 e2 => ?_, fun c1 => ⟨fun c2 H2 e2 => ?_, fun p hp c2 => ⟨fun c4 H2 e2 => ?_, fun c4 => ⟨fun c3 H2 e2 => ?_, fun c3 r H2 e2 => ?_⟩⟩⟩⟩
          · rw [if_pos ⟨rfl, c1⟩] at hz
            exact bad .page e2 hz
          · rw [if_neg (fun q => by rw [c1] at q; cases q.2), if_pos c2] at hz
            exact bad .pages e2 hz
          · rw [if_neg (fun q => by rw [c1] at q; cases q.2), if_neg (by rw [c2]; decide), if_pos ⟨rfl, by rw [hp]; exact decide_eq_true c4⟩] at hz
            exact bad .pages e2 hz
          · rw [if_neg (fun q => by rw [c1] at q; cases q.2), if_neg (by rw [c2]; decide), if_neg (fun q => by have q2 := q.2; rw [hp] at q2; exact c4 (of_decide_eq_true q2)), if_pos c3] at hz
            exact bad .number e2 hz
          · rw [if_neg (fun q => by rw [c1] at q; cases q.2), if_neg (by rw [c2]; decide), if_neg (fun q => by have q2 := q.2; rw [hp] at q2; exact c4 (of_decide_eq_true q2)), if_neg (by rw [c3]; decide)] at hz
            show Q (V.str (Str.ofString "none")) H2
            rw [← hz]
            exact k _ e2
    · rw [if_neg (by omega)]
      refine ⟨sz_ok (by omega), fun p np => ?_⟩
      have ep := Ex.new np (o := .lst [V.ref T.f_loop_parts, V.ref T.f_loop_numbers])
      by_cases n1 : n = 1
      · refine ixL (.inl (.inl upd_same)) (atI_n (j := 0) (by omega) rfl) (.inl ⟨rfl, rest _ ep n0⟩)
      · refine ixL (.inl (.inl upd_same)) (atI_n (j := 1) (by omega) rfl) (.inr ⟨rfl, rest _ ep n0⟩)
end
end LW

set_option Elab.async false
set_option linter.all false
set_option maxRecDepth 100000
set_option maxHeartbeats 4000000
namespace LW
open PySem PySem.Spec PyProof.Rows L2 BC Evl TR
local macro_rules | `(tactic| walk_at "sx") => `(tactic| try simp only [x_callF2, x_seq, x_next, x_brk, x_cnt, x_nev, x_ret, x_retN, x_drop, x_ifS, x_asg, x_gn, x_gsub, x_par, x_par3, x_aug, x_for, x_lc, x_rng1, x_rng2, x_rng3, x_ilist, x_itup, x_ienum, x_izip, x_izipA, x_istr, x_var, x_c, x_op, x_un, x_test, x_b, x_chain, x_and, x_or, x_not, x_andV, x_orV, x_notV, x_ife, x_nil, x_cons, x_lst, x_tup, x_cb, x_call, x_callK, x_callS, x_bm, x_bm0, x_tru, x_sl, x_nopart, x_part, x_revL, x_I0, x_I, x_U, x_ip, x_ipC, x_eqI, x_neI, x_eqB, x_neB, x_eqS, x_neS, x_isB, x_isNB, x_lrg, x_gall, x_lenSet, x_augS, x_sortSet, x_sortSetB, x_lenSetA, x_rg1, x_rg2,
  L2.start, List.map_cons, List.map_nil, List.length_cons, List.length_nil, Nat.reduceAdd, Nat.reduceSub, Nat.sub_self, Nat.zero_add, List.replicate, List.replicate_succ, List.replicate_zero, List.append_nil, List.cons_append, List.nil_append, List.set_cons_zero, List.set_cons_succ, List.getElem?_cons_zero, List.getElem?_cons_succ, Option.some.injEq, V.int.injEq, V.bl.injEq, V.ref.injEq, V.str.injEq, List.cons.injEq, and_true, true_and, exists_eq_left', exists_eq_left, exists_and_left, exists_eq, if_true, if_false, ite_true, ite_false, Bool.true_eq_false, Bool.false_eq_true, reduceIte, reduceCtorEq, Bool.not_true, Bool.not_false, decide_true, decide_false, decide_eq_true_eq, Bool.and_true, Bool.true_and, Bool.and_self, Bool.and_false, Bool.false_and, Bool.or_self, Bool.or_false, Bool.false_or, Bool.or_true, Bool.true_or, eq_self])
section
variable {P : Program} {w : World} {K : PySem.W.Frag} {mg : Str → Option Value} {base : Heap}
theorem hid_at {b p : Addr} {H : Hp} {o : HO} (n : p ≠ b) (h : H p = some o) : hidB b H p = some o := by rw [hid_ne n]; exact h
theorem hid_grid {b s : Addr} {H0 H : Hp} {G : Grid} {ob : HO} (h : GridN H0 H s G) (hb : H0 b = some ob) : GridAt (hidB b H) s G := by
  obtain ⟨h0, ps, h1, h2, h4, h5, h3⟩ := h
  have nb : ∀ {x : Addr}, H0 x = none → x ≠ b := fun n e => by subst e; rw [hb] at n; cases n
  exact ⟨ps, hid_at (nb h0) h1, h2, fun i p e => hid_at (nb (h3 i p e).1) (h3 i p e).2⟩
/-- a value that is not the row of page i among m -/
def BadRow (K : PySem.W.Frag) (H : Hp) (i m : Nat) (v : V) : Prop := ∃ d, De K H v d ∧ LenL d ∧ isRowD i m d = false
theorem BadRow.ex {H H' : Hp} {i m : Nat} {v : V} (h : BadRow K H i m v) (e : Ex H H') : BadRow K H' i m v := by
  obtain ⟨d, a, b, c⟩ := h
  exact ⟨d, De.ex e _ _ a, b, c⟩
theorem BadRow.non {H : Hp} {i m : Nat} : BadRow K H i m .non := ⟨_, .non, fun _ h => (nomatch h), rfl⟩
theorem BadRow.int {H : Hp} {i m : Nat} (n : Int) : BadRow K H i m (.int n) := ⟨_, .int n, fun _ h => (nomatch h), rfl⟩
theorem BadRow.str {H : Hp} {i m : Nat} (x : Str) : BadRow K H i m (.str x) := ⟨_, .str x, fun _ h => (nomatch h), rfl⟩
theorem BadRow.dic {H : Hp} {i m : Nat} {a : Addr} (h : H a = some (.dK [])) : BadRow K H i m (.ref a) := ⟨_, .dic h, fun _ h => (nomatch h), rfl⟩
theorem BadRow.tup {H : Hp} {i m : Nat} {a : Addr} {ns : List Int} (h : H a = some (.tup (ns.map V.int))) : BadRow K H i m (.ref a) := ⟨_, .tup (.inl (.inl h)) (de_ints ns), fun _ h => (nomatch h), rfl⟩
/-- a list with something that is no page -/
theorem BadRow.odd {H : Hp} {i m : Nat} {a : Addr} {xs : List V} {ds : List PyData} {d : PyData} (h : H a = some (.lst xs)) (hd : DeAll K H xs ds) (hm : d ∈ ds) (hb : inD 0 ((m : Int) - 1) d = false) (hl : ds.length ≤ 4000) : BadRow K H i m (.ref a) := by
  refine ⟨.list ds, .lst (.inl (.inl h)) hd, fun es e => by cases e; exact hl, if_neg ?_⟩
  intro c
  have := List.all_eq_true.mp c d hm
  rw [hb] at this
  cases this
theorem BadRow.out {H : Hp} {i m : Nat} {a : Addr} {ns : List Int} {x : Int} (h : H a = some (.lst (ns.map V.int))) (hx : x ∈ ns) (hb : x < 0 ∨ (m : Int) ≤ x) (hl : ns.length ≤ 4000) : BadRow K H i m (.ref a) := by
  refine BadRow.odd (d := .int x) h (de_ints ns) (List.mem_map.mpr ⟨x, hx, rfl⟩) ?_ (by rw [List.length_map]; exact hl)
  show (decide (0 ≤ x) && decide (x ≤ (m : Int) - 1)) = false
  rcases hb with hb | hb
  · rw [decide_eq_false (by omega)]; rfl
  · rw [decide_eq_false (show ¬ x ≤ (m : Int) - 1 by omega), Bool.and_false]
theorem ints_numD (ns : List Int) : (ns.map PyData.int).map numD = ns := by
  rw [List.map_map]
  conv => rhs; rw [← List.map_id ns]
  rfl
theorem BadRow.self {H : Hp} {i m : Nat} {a : Addr} {ns : List Int} (h : H a = some (.lst (ns.map V.int))) (hx : (i : Int) ∈ ns) (hl : ns.length ≤ 4000) : BadRow K H i m (.ref a) := by
  refine ⟨.list (ns.map PyData.int), .lst (.inl (.inl h)) (de_ints ns), fun es e => by cases e; rw [List.length_map]; exact hl, ?_⟩
  show (if (ns.map PyData.int).all (inD 0 ((m : Int) - 1)) = true then decide ((i : Int) ∉ (ns.map PyData.int).map numD) && decide (((ns.map PyData.int).map numD).Pairwise (· < ·)) else false) = false
  split
  · rw [ints_numD, decide_eq_false (fun z => z hx), Bool.false_and]
  · rfl
theorem BadRow.down {H : Hp} {i m : Nat} {a : Addr} {x y z : Int} (h : H a = some (.lst [V.int x, V.int y, V.int z])) (hx : ¬ x < y) : BadRow K H i m (.ref a) := by
  refine ⟨.list [.int x, .int y, .int z], .lst (.inl (.inl h)) (.cons (.int _) (.cons (.int _) (.cons (.int _) .nil))), fun es e => by cases e; simp, ?_⟩
  show (if ([PyData.int x, .int y, .int z]).all (inD 0 ((m : Int) - 1)) = true then decide ((i : Int) ∉ [x, y, z]) && decide (([x, y, z] : List Int).Pairwise (· < ·)) else false) = false
  split
  · rw [decide_eq_false (show ¬ ([x, y, z] : List Int).Pairwise (· < ·) from fun p => hx ((List.pairwise_cons.mp p).1 y (by simp))), Bool.and_false]
  · rfl
/-- a value that is not a site -/
def BadSite (K : PySem.W.Frag) (H : Hp) (v : V) : Prop := ∃ d, De K H v d ∧ RowsL d ∧ isSiteD d = false
theorem BadSite.ex {H H' : Hp} {v : V} (h : BadSite K H v) (e : Ex H H') : BadSite K H' v := by
  obtain ⟨d, a, b, c⟩ := h
  exact ⟨d, De.ex e _ _ a, b, c⟩
theorem BadSite.non {H : Hp} : BadSite K H .non := ⟨_, .non, fun _ h => (nomatch h), rfl⟩
theorem BadSite.int {H : Hp} (n : Int) : BadSite K H (.int n) := ⟨_, .int n, fun _ h => (nomatch h), rfl⟩
theorem BadSite.str {H : Hp} (x : Str) : BadSite K H (.str x) := ⟨_, .str x, fun _ h => (nomatch h), rfl⟩
theorem BadSite.dic {H : Hp} {a : Addr} (h : H a = some (.dK [])) : BadSite K H (.ref a) := ⟨_, .dic h, fun _ h => (nomatch h), rfl⟩
theorem BadSite.tup {H : Hp} {a : Addr} {xs : List V} {ds : List PyData} (h : H a = some (.tup xs)) (hd : DeAll K H xs ds) : BadSite K H (.ref a) := ⟨_, .tup (.inl (.inl h)) hd, fun _ h => (nomatch h), rfl⟩
/-- a list with a wrong row in its place, all lists in it short -/
theorem BadSite.at {H : Hp} {a : Addr} {xs : List V} {ds : List PyData} {i : Nat} (h : H a = some (.lst xs)) (hd : DeAll K H xs ds) (hl : ∀ d ∈ ds, LenL d) (hi : i < ds.length) (hb : isRowD i ds.length (ds.getD i .none) = false) : BadSite K H (.ref a) := by
  refine ⟨.list ds, .lst (.inl (.inl h)) hd, fun es e x hx => by cases e; exact hl x hx, ?_⟩
  show (if 1 ≤ ds.length ∧ ds.length ≤ 12 then (List.range ds.length).all fun i => isRowD i ds.length (ds.getD i .none) else false) = false
  split
  · cases c : (List.range ds.length).all fun i => isRowD i ds.length (ds.getD i .none) with
    | false => rfl
    | true =>
      have := List.all_eq_true.mp c i (List.mem_range.mpr hi)
      rw [hb] at this
      cases this
  · rfl
theorem BadSite.long {H : Hp} {a : Addr} {xs : List V} {ds : List PyData} (h : H a = some (.lst xs)) (hd : DeAll K H xs ds) (hl : ∀ d ∈ ds, LenL d) (hn : ¬ (1 ≤ ds.length ∧ ds.length ≤ 12)) : BadSite K H (.ref a) :=
  ⟨.list ds, .lst (.inl (.inl h)) hd, fun es e x hx => by cases e; exact hl x hx, if_neg hn⟩
mutual
theorem de_of {H : Hp} : ∀ (d : PyData) (v : V), Dp K H v d → De K H v d
  | .none, _, h => by cases h; exact .non
  | .bool _, _, h => by cases h; exact .bl _
  | .int _, _, h => by cases h; exact .int _
  | .str _, _, h => by cases h; exact .str _
  | .dict _, _, h => by cases h
  | .list ds, _, h => by
    cases h with
    | lst h1 h2 => exact .lst h1 (de_all ds _ h2)
  | .tuple ds, _, h => by
    cases h with
    | tup h1 h2 => exact .tup h1 (de_all ds _ h2)
theorem de_all {H : Hp} : ∀ (ds : List PyData) (vs : List V), DpAll K H vs ds → DeAll K H vs ds
  | [], _, h => by cases h; exact .nil
  | d :: ds, _, h => by
    cases h with
    | cons h1 h2 => exact .cons (de_of d _ h1) (de_all ds _ h2)
end
theorem deAll_take {H : Hp} : ∀ {xs : List V} {ds : List PyData} (n : Nat), DeAll K H xs ds → DeAll K H (xs.take n) (ds.take n)
  | _, _, 0, _ => by rw [List.take_zero, List.take_zero]; exact .nil
  | _, _, n + 1, .nil => .nil
  | _, _, n + 1, .cons h g => .cons h (deAll_take n g)
theorem deAll_drop {H : Hp} : ∀ {xs : List V} {ds : List PyData} (n : Nat), DeAll K H xs ds → DeAll K H (xs.drop n) (ds.drop n)
  | _, _, 0, h => h
  | _, _, n + 1, .nil => .nil
  | _, _, n + 1, .cons h g => deAll_drop n g
theorem grid_all {H : Hp} {s : Addr} {G : Grid} (h : GridAt H s G) : ∃ gx, H s = some (.lst gx) ∧ gx.length = G.length ∧ DeAll K H gx (G.map fun r => PyData.list ((nz r).map PyData.int)) := by
  obtain ⟨ps, h1, h2, h3⟩ := h
  refine ⟨ps.map V.ref, h1, by rw [List.length_map, h2], ?_⟩
  have e : (G.map fun r => PyData.list ((nz r).map PyData.int)) = (G.map nz).map fun l => PyData.list (l.map PyData.int) := by rw [List.map_map]; rfl
  rw [e]
  refine de_all _ _ (dp_ll (by rw [List.length_map]; exact h2) fun i p l a b => ?_)
  rw [List.getElem?_map] at b
  cases q : G[i]? with
  | none => rw [q] at b; cases b
  | some r =>
    rw [q] at b
    cases b
    have := h3 i p a
    rw [row_at q] at this
    exact .inl (.inl this)
theorem lens_G {G : Grid} (ok : SiteOk G) : ∀ d ∈ (G.map fun r => PyData.list ((nz r).map PyData.int)), LenL d := fun d hd => rows_D ok _ rfl d hd
/-- a site with one row put away -/
theorem BadSite.put {H : Hp} {a : Addr} {gx : List V} {G : Grid} {v : V} {j : Nat} (ok : SiteOk G) (hj : j < G.length) (hx : DeAll K H gx (G.map fun r => PyData.list ((nz r).map PyData.int))) (b : BadRow K H j G.length v) (h : H a = some (.lst (gx.take j ++ [v] ++ gx.drop (j + 1)))) : BadSite K H (.ref a) := by
  obtain ⟨d, b1, b2, b3⟩ := b
  have len : ((G.map fun r => PyData.list ((nz r).map PyData.int)).take j ++ [d] ++ (G.map fun r => PyData.list ((nz r).map PyData.int)).drop (j + 1)).length = G.length := by
    rw [List.length_append, List.length_append, List.length_take, List.length_drop, List.length_map]
    simp
    omega
  refine BadSite.at (i := j) h (((deAll_take j hx).app (.cons b1 .nil)).app (deAll_drop (j + 1) hx)) (fun e he => ?_) (by rw [len]; exact hj) ?_
  · rcases List.mem_append.mp he with he | he
    · rcases List.mem_append.mp he with he | he
      · exact lens_G ok e (List.mem_of_mem_take he)
      · rw [List.mem_singleton.mp he]; exact b2
    · exact lens_G ok e (List.mem_of_mem_drop he)
  · rw [len, List.getD_eq_getElem?_getD, List.append_assoc, List.getElem?_append_right (by rw [List.length_take]; omega)]
    have e : ((G.map fun r => PyData.list ((nz r).map PyData.int)).take j).length = j := by rw [List.length_take, List.length_map]; omega
    rw [e, Nat.sub_self]
    exact b3
theorem cut_fr (xs : List V) (j : Nat) : cutV xs (some ((j : Int) + 1)) none = xs.drop (j + 1) := by
  rw [show (j : Int) + 1 = ((j + 1 : Nat) : Int) by omega]
  unfold cutV
  have e2 : HT.sIx xs.length xs.length none = xs.length := rfl
  have e1 : HT.sIx xs.length 0 (some ((j + 1 : Nat) : Int)) = min (j + 1) xs.length := HT.sIx_nat ..
  rw [e1, e2]
  by_cases h : j + 1 ≤ xs.length
  · rw [Nat.min_eq_left h, List.take_of_length_le (by rw [List.length_drop]; omega)]
  · rw [Nat.min_eq_right (by omega), Nat.sub_self, List.take_zero, List.drop_of_length_le (by omega)]
theorem bad_rep {H : Hp} {n : Nat} {a u : Addr} (hu : H u = some (.lst [])) (ha : H a = some (.lst (List.replicate n [V.ref u]).flatten)) (hn : 12 < n) : BadSite K H (.ref a) := by
  have e : ∀ n : Nat, (List.replicate n [V.ref u]).flatten = List.replicate n (V.ref u) := fun n => by
    induction n with
    | zero => rfl
    | succ n ih => rw [List.replicate_succ, List.flatten_cons, ih, List.replicate_succ]; rfl
  have d : ∀ n : Nat, DeAll K H (List.replicate n (V.ref u)) (List.replicate n (.list [])) := fun n => by
    induction n with
    | zero => exact .nil
    | succ n ih => rw [List.replicate_succ, List.replicate_succ]; exact .cons (.lst (.inl (.inl hu)) .nil) ih
  rw [e] at ha
  refine BadSite.long ha (d n) (fun d hd => ?_) (by rw [List.length_replicate]; omega)
  rw [(List.mem_replicate.mp hd).2]
  exact fun es h => by cases h; simp
def spNoSite (K : PySem.W.Frag) : Sp := fun vs H Q _ => ∃ (b s : Addr) (G : Grid) (c : Nat) (H0 : Hp) (ob : HO), vs = [.ref b, .ref s] ∧ GridN H0 H s G ∧ H0 b = some ob ∧ SiteOk G ∧ BagAt H b c ∧ c ≤ 900000 ∧
  ∀ v H', Fx b H H' → BagAt H' b (c + 7) → BadSite K (hidB b H') v → Q v H'
theorem ok_law_no_site (T : Txt K mg) : FnOk P w K mg base CX0 2 T.f_law_no_site T.fd_law_no_site ["_law_source", "_law_links"] (spNoSite K) := by
  refine T.F_law_no_site.ok sc_law_no_site (fun vs H Q E h => ?_) (fun cdv A outer s H vs Q E hr h => ?_)
  · obtain ⟨b, s, G, c, H0, ob, rfl, _⟩ := h
    rfl
  · obtain ⟨b, s, G, c, H0, ob, rfl, hG, hb0, ok, hB, hc, k⟩ := h
    apply Exists.intro
    apply And.intro
    · apply pss_cons
      · exact (ps_par (i := 5) (j := 6) (by rfl) sc_law_no_site.nd rfl rfl (by decide) rfl rfl (pa_cons (pe_call (ok_law_draw T) (hr.mono (by decide)) (by rfl) T.m_law_draw T.F_law_draw.kp T.b_law_draw .nil pass0 (pa_cons (pv 0) (pa_cons (pe_callB (k_len (K := K) rfl) (by rfl) T.n_len PySem.boot_len (pa_cons (pv 1) pa_nil)) pa_nil))) (pa_cons (pe_callB (k_len (K := K) rfl) (by rfl) T.n_len PySem.boot_len (pa_cons (pv 1) pa_nil)) pa_nil)) (by rfl))
      apply pss_cons
      · exact (ps_set (i := 2) sc_law_no_site.nd rfl (.inl rfl) (pe_ix (k_ix_list (K := K) rfl) (pv 1) (pv 5) (fun _ _ => rfl)))
      apply pss_cons
      · exact (ps_set (i := 3) sc_law_no_site.nd rfl (.inl rfl) (pe_lst (pa_cons (pe_lst (pa_cons (pv 5) pa_nil)) (pa_cons (pe_op op_cat (pv 2) (pe_lst (pa_cons (pv 6) pa_nil))) (pa_cons (pe_op op_cat (pv 2) (pe_lst (pa_cons (pe_un un_neg pe_int) pa_nil))) (pa_cons (pe_op op_cat (pe_lst (pa_cons (pe_un un_neg pe_int) pa_nil)) (pv 2)) (pa_cons (pe_op op_cat (pe_op op_cat (pv 2) (pe_slice (k_sl_list (K := K) rfl) (pv 2) (po_some (pe_un un_neg pe_int)) po_none)) (pe_lst (pa_cons (pv 6) pa_nil))) (pa_cons (pe_tup (pa_cons pe_int pa_nil)) (pa_cons pe_non (pa_cons pe_int (pa_cons pe_str (pa_cons pe_dnewK (pa_cons (pe_lst (pa_cons pe_non pa_nil)) (pa_cons (pe_lst (pa_cons pe_bl pa_nil)) pa_nil))))))))))))))
      apply pss_cons
      · exact (ps_set (i := 3) sc_law_no_site.nd rfl (.inl rfl) (pe_op op_cat (pv 3) (pe_lst (pa_cons (pe_lst (pa_cons pe_str pa_nil)) (pa_cons (pe_lst (pa_cons (pe_lst (pa_cons pe_int pa_nil)) pa_nil)) (pa_cons (pe_lst (pa_cons (pe_op op_sub (pv 6) pe_int) (pa_cons pe_int (pa_cons (pe_op op_sub (pv 6) pe_int) pa_nil)))) (pa_cons (pe_callTy (k_tupOf (K := K) rfl) (by rfl) T.n_tuple (by decide +kernel) (pa_cons (pv 2) pa_nil)) (pa_cons (pe_lst (pa_cons (pe_op op_sub pe_int (pv 6)) pa_nil)) (pa_cons (pe_lst (pa_cons (pv 5) (pa_cons (pv 6) pa_nil))) (pa_cons (pe_op op_cat (pv 2) (pe_lst (pa_cons (pv 5) pa_nil))) (pa_cons (pe_op op_cat (pe_lst (pa_cons pe_bl pa_nil)) (pv 2)) pa_nil)))))))))))
      apply pss_cons
      · exact (ps_set (i := 4) sc_law_no_site.nd rfl (.inl rfl) (pe_lst (pa_cons (pe_op op_cat (pe_op op_cat (pe_slice (k_sl_list (K := K) rfl) (pv 1) po_none (po_some (pv 5))) (pe_lst (pa_cons (pe_ix (k_ix_list (K := K) rfl) (pv 3) (pe_call (ok_law_draw T) (hr.mono (by decide)) (by rfl) T.m_law_draw T.F_law_draw.kp T.b_law_draw .nil pass0 (pa_cons (pv 0) (pa_cons pe_int pa_nil))) (fun _ _ => rfl)) pa_nil))) (pe_slice (k_sl_list (K := K) rfl) (pv 1) (po_some (pe_op op_add (pv 5) pe_int)) po_none)) (pa_cons (pe_callTy (k_tupOf (K := K) rfl) (by rfl) T.n_tuple (by decide +kernel) (pa_cons (pv 1) pa_nil)) (pa_cons (pe_lst pa_nil) (pa_cons pe_non (pa_cons pe_int (pa_cons pe_str (pa_cons pe_dnewK (pa_cons (pe_lst (pa_cons pe_non pa_nil)) pa_nil))))))))))
      apply pss_cons
      · exact (ps_set (i := 4) sc_law_no_site.nd rfl (.inl rfl) (pe_op op_cat (pv 4) (pe_lst (pa_cons (pe_op op_rep (pe_lst (pa_cons (pe_lst pa_nil) pa_nil)) pe_int) (pa_cons (pe_op op_rep (pe_lst (pa_cons (pe_lst pa_nil) pa_nil)) pe_int) (pa_cons (pe_lst (pa_cons pe_int pa_nil)) (pa_cons (pe_lst (pa_cons (pe_tup pa_nil) pa_nil)) (pa_cons (pe_lst (pa_cons (pe_lst (pa_cons pe_int pa_nil)) pa_nil)) pa_nil))))))))
      apply pss_one
      exact (ps_ret (pe_ix (k_ix_list (K := K) rfl) (pv 4) (pe_ix (k_ix_list (K := K) rfl) (pe_lst (pa_cons (pe_call (ok_law_draw T) (hr.mono (by decide)) (by rfl) T.m_law_draw T.F_law_draw.kp T.b_law_draw .nil pass0 (pa_cons (pv 0) (pa_cons pe_int pa_nil))) (pa_cons pe_int pa_nil))) (pe_call (ok_law_draw T) (hr.mono (by decide)) (by rfl) T.m_law_draw T.F_law_draw.kp T.b_law_draw .nil pass0 (pa_cons (pv 0) (pa_cons pe_int pa_nil))) (fun _ _ => rfl)) (fun _ _ => rfl)))
    have n1 := ok.n1
    have n2 := ok.n2
    have nsb : s ≠ b := fun e => by subst e; have := hG.1; rw [hb0] at this; cases this
    refine seq_cut (fun σ' H' => ∃ j : Nat, σ' = [some (.ref b), some (.ref s), none, none, none, some (.int j), some (.int (G.length : Nat))] ∧ j < G.length ∧ Fx b H H' ∧ BagAt H' b (c + 1)) (fun N hN => ?_) (fun σ1 H1 hC => ?_)
    · obtain ⟨xs, hs, hl, _⟩ := hG.at.lst
      walk_at "sx"
      refine lenL (.inl (.inl hs)) ?_
      rw [hl]
      refine ⟨b, _, c, rfl, by omega, big_of (by omega), hB, by omega, fun r H1 r0 r1 f1 b1 => ?_⟩
      refine lenL (.inl (.inl (f1 _ _ nsb hs))) ?_
      rw [hl]
      refine ⟨_, _, ⟨rfl, rfl⟩, ?_⟩
      exact hN _ _ ⟨r.toNat, by rw [Int.toNat_of_nonneg r0], by omega, f1, b1⟩
    obtain ⟨j, rfl, hj, f1, b1⟩ := hC
    have hG1 := hG.nw (Nw.fx hb0 f1)
    -- its row
    refine seq_asg (fun v H' => ∃ p, v = .ref p ∧ H' = H1 ∧ p ≠ b ∧ H1 p = some (.lst ((nz (row G j)).map V.int))) (fun R hR => ?_) (fun v H1' hC => ?_)
    · obtain ⟨p, xs, q1, q2, q3, q4⟩ := hG1.at.get hj
      obtain ⟨_, ps, g1, g2, g4, g5, g3⟩ := id hG1
      walk_at "sx"
      refine ixL (.inl (.inl q1)) (atI_n rfl q3) ?_
      refine hR _ _ ⟨p, rfl, rfl, fun e => ?_, q4⟩
      subst e
      rw [q1] at g1
      have : xs = ps.map V.ref := by cases g1; rfl
      rw [this, List.getElem?_map] at q3
      cases c1 : ps[j]? with
      | none => rw [c1] at q3; cases q3
      | some u =>
        rw [c1] at q3
        obtain rfl : u = p := by cases q3; rfl
        have := (g3 j u c1).1
        rw [hb0] at this
        cases this
    obtain ⟨p, rfl, rfl, npb, hp⟩ := hC
    have rlen := ok.rlen j
    have rl : (nz (row G j)).length ≤ 12 := by rw [nz_len]; exact rlen
    try simp only [List.set_cons_zero, List.set_cons_succ]
    -- rows that are none
    refine seq_asg (fun v H2 => ∃ (o : Addr) (xs : List V), v = .ref o ∧ o ≠ b ∧ Ex H1' H2 ∧ H2 o = some (.lst xs) ∧ xs.length = 12 ∧ ∀ x ∈ xs, BadRow K (hidB b H2) j G.length x) (fun R hR => ?_) (fun v H2 hC => ?_)
    · walk_at "sx"
      refine ⟨sz_ok (by omega), fun z1 m1 => ?_⟩
      have e1 := Ex.new m1 (o := .lst [V.int ((j : Nat) : Int)])
      have h1 := upd_same (H := H1') (a := z1) (o := .lst [V.int ((j : Nat) : Int)])
      generalize upd H1' z1 (.lst [V.int ((j : Nat) : Int)]) = G1 at e1 h1 ⊢
      have c1 := b1.ex e1
      have r1 := BadRow.self (K := K) (H := hidB b G1) (m := G.length) (i := j) (ns := [(j : Int)]) (hid_at (b1.apart m1) h1) (by simp) (by simp)
      refine ⟨sz_ok (by omega), fun z2 m2 => ?_⟩
      have e2 := Ex.new m2 (o := .lst [V.int ((G.length : Nat) : Int)])
      have h2 := upd_same (H := G1) (a := z2) (o := .lst [V.int ((G.length : Nat) : Int)])
      generalize upd G1 z2 (.lst [V.int ((G.length : Nat) : Int)]) = G2 at e2 h2 ⊢
      have c2 := c1.ex e2
      refine catE ((e1.trans e2) _ _ hp) h2 (by rw [List.length_map]; simp <;> omega) fun z3 G3 m3 e3 h3 => ?_
      have c3 := c2.ex e3
      have r3 := BadRow.out (K := K) (H := hidB b G3) (m := G.length) (i := j) (ns := nz (row G j) ++ [(G.length : Int)]) (x := (G.length : Int)) (hid_at (c2.apart m3) (by rw [List.map_append]; exact h3)) (by simp) (.inr (by omega)) (by rw [List.length_append]; simp <;> omega)
      have E3 := (e1.trans e2).trans e3
      refine ⟨sz_ok (by omega), fun z4 m4 => ?_⟩
      have e4 := Ex.new m4 (o := .lst [V.int (-1)])
      have h4 := upd_same (H := G3) (a := z4) (o := .lst [V.int (-1)])
      generalize upd G3 z4 (.lst [V.int (-1)]) = G4 at e4 h4 ⊢
      have c4 := c3.ex e4
      refine catE ((E3.trans e4) _ _ hp) h4 (by rw [List.length_map]; simp <;> omega) fun z5 G5 m5 e5 h5 => ?_
      have c5 := c4.ex e5
      have r5 := BadRow.out (K := K) (H := hidB b G5) (m := G.length) (i := j) (ns := nz (row G j) ++ [-1]) (x := -1) (hid_at (c4.apart m5) (by rw [List.map_append]; exact h5)) (by simp) (.inl (by omega)) (by rw [List.length_append]; simp <;> omega)
      have E5 := (E3.trans e4).trans e5
      refine ⟨sz_ok (by omega), fun z6 m6 => ?_⟩
      have e6 := Ex.new m6 (o := .lst [V.int (-2)])
      have h6 := upd_same (H := G5) (a := z6) (o := .lst [V.int (-2)])
      generalize upd G5 z6 (.lst [V.int (-2)]) = G6 at e6 h6 ⊢
      have c6 := c5.ex e6
      refine catE h6 ((E5.trans e6) _ _ hp) (by rw [List.length_map]; simp <;> omega) fun z7 G7 m7 e7 h7 => ?_
      have c7 := c6.ex e7
      have r7 := BadRow.out (K := K) (H := hidB b G7) (m := G.length) (i := j) (ns := [-2] ++ nz (row G j)) (x := -2) (hid_at (c6.apart m7) (by rw [List.map_append]; exact h7)) (by simp) (.inl (by omega)) (by rw [List.length_append]; simp <;> omega)
      have E7 := (E5.trans e6).trans e7
      refine slE (.inl (.inl (E7 _ _ hp))) fun z8 G8 ms m8 e8 h8 l8 _ => ?_
      have c8 := c7.ex e8
      refine catE ((E7.trans e8) _ _ hp) h8 (by rw [List.length_map, List.length_map]; omega) fun z9 G9 m9 e9 h9 => ?_
      have c9 := c8.ex e9
      have E9 := (E7.trans e8).trans e9
      refine ⟨sz_ok (by omega), fun z10 m10 => ?_⟩
      have e10 := Ex.new m10 (o := .lst [V.int ((G.length : Nat) : Int)])
      have h10 := upd_same (H := G9) (a := z10) (o := .lst [V.int ((G.length : Nat) : Int)])
      generalize upd G9 z10 (.lst [V.int ((G.length : Nat) : Int)]) = G10 at e10 h10 ⊢
      have c10 := c9.ex e10
      refine catE (e10 _ _ h9) h10 (by rw [List.length_append, List.length_map, List.length_map]; simp <;> omega) fun z11 G11 m11 e11 h11 => ?_
      have c11 := c10.ex e11
      have r11 := BadRow.out (K := K) (H := hidB b G11) (m := G.length) (i := j) (ns := nz (row G j) ++ ms ++ [(G.length : Int)]) (x := (G.length : Int)) (hid_at (c10.apart m11) (by rw [List.map_append, List.map_append]; exact h11)) (by simp) (.inr (by omega)) (by rw [List.length_append, List.length_append]; simp <;> omega)
      have E11 := (E9.trans e10).trans e11
      refine ⟨sz_ok (by omega), fun z12 m12 => ?_⟩
      have e12 := Ex.new m12 (o := .tup [V.int 0])
      have h12 := upd_same (H := G11) (a := z12) (o := .tup [V.int 0])
      generalize upd G11 z12 (.tup [V.int 0]) = G12 at e12 h12 ⊢
      have c12 := c11.ex e12
      have r12 := BadRow.tup (K := K) (H := hidB b G12) (m := G.length) (i := j) (ns := [0]) (hid_at (c11.apart m12) h12)
      refine fun z13 m13 => ?_
      have e13 := Ex.new m13 (o := .dK [])
      have h13 := upd_same (H := G12) (a := z13) (o := .dK [])
      generalize upd G12 z13 (.dK []) = G13 at e13 h13 ⊢
      have c13 := c12.ex e13
      have r13 := BadRow.dic (K := K) (H := hidB b G13) (m := G.length) (i := j) (hid_at (c12.apart m13) h13)
      refine ⟨sz_ok (by omega), fun z14 m14 => ?_⟩
      have e14 := Ex.new m14 (o := .lst [V.non])
      have h14 := upd_same (H := G13) (a := z14) (o := .lst [V.non])
      generalize upd G13 z14 (.lst [V.non]) = G14 at e14 h14 ⊢
      have c14 := c13.ex e14
      have r14 := BadRow.odd (K := K) (H := hidB b G14) (m := G.length) (i := j) (d := .none) (hid_at (c13.apart m14) h14) (.cons .non .nil) (by simp) rfl (by simp)
      refine ⟨sz_ok (by omega), fun z15 m15 => ?_⟩
      have e15 := Ex.new m15 (o := .lst [V.bl true])
      have h15 := upd_same (H := G14) (a := z15) (o := .lst [V.bl true])
      generalize upd G14 z15 (.lst [V.bl true]) = G15 at e15 h15 ⊢
      have c15 := c14.ex e15
      have r15 := BadRow.odd (K := K) (H := hidB b G15) (m := G.length) (i := j) (d := .bool true) (hid_at (c14.apart m15) h15) (.cons (.bl _) .nil) (by simp) rfl (by simp)
      refine ⟨sz_ok (by omega), fun z16 m16 => ?_⟩
      have e16 := Ex.new m16 (o := .lst [V.ref z1, V.ref z3, V.ref z5, V.ref z7, V.ref z11, V.ref z12, V.non, V.int 0, V.str (Str.ofString ""), V.ref z13, V.ref z14, V.ref z15])
      have h16 := upd_same (H := G15) (a := z16) (o := .lst [V.ref z1, V.ref z3, V.ref z5, V.ref z7, V.ref z11, V.ref z12, V.non, V.int 0, V.str (Str.ofString ""), V.ref z13, V.ref z14, V.ref z15])
      generalize upd G15 z16 (.lst [V.ref z1, V.ref z3, V.ref z5, V.ref z7, V.ref z11, V.ref z12, V.non, V.int 0, V.str (Str.ofString ""), V.ref z13, V.ref z14, V.ref z15]) = G16 at e16 h16 ⊢
      have g15 := e16
      have g14 := e15.trans g15
      have g13 := e14.trans g14
      have g12 := e13.trans g13
      have g11 := e12.trans g12
      have g7 := ((e8.trans e9).trans (e10.trans e11)).trans g11
      have g5 := (e6.trans e7).trans g7
      have g3 := (e4.trans e5).trans g5
      have g1 := (e2.trans e3).trans g3
      refine hR _ _ ⟨z16, _, rfl, c15.apart m16, e1.trans g1, h16, rfl, fun x hx => ?_⟩
      simp only [List.mem_cons, List.mem_nil_iff, or_false] at hx
      rcases hx with rfl | rfl | rfl | rfl | rfl | rfl | rfl | rfl | rfl | rfl | rfl | rfl
      · exact r1.ex (hid_of g1)
      · exact r3.ex (hid_of g3)
      · exact r5.ex (hid_of g5)
      · exact r7.ex (hid_of g7)
      · exact r11.ex (hid_of g11)
      · exact r12.ex (hid_of g12)
      · exact .non
      · exact .int _
      · exact .str _
      · exact r13.ex (hid_of g13)
      · exact r14.ex (hid_of g14)
      · exact r15.ex (hid_of g15)
    obtain ⟨o, xs, rfl, nob, e2, ho, xl, hx⟩ := hC
    have hp2 := e2 _ _ hp
    have b2 := b1.ex e2
    try simp only [List.set_cons_zero, List.set_cons_succ]
    refine seq_asg (fun v H3 => ∃ (o : Addr) (xs : List V), v = .ref o ∧ o ≠ b ∧ Ex H2 H3 ∧ H3 o = some (.lst xs) ∧ xs.length = 20 ∧ ∀ x ∈ xs, BadRow K (hidB b H3) j G.length x) (fun R hR => ?_) (fun v H3 hC => ?_)
    · walk_at "sx"
      refine ⟨sz_ok (by omega), fun z1 m1 => ?_⟩
      have e1 := Ex.new m1 (o := .lst [V.str (Str.ofString "0")])
      have h1 := upd_same (H := H2) (a := z1) (o := .lst [V.str (Str.ofString "0")])
      generalize upd H2 z1 (.lst [V.str (Str.ofString "0")]) = G1 at e1 h1 ⊢
      have c1 := b2.ex e1
      have r1 := BadRow.odd (K := K) (H := hidB b G1) (m := G.length) (i := j) (d := .str (Str.ofString "0")) (hid_at (b2.apart m1) h1) (.cons (.str _) .nil) (by simp) rfl (by simp)
      refine ⟨sz_ok (by omega), fun z2 m2 => ?_⟩
      have e2' := Ex.new m2 (o := .lst [V.int 0])
      have h2 := upd_same (H := G1) (a := z2) (o := .lst [V.int 0])
      generalize upd G1 z2 (.lst [V.int 0]) = G2 at e2' h2 ⊢
      have c2 := c1.ex e2'
      refine ⟨sz_ok (by omega), fun z3 m3 => ?_⟩
      have e3 := Ex.new m3 (o := .lst [V.ref z2])
      have h3 := upd_same (H := G2) (a := z3) (o := .lst [V.ref z2])
      generalize upd G2 z3 (.lst [V.ref z2]) = G3 at e3 h3 ⊢
      have c3 := c2.ex e3
      have n2b := c1.apart m2
      have r3 := BadRow.odd (K := K) (H := hidB b G3) (m := G.length) (i := j) (d := .list [.int 0]) (hid_at (c2.apart m3) h3) (.cons (.lst (.inl (.inl (hid_at n2b (e3 _ _ h2)))) (.cons (.int 0) .nil)) .nil) (by simp) rfl (by simp)
      refine ⟨sz_ok (by omega), fun z4 m4 => ?_⟩
      have e4 := Ex.new m4 (o := .lst [V.int (((G.length : Nat) : Int) - 1), V.int 0, V.int (((G.length : Nat) : Int) - 1)])
      have h4 := upd_same (H := G3) (a := z4) (o := .lst [V.int (((G.length : Nat) : Int) - 1), V.int 0, V.int (((G.length : Nat) : Int) - 1)])
      generalize upd G3 z4 (.lst [V.int (((G.length : Nat) : Int) - 1), V.int 0, V.int (((G.length : Nat) : Int) - 1)]) = G4 at e4 h4 ⊢
      have c4 := c3.ex e4
      have r4 := BadRow.down (K := K) (H := hidB b G4) (m := G.length) (i := j) (hid_at (c3.apart m4) h4) (by omega)
      have E4 := ((e1.trans e2').trans e3).trans e4
      refine ⟨p, _, rfl, .inl ⟨.inl (.inl (E4 _ _ hp2)), ?_⟩⟩
      refine fun z5 m5 => ?_
      have e5 := Ex.new m5 (o := .tup ((nz (row G j)).map V.int))
      have h5 := upd_same (H := G4) (a := z5) (o := .tup ((nz (row G j)).map V.int))
      generalize upd G4 z5 (.tup ((nz (row G j)).map V.int)) = G5 at e5 h5 ⊢
      have c5 := c4.ex e5
      have r5 := BadRow.tup (K := K) (H := hidB b G5) (m := G.length) (i := j) (hid_at (c4.apart m5) h5)
      refine ⟨sz_ok (by omega), fun z6 m6 => ?_⟩
      have e6 := Ex.new m6 (o := .lst [V.int (0 - ((G.length : Nat) : Int))])
      have h6 := upd_same (H := G5) (a := z6) (o := .lst [V.int (0 - ((G.length : Nat) : Int))])
      generalize upd G5 z6 (.lst [V.int (0 - ((G.length : Nat) : Int))]) = G6 at e6 h6 ⊢
      have c6 := c5.ex e6
      have r6 := BadRow.out (K := K) (H := hidB b G6) (m := G.length) (i := j) (ns := [0 - (G.length : Int)]) (x := 0 - (G.length : Int)) (hid_at (c5.apart m6) h6) (by simp) (.inl (by omega)) (by simp)
      refine ⟨sz_ok (by omega), fun z7 m7 => ?_⟩
      have e7 := Ex.new m7 (o := .lst [V.int ((j : Nat) : Int), V.int ((G.length : Nat) : Int)])
      have h7 := upd_same (H := G6) (a := z7) (o := .lst [V.int ((j : Nat) : Int), V.int ((G.length : Nat) : Int)])
      generalize upd G6 z7 (.lst [V.int ((j : Nat) : Int), V.int ((G.length : Nat) : Int)]) = G7 at e7 h7 ⊢
      have c7 := c6.ex e7
      have r7 := BadRow.out (K := K) (H := hidB b G7) (m := G.length) (i := j) (ns := [(j : Int), (G.length : Int)]) (x := (G.length : Int)) (hid_at (c6.apart m7) h7) (by simp) (.inr (by omega)) (by simp)
      refine ⟨sz_ok (by omega), fun z8 m8 => ?_⟩
      have e8 := Ex.new m8 (o := .lst [V.int ((j : Nat) : Int)])
      have h8 := upd_same (H := G7) (a := z8) (o := .lst [V.int ((j : Nat) : Int)])
      generalize upd G7 z8 (.lst [V.int ((j : Nat) : Int)]) = G8 at e8 h8 ⊢
      have c8 := c7.ex e8
      have E8 := E4.trans (e5.trans (e6.trans (e7.trans e8)))
      refine catE (E8 _ _ hp2) h8 (by rw [List.length_map]; simp <;> omega) fun z9 G9 m9 e9 h9 => ?_
      have c9 := c8.ex e9
      have r9 := BadRow.self (K := K) (H := hidB b G9) (m := G.length) (i := j) (ns := nz (row G j) ++ [(j : Int)]) (hid_at (c8.apart m9) (by rw [List.map_append]; exact h9)) (by simp) (by rw [List.length_append]; simp <;> omega)
      have E9 := E8.trans e9
      refine ⟨sz_ok (by omega), fun z10 m10 => ?_⟩
      have e10 := Ex.new m10 (o := .lst [V.bl false])
      have h10 := upd_same (H := G9) (a := z10) (o := .lst [V.bl false])
      generalize upd G9 z10 (.lst [V.bl false]) = G10 at e10 h10 ⊢
      have c10 := c9.ex e10
      refine catE h10 ((E9.trans e10) _ _ hp2) (by rw [List.length_map]; simp <;> omega) fun z11 G11 m11 e11 h11 => ?_
      have c11 := c10.ex e11
      have r11 := BadRow.odd (K := K) (H := hidB b G11) (m := G.length) (i := j) (xs := V.bl false :: (nz (row G j)).map V.int) (ds := .bool false :: (nz (row G j)).map PyData.int) (d := .bool false) (hid_at (c10.apart m11) h11) (.cons (.bl _) (de_ints _)) (by simp) rfl (by rw [List.length_cons, List.length_map]; omega)
      have E11 := (E9.trans e10).trans e11
      refine ⟨sz_ok (by omega), fun z12 m12 => ?_⟩
      have e12 := Ex.new m12 (o := .lst [V.ref z1, V.ref z3, V.ref z4, V.ref z5, V.ref z6, V.ref z7, V.ref z9, V.ref z11])
      have h12 := upd_same (H := G11) (a := z12) (o := .lst [V.ref z1, V.ref z3, V.ref z4, V.ref z5, V.ref z6, V.ref z7, V.ref z9, V.ref z11])
      generalize upd G11 z12 (.lst [V.ref z1, V.ref z3, V.ref z4, V.ref z5, V.ref z6, V.ref z7, V.ref z9, V.ref z11]) = G12 at e12 h12 ⊢
      have c12 := c11.ex e12
      have E12 := E11.trans e12
      refine catE (E12 _ _ ho) h12 (by rw [xl]; simp) fun z13 G13 m13 e13 h13 => ?_
      have g12 := e13
      have g11 := e12.trans g12
      have g9 := (e10.trans e11).trans g11
      have g7 := (e8.trans e9).trans g9
      have g6 := e7.trans g7
      have g5 := e6.trans g6
      have g4 := e5.trans g5
      have g3 := e4.trans g4
      have g1 := (e2'.trans e3).trans g3
      refine hR _ _ ⟨z13, _, rfl, c12.apart m13, E12.trans e13, h13, by rw [List.length_append, xl]; rfl, fun x hm => ?_⟩
      rcases List.mem_append.mp hm with hm | hm
      · exact (hx x hm).ex (hid_of (E12.trans e13))
      · simp only [List.mem_cons, List.mem_nil_iff, or_false] at hm
        rcases hm with rfl | rfl | rfl | rfl | rfl | rfl | rfl | rfl
        · exact r1.ex (hid_of g1)
        · exact r3.ex (hid_of g3)
        · exact r4.ex (hid_of g4)
        · exact r5.ex (hid_of g5)
        · exact r6.ex (hid_of g6)
        · exact r7.ex (hid_of g7)
        · exact r9.ex (hid_of g9)
        · exact r11.ex (hid_of g11)
    obtain ⟨o2, xs2, rfl, nob2, e3, ho2, xl2, hx2⟩ := hC
    have b3 := b2.ex e3
    try simp only [List.set_cons_zero, List.set_cons_succ]
    have hG3 := hG1.nw (Nw.of (e2.trans e3))
    -- values that are no site
    refine seq_asg (fun v H4 => ∃ (o : Addr) (xs : List V), v = .ref o ∧ o ≠ b ∧ Fx b H3 H4 ∧ BagAt H4 b (c + 2) ∧ H4 o = some (.lst xs) ∧ xs.length = 8 ∧ ∀ x ∈ xs, BadSite K (hidB b H4) x) (fun R hR => ?_) (fun v H4 hC => ?_)
    · obtain ⟨gx, hs', hgl, hga⟩ := grid_all (K := K) (hid_grid hG3 hb0)
      have hs : H3 s = some (.lst gx) := hid_ex _ _ hs'
      walk_at "sx"
      refine slXE (.inl (.inl hs)) fun z1 G1 y1 m1 e1 h1 q1 _ _ => ?_
      rw [cut_to gx (j := j) rfl (by omega)] at q1
      have c1 := b3.ex e1
      have n1b := b3.apart m1
      refine ⟨b, _, _, rfl, by omega, big_of (by omega), c1, by omega, fun r G2 r0 r1 f2 c2 => ?_⟩
      have ho2' := f2 _ _ nob2 (e1 _ _ ho2)
      have hr : xs2[r.toNat]? = some (xs2[r.toNat]'(by omega)) := List.getElem?_eq_getElem (by omega)
      generalize xs2[r.toNat]'(by omega) = od at hr
      refine ixL (.inl (.inl ho2')) (atI_n (j := r.toNat) (by omega) hr) ?_
      have bad := hx2 od (List.mem_of_getElem? hr)
      have F2 := (Fx.of e1 (b := b)).trans f2
      have bad2 := bad.ex (hid_fx F2)
      have ga2 := DeAll.ex (hid_fx F2) _ _ hga
      have hs2 := F2 _ _ nsb hs
      have h1' := f2 _ _ n1b h1
      refine ⟨sz_ok (by omega), fun z3 m3 => ?_⟩
      have e3 := Ex.new m3 (o := .lst [od])
      have h3 := upd_same (H := G2) (a := z3) (o := .lst [od])
      generalize upd G2 z3 (.lst [od]) = G3 at e3 h3 ⊢
      have c3 := c2.ex e3
      have yl : y1.length ≤ 12 := by rw [q1, List.length_take]; omega
      refine catE (e3 _ _ h1') h3 (by simp <;> omega) fun z4 G4 m4 e4 h4 => ?_
      have c4 := c3.ex e4
      have E4 := e3.trans e4
      refine slXE (.inl (.inl (E4 _ _ hs2))) fun z5 G5 y5 m5 e5 h5 q5 l5 _ => ?_
      rw [cut_fr gx j] at q5
      have c5 := c4.ex e5
      refine catE (e5 _ _ h4) h5 (by rw [List.length_append]; simp <;> omega) fun z6 G6 m6 e6 h6 => ?_
      have c6 := c5.ex e6
      have E6 := E4.trans (e5.trans e6)
      have w6 := BadSite.put (K := K) (H := hidB b G6) ok hj (DeAll.ex (hid_of E6) _ _ ga2) (bad2.ex (hid_of E6)) (hid_at (c5.apart m6) (by rw [h6, q1, q5]))
      refine ⟨s, _, rfl, .inl ⟨.inl (.inl (E6 _ _ hs2)), ?_⟩⟩
      refine fun z7 m7 => ?_
      have e7 := Ex.new m7 (o := .tup gx)
      have h7 := upd_same (H := G6) (a := z7) (o := .tup gx)
      generalize upd G6 z7 (.tup gx) = G7 at e7 h7 ⊢
      have c7 := c6.ex e7
      have w7 := BadSite.tup (K := K) (H := hidB b G7) (hid_at (c6.apart m7) h7) (DeAll.ex (hid_of (E6.trans e7)) _ _ ga2)
      refine ⟨sz_ok (by omega), fun z8 m8 => ?_⟩
      have e8 := Ex.new m8 (o := .lst [])
      have h8 := upd_same (H := G7) (a := z8) (o := .lst [])
      generalize upd G7 z8 (.lst []) = G8 at e8 h8 ⊢
      have c8 := c7.ex e8
      have w8 := BadSite.long (K := K) (H := hidB b G8) (xs := []) (ds := []) (hid_at (c7.apart m8) h8) .nil (fun d hd => by simp at hd) (by simp)
      refine fun z9 m9 => ?_
      have e9 := Ex.new m9 (o := .dK [])
      have h9 := upd_same (H := G8) (a := z9) (o := .dK [])
      generalize upd G8 z9 (.dK []) = G9 at e9 h9 ⊢
      have c9 := c8.ex e9
      have w9 := BadSite.dic (K := K) (H := hidB b G9) (hid_at (c8.apart m9) h9)
      refine ⟨sz_ok (by omega), fun z10 m10 => ?_⟩
      have e10 := Ex.new m10 (o := .lst [V.non])
      have h10 := upd_same (H := G9) (a := z10) (o := .lst [V.non])
      generalize upd G9 z10 (.lst [V.non]) = G10 at e10 h10 ⊢
      have c10 := c9.ex e10
      have w10 := BadSite.at (K := K) (H := hidB b G10) (i := 0) (xs := [V.non]) (ds := [.none]) (hid_at (c9.apart m10) h10) (.cons .non .nil) (fun d hd => by rw [List.mem_singleton.mp hd]; exact fun _ h => nomatch h) (by simp) rfl
      refine ⟨sz_ok (by omega), fun z11 m11 => ?_⟩
      have e11 := Ex.new m11 (o := .lst [V.ref z6, V.ref z7, V.ref z8, V.non, V.int 0, V.str (Str.ofString ""), V.ref z9, V.ref z10])
      have h11 := upd_same (H := G10) (a := z11) (o := .lst [V.ref z6, V.ref z7, V.ref z8, V.non, V.int 0, V.str (Str.ofString ""), V.ref z9, V.ref z10])
      generalize upd G10 z11 (.lst [V.ref z6, V.ref z7, V.ref z8, V.non, V.int 0, V.str (Str.ofString ""), V.ref z9, V.ref z10]) = G11 at e11 h11 ⊢
      have g10 := e11
      have g9 := e10.trans g10
      have g8 := e9.trans g9
      have g7 := e8.trans g8
      have g6 := e7.trans g7
      refine hR _ _ ⟨z11, _, rfl, c10.apart m11, F2.trans (Fx.of (E6.trans g6)), (c2.ex (E6.trans g6)).mono (by omega), h11, rfl, fun x hm => ?_⟩
      simp only [List.mem_cons, List.mem_nil_iff, or_false] at hm
      rcases hm with rfl | rfl | rfl | rfl | rfl | rfl | rfl | rfl
      · exact w6.ex (hid_of g6)
      · exact w7.ex (hid_of g7)
      · exact w8.ex (hid_of g8)
      · exact .non
      · exact .int _
      · exact .str _
      · exact w9.ex (hid_of g9)
      · exact w10.ex (hid_of g10)
    obtain ⟨o4, xs4, rfl, nob4, f4, b4, ho4, xl4, hx4⟩ := hC
    try simp only [List.set_cons_zero, List.set_cons_succ]
    refine seq_asg (fun v H5 => ∃ (o : Addr) (xs : List V), v = .ref o ∧ o ≠ b ∧ Ex H4 H5 ∧ H5 o = some (.lst xs) ∧ xs.length = 13 ∧ ∀ x ∈ xs, BadSite K (hidB b H5) x) (fun R hR => ?_) (fun v H5 hC => ?_)
    · walk_at "sx"
      refine ⟨sz_ok (by omega), fun z1 m1 => ?_⟩
      have e1 := Ex.new m1 (o := .lst [])
      have h1 := upd_same (H := H4) (a := z1) (o := .lst [])
      generalize upd H4 z1 (.lst []) = G1 at e1 h1 ⊢
      refine ⟨sz_ok (by omega), fun z2 m2 => ?_⟩
      have e2 := Ex.new m2 (o := .lst [V.ref z1])
      have h2 := upd_same (H := G1) (a := z2) (o := .lst [V.ref z1])
      generalize upd G1 z2 (.lst [V.ref z1]) = G2 at e2 h2 ⊢
      have c1 := b4.ex e1
      have c2 := c1.ex e2
      have n1b := b4.apart m1
      refine repE (k := 13) h2 (by omega) (by simp) fun z3 G3 m3 e3 h3 => ?_
      have c3 := c2.ex e3
      have w3 := bad_rep (K := K) (n := 13) (H := hidB b G3) (hid_at n1b ((e2.trans e3) _ _ h1)) (hid_at (c2.apart m3) h3) (by omega)
      refine ⟨sz_ok (by omega), fun z4 m4 => ?_⟩
      have e4 := Ex.new m4 (o := .lst [])
      have h4 := upd_same (H := G3) (a := z4) (o := .lst [])
      generalize upd G3 z4 (.lst []) = G4 at e4 h4 ⊢
      refine ⟨sz_ok (by omega), fun z5 m5 => ?_⟩
      have e5 := Ex.new m5 (o := .lst [V.ref z4])
      have h5 := upd_same (H := G4) (a := z5) (o := .lst [V.ref z4])
      generalize upd G4 z5 (.lst [V.ref z4]) = G5 at e5 h5 ⊢
      have c4 := c3.ex e4
      have c5 := c4.ex e5
      have n4b := c3.apart m4
      refine repE (k := 400) h5 (by omega) (by simp) fun z6 G6 m6 e6 h6 => ?_
      have c6 := c5.ex e6
      have w6 := bad_rep (K := K) (n := 400) (H := hidB b G6) (hid_at n4b ((e5.trans e6) _ _ h4)) (hid_at (c5.apart m6) h6) (by omega)
      refine ⟨sz_ok (by omega), fun z7 m7 => ?_⟩
      have e7 := Ex.new m7 (o := .lst [V.int 0])
      have h7 := upd_same (H := G6) (a := z7) (o := .lst [V.int 0])
      generalize upd G6 z7 (.lst [V.int 0]) = G7 at e7 h7 ⊢
      have c7 := c6.ex e7
      have w7 := BadSite.at (K := K) (H := hidB b G7) (i := 0) (xs := [V.int 0]) (ds := [.int 0]) (hid_at (c6.apart m7) h7) (.cons (.int 0) .nil) (fun d hd => by rw [List.mem_singleton.mp hd]; exact fun _ h => nomatch h) (by simp) rfl
      refine ⟨sz_ok (by omega), fun z8 m8 => ?_⟩
      have e8 := Ex.new m8 (o := .tup [])
      have h8 := upd_same (H := G7) (a := z8) (o := .tup [])
      generalize upd G7 z8 (.tup []) = G8 at e8 h8 ⊢
      have c8 := c7.ex e8
      refine ⟨sz_ok (by omega), fun z9 m9 => ?_⟩
      have e9 := Ex.new m9 (o := .lst [V.ref z8])
      have h9 := upd_same (H := G8) (a := z9) (o := .lst [V.ref z8])
      generalize upd G8 z9 (.lst [V.ref z8]) = G9 at e9 h9 ⊢
      have c9 := c8.ex e9
      have n8b := c7.apart m8
      have w9 := BadSite.at (K := K) (H := hidB b G9) (i := 0) (xs := [V.ref z8]) (ds := [.tuple []]) (hid_at (c8.apart m9) h9) (.cons (.tup (.inl (.inl (hid_at n8b (e9 _ _ h8)))) .nil) .nil) (fun d hd => by rw [List.mem_singleton.mp hd]; exact fun _ h => nomatch h) (by simp) rfl
      refine ⟨sz_ok (by omega), fun z10 m10 => ?_⟩
      have e10 := Ex.new m10 (o := .lst [V.int 0])
      have h10 := upd_same (H := G9) (a := z10) (o := .lst [V.int 0])
      generalize upd G9 z10 (.lst [V.int 0]) = G10 at e10 h10 ⊢
      have c10 := c9.ex e10
      refine ⟨sz_ok (by omega), fun z11 m11 => ?_⟩
      have e11 := Ex.new m11 (o := .lst [V.ref z10])
      have h11 := upd_same (H := G10) (a := z11) (o := .lst [V.ref z10])
      generalize upd G10 z11 (.lst [V.ref z10]) = G11 at e11 h11 ⊢
      have c11 := c10.ex e11
      have n10b := c9.apart m10
      have w11 := BadSite.at (K := K) (H := hidB b G11) (i := 0) (xs := [V.ref z10]) (ds := [.list [.int 0]]) (hid_at (c10.apart m11) h11) (.cons (.lst (.inl (.inl (hid_at n10b (e11 _ _ h10)))) (.cons (.int 0) .nil)) .nil) (fun d hd => by rw [List.mem_singleton.mp hd]; exact fun es h => by cases h; simp) (by simp) (by decide +kernel)
      refine ⟨sz_ok (by omega), fun z12 m12 => ?_⟩
      have e12 := Ex.new m12 (o := .lst [V.ref z3, V.ref z6, V.ref z7, V.ref z9, V.ref z11])
      have h12 := upd_same (H := G11) (a := z12) (o := .lst [V.ref z3, V.ref z6, V.ref z7, V.ref z9, V.ref z11])
      generalize upd G11 z12 (.lst [V.ref z3, V.ref z6, V.ref z7, V.ref z9, V.ref z11]) = G12 at e12 h12 ⊢
      have c12 := c11.ex e12
      have E3 := (e1.trans e2).trans e3
      have E6 := (e4.trans e5).trans e6
      have E9 := (e7.trans e8).trans e9
      have E12 := (e10.trans e11).trans e12
      have EA := E3.trans (E6.trans (E9.trans E12))
      refine catE (EA _ _ ho4) h12 (by rw [xl4]; simp) fun z13 G13 m13 e13 h13 => ?_
      have g12 := e13
      have g11 := e12.trans g12
      have g9 := (e10.trans e11).trans g11
      have g7 := (e8.trans e9).trans g9
      have g6 := e7.trans g7
      have g3 := E6.trans g6
      refine hR _ _ ⟨z13, _, rfl, c12.apart m13, EA.trans e13, h13, by rw [List.length_append, xl4]; rfl, fun x hm => ?_⟩
      rcases List.mem_append.mp hm with hm | hm
      · exact (hx4 x hm).ex (hid_of (EA.trans e13))
      · simp only [List.mem_cons, List.mem_nil_iff, or_false] at hm
        rcases hm with rfl | rfl | rfl | rfl | rfl
        · exact w3.ex (hid_of g3)
        · exact w6.ex (hid_of g6)
        · exact w7.ex (hid_of g7)
        · exact w9.ex (hid_of g9)
        · exact w11.ex (hid_of g11)
    obtain ⟨o5, xs5, rfl, nob5, e5, ho5, xl5, hx5⟩ := hC
    have b5 := b4.ex e5
    try simp only [List.set_cons_zero, List.set_cons_succ]
    walk_at "sx"
    refine ⟨b, _, _, rfl, by omega, big_of (by omega), b5, by omega, fun r1 H6 r10 r11 f6 b6 => ⟨sz_ok (by omega), fun z nz1 => ?_⟩⟩
    have ez := Ex.new nz1 (o := .lst [V.int r1, V.int 0])
    refine ⟨b, _, _, rfl, by omega, big_of (by omega), b6.ex ez, by omega, fun r2 H7 r20 r21 f7 b7 => ?_⟩
    obtain ⟨y, hy, ey⟩ := pickI (ns := [r1, 0]) r20 r21
    refine ixL (.inl (.inl (f7 _ _ (b6.apart nz1) upd_same))) ey ?_
    have py : 0 ≤ y ∧ y < 13 := by
      simp only [List.mem_cons, List.mem_nil_iff, or_false] at hy
      rcases hy with rfl | rfl <;> omega
    have F := (f6.trans (Fx.of ez)).trans f7
    have hr : xs5[y.toNat]? = some xs5[y.toNat] := List.getElem?_eq_getElem (by omega)
    refine ixL (.inl (.inl (F _ _ nob5 ho5))) (atI_n (j := y.toNat) (by omega) hr) ?_
    exact k _ _ (((f1.trans (Fx.of (e2.trans e3))).trans f4).trans ((Fx.of e5).trans F)) (b7.mono (by omega)) ((hx5 _ (List.mem_of_getElem? hr)).ex (hid_fx F))
end
end LW

set_option Elab.async false
set_option linter.all false
set_option maxRecDepth 100000
set_option maxHeartbeats 4000000
namespace LW
open PySem PySem.Spec PyProof.Rows L2 BC Evl TR
local macro_rules | `(tactic| walk_at "sx") => `(tactic| try simp only [x_callF2, x_seq, x_next, x_brk, x_cnt, x_nev, x_ret, x_retN, x_drop, x_ifS, x_asg, x_gn, x_gsub, x_par, x_par3, x_aug, x_for, x_lc, x_rng1, x_rng2, x_rng3, x_ilist, x_itup, x_ienum, x_izip, x_izipA, x_istr, x_var, x_c, x_op, x_un, x_test, x_b, x_chain, x_and, x_or, x_not, x_andV, x_orV, x_notV, x_ife, x_nil, x_cons, x_lst, x_tup, x_cb, x_call, x_callK, x_callS, x_bm, x_bm0, x_tru, x_sl, x_nopart, x_part, x_revL, x_I0, x_I, x_U, x_ip, x_ipC, x_eqI, x_neI, x_eqB, x_neB, x_eqS, x_neS, x_isB, x_isNB, x_lrg, x_gall, x_lenSet, x_augS, x_sortSet, x_sortSetB, x_lenSetA, x_rg1, x_rg2,
  L2.start, List.map_cons, List.map_nil, List.length_cons, List.length_nil, Nat.reduceAdd, Nat.reduceSub, Nat.sub_self, Nat.zero_add, List.replicate, List.replicate_succ, List.replicate_zero, List.append_nil, List.cons_append, List.nil_append, List.set_cons_zero, List.set_cons_succ, List.getElem?_cons_zero, List.getElem?_cons_succ, Option.some.injEq, V.int.injEq, V.bl.injEq, V.ref.injEq, V.str.injEq, List.cons.injEq, and_true, true_and, exists_eq_left', exists_eq_left, exists_and_left, exists_eq, if_true, if_false, ite_true, ite_false, Bool.true_eq_false, Bool.false_eq_true, reduceIte, reduceCtorEq, Bool.not_true, Bool.not_false, decide_true, decide_false, decide_eq_true_eq, Bool.and_true, Bool.true_and, Bool.and_self, Bool.and_false, Bool.false_and, Bool.or_self, Bool.or_false, Bool.false_or, Bool.or_true, Bool.true_or, eq_self])
section
variable {P : Program} {w : World} {K : PySem.W.Frag} {mg : Str → Option Value} {base : Heap}
def spLaw (K : PySem.W.Frag) : Sp := fun vs H Q _ => ∃ (a : Addr) (ns : List Int), vs = [.ref a] ∧ SqL K H a (ns.map V.int) ∧ ns.length ≤ 63 ∧ ∀ H', Q (.bl true) H'
theorem gd_ints {ns : List Int} {k : Nat} (h : ∀ x ∈ ns, 0 ≤ x ∧ x < 40) (hl : ns.length ≤ k) : Gd 1 (131 * k) (PyData.list (ns.map PyData.int)) := by
  have g : Gd (0 + 1) ((130 + 1) * (ns.map PyData.int).length) (.list (ns.map PyData.int)) := Gd.list fun d m => by
    obtain ⟨x, hx, rfl⟩ := List.mem_map.mp m
    have := h x hx
    exact Gd.int (Nat.lt_of_lt_of_le (m := 40) (by omega) (by decide))
  rw [List.length_map] at g
  exact g.mono (Nat.le_refl _) (Nat.mul_le_mul_left _ hl)
theorem gd_grid {G : Grid} (h : ∀ r ∈ G, r.length ≤ 12 ∧ ∀ x ∈ r, x < 12) (hl : G.length ≤ 12) : Gd 2 18876 (dG G) := by
  have g : Gd (1 + 1) ((131 * 12 + 1) * (G.map fun r => PyData.list ((nz r).map PyData.int)).length) (dG G) := Gd.list fun d m => by
    obtain ⟨r, hr, rfl⟩ := List.mem_map.mp m
    obtain ⟨a, b⟩ := h r hr
    exact gd_ints (ns := nz r) (k := 12) (fun x hx => by
      obtain ⟨y, hy, rfl⟩ := List.mem_map.mp hx
      have := b y hy
      omega) (by rw [nz_len]; exact a)
  rw [List.length_map] at g
  exact g.mono (Nat.le_refl _) (by omega)
theorem site_small {G : Grid} (h : SiteOk G) : ∀ r ∈ G, r.length ≤ 12 ∧ ∀ x ∈ r, x < 12 := fun r m => by
  obtain ⟨i, hi, e⟩ := List.getElem_of_mem m
  have e' := List.getElem?_eq_some_iff.mpr ⟨hi, e⟩
  have n2 := h.n2
  exact ⟨h.len e', fun x hx => by have := h.lt i r e' x hx; omega⟩
/-- what is known of a value that is wrong -/
def OutV (K : PySem.W.Frag) (H : Hp) (lo hi : Int) (v : V) : Prop := ∃ d, De K H v d ∧ inR lo hi v = false
theorem OutV.ex {H H' : Hp} {lo hi : Int} {v : V} (h : OutV K H lo hi v) (e : Ex H H') : OutV K H' lo hi v := by
  obtain ⟨d, a, b⟩ := h
  exact ⟨d, De.ex e _ _ a, b⟩
def dKept (G : Grid) (L : List Nat) : PyData := .list [dG G, .list ((nz L).map PyData.int)]
theorem gd_kept {G : Grid} (ok : SiteOk G) {L : List Nat} (hl : L.length ≤ G.length) (lt : ∀ x ∈ L, x < G.length) : Gd 3 37754 (dKept G L) := by
  have n2 := ok.n2
  have g : Gd (2 + 1) ((18876 + 1) * ([dG G, .list ((nz L).map PyData.int)] : List PyData).length) (dKept G L) := Gd.list fun d m => by
    simp only [List.mem_cons, List.mem_nil_iff, or_false] at m
    rcases m with rfl | rfl
    · exact gd_grid (site_small ok) n2
    · exact (gd_ints (ns := nz L) (k := 12) (fun x hx => by
        obtain ⟨y, hy, rfl⟩ := List.mem_map.mp hx
        have := lt y hy
        omega) (by rw [nz_len]; omega)).mono (by omega) (by omega)
  exact g
theorem inD_out {m x : Int} (h : x < 0 ∨ m ≤ x) : inD 0 (m - 1) (.int x) = false := by
  show (decide (0 ≤ x) && decide (x ≤ m - 1)) = false
  rcases h with h | h
  · rw [decide_eq_false (by omega)]; rfl
  · rw [decide_eq_false (show ¬ x ≤ m - 1 by omega), Bool.and_false]
theorem OutV.non {H : Hp} {lo hi : Int} : OutV K H lo hi .non := ⟨_, .non, rfl⟩
theorem OutV.bl {H : Hp} {lo hi : Int} (b : Bool) : OutV K H lo hi (.bl b) := ⟨_, .bl b, rfl⟩
theorem OutV.str {H : Hp} {lo hi : Int} (x : Str) : OutV K H lo hi (.str x) := ⟨_, .str x, rfl⟩
theorem OutV.int {H : Hp} {lo hi x : Int} (h : x < lo ∨ hi < x) : OutV K H lo hi (.int x) := by
  refine ⟨_, .int x, ?_⟩
  show (decide (lo ≤ x) && decide (x ≤ hi)) = false
  rcases h with h | h
  · rw [decide_eq_false (by omega)]; rfl
  · rw [decide_eq_false (show ¬ x ≤ hi by omega), Bool.and_false]
theorem OutV.lst {H : Hp} {lo hi : Int} {a : Addr} {ns : List Int} (h : H a = some (.lst (ns.map V.int))) : OutV K H lo hi (.ref a) := ⟨_, .lst (.inl (.inl h)) (de_ints ns), rfl⟩
theorem OutV.tup {H : Hp} {lo hi : Int} {a : Addr} {ns : List Int} (h : H a = some (.tup (ns.map V.int))) : OutV K H lo hi (.ref a) := ⟨_, .tup (.inl (.inl h)) (de_ints ns), rfl⟩
/-- a value that is no list of different pages -/
def BadPages (K : PySem.W.Frag) (H : Hp) (m : Nat) (v : V) : Prop := ∃ d, De K H v d ∧ LenL d ∧ isPagesD m d = false
theorem BadPages.ex {H H' : Hp} {m : Nat} {v : V} (h : BadPages K H m v) (e : Ex H H') : BadPages K H' m v := by
  obtain ⟨d, a, b, c⟩ := h
  exact ⟨d, De.ex e _ _ a, b, c⟩
theorem BadPages.non {H : Hp} {m : Nat} : BadPages K H m .non := ⟨_, .non, fun _ h => (nomatch h), rfl⟩
theorem BadPages.int {H : Hp} {m : Nat} (n : Int) : BadPages K H m (.int n) := ⟨_, .int n, fun _ h => (nomatch h), rfl⟩
theorem BadPages.str {H : Hp} {m : Nat} (x : Str) : BadPages K H m (.str x) := ⟨_, .str x, fun _ h => (nomatch h), rfl⟩
theorem BadPages.dic {H : Hp} {m : Nat} {a : Addr} (h : H a = some (.dK [])) : BadPages K H m (.ref a) := ⟨_, .dic h, fun _ h => (nomatch h), rfl⟩
theorem BadPages.tup {H : Hp} {m : Nat} {a : Addr} {ns : List Int} (h : H a = some (.tup (ns.map V.int))) : BadPages K H m (.ref a) := ⟨_, .tup (.inl (.inl h)) (de_ints ns), fun _ h => (nomatch h), rfl⟩
theorem BadPages.odd {H : Hp} {m : Nat} {a : Addr} {xs : List V} {ds : List PyData} {d : PyData} (h : H a = some (.lst xs)) (hd : DeAll K H xs ds) (hm : d ∈ ds) (hb : inD 0 ((m : Int) - 1) d = false) (hl : ds.length ≤ 4000) : BadPages K H m (.ref a) := by
  refine ⟨.list ds, .lst (.inl (.inl h)) hd, fun es e => by cases e; exact hl, ?_⟩
  show (ds.all (inD 0 ((m : Int) - 1)) && decide (ds.map numD).Nodup) = false
  cases c : ds.all (inD 0 ((m : Int) - 1)) with
  | false => rfl
  | true =>
    have := List.all_eq_true.mp c d hm
    rw [hb] at this
    cases this
theorem BadPages.out {H : Hp} {m : Nat} {a : Addr} {ns : List Int} {x : Int} (h : H a = some (.lst (ns.map V.int))) (hx : x ∈ ns) (hb : x < 0 ∨ (m : Int) ≤ x) (hl : ns.length ≤ 4000) : BadPages K H m (.ref a) :=
  BadPages.odd (d := .int x) h (de_ints ns) (List.mem_map.mpr ⟨x, hx, rfl⟩) (inD_out hb) (by rw [List.length_map]; exact hl)
theorem BadPages.dup {H : Hp} {m : Nat} {a : Addr} {ns : List Int} (h : H a = some (.lst (ns.map V.int))) (hx : ¬ ns.Nodup) (hl : ns.length ≤ 4000) : BadPages K H m (.ref a) := by
  refine ⟨.list (ns.map PyData.int), .lst (.inl (.inl h)) (de_ints ns), fun es e => by cases e; rw [List.length_map]; exact hl, ?_⟩
  show ((ns.map PyData.int).all (inD 0 ((m : Int) - 1)) && decide ((ns.map PyData.int).map numD).Nodup) = false
  rw [ints_numD, decide_eq_false hx, Bool.and_false]
theorem rgok400 : RgOk 0 400 := by
  exact RgOk.of_le (by omega) (by omega) (by omega) (by omega)
theorem rg400 : rgV 0 400 = ((List.range 400).map fun i : Nat => (i : Int)).map V.int := by
  unfold rgV
  rw [List.map_map]
  refine List.map_congr_left fun i _ => ?_
  show V.int (0 + (i : Int)) = V.int (i : Int)
  rw [Int.zero_add]
theorem dp_strs {H : Hp} : ∀ ws : List Str, DpAll K H (ws.map V.str) (ws.map PyData.str)
  | [] => .nil
  | x :: ws => .cons (.str x) (dp_strs ws)
theorem pages_ok {m : Nat} {L : List Nat} (nd : L.Nodup) (lt : ∀ x ∈ L, x < m) : isPagesD m (.list ((nz L).map PyData.int)) = true := by
  show (((nz L).map PyData.int).all (inD 0 ((m : Int) - 1)) && decide (((nz L).map PyData.int).map numD).Nodup) = true
  rw [nz_numD]
  have h1 : ((nz L).map PyData.int).all (inD 0 ((m : Int) - 1)) = true := by
    rw [List.all_eq_true]
    intro d hd
    obtain ⟨x, hx, rfl⟩ := List.mem_map.mp hd
    obtain ⟨y, hy, rfl⟩ := List.mem_map.mp hx
    have := lt y hy
    show (decide ((0 : Int) ≤ (y : Int)) && decide ((y : Int) ≤ (m : Int) - 1)) = true
    rw [decide_eq_true (by omega), decide_eq_true (by omega)]
    rfl
  rw [h1, decide_eq_true (nz_nodup nd)]
  rfl
theorem inR_page {m p : Nat} (h : p < m) : inR 0 ((m : Int) - 1) (.int (p : Int)) = true := by
  show (decide ((0 : Int) ≤ (p : Int)) && decide ((p : Int) ≤ (m : Int) - 1)) = true
  rw [decide_eq_true (by omega), decide_eq_true (by omega)]
  rfl
theorem word2 {n m : Nat} {v1 v3 : V} {d2 : PyData} (h1 : inR 0 ((m : Int) - 1) v1 = false) (h2 : isPagesD m d2 = false) : wordE n m v1 d2 v3 = if n = 0 then Str.ofString "page" else Str.ofString "pages" := by
  unfold wordE
  by_cases c : n = 0
  · rw [if_pos ⟨c, h1⟩, if_pos c]
  · rw [if_neg (fun q => c q.1), if_pos h2, if_neg c]
theorem word3 {n m p : Nat} {v3 : V} {d2 : PyData} (hp : p < m) (h2 : isPagesD m d2 = false) : wordE n m (.int (p : Int)) d2 v3 = Str.ofString "pages" := by
  unfold wordE
  rw [if_neg (fun q => by have := q.2; rw [inR_page hp] at this; cases this), if_pos h2]
theorem word4 {n m p : Nat} {v3 : V} {L : List Nat} (hp : p < m) (nd : L.Nodup) (lt : ∀ x ∈ L, x < m) (np : p ∉ L) : wordE n m (.int (p : Int)) (.list ((nz L).map PyData.int)) v3 = if inR 0 60 v3 = false then Str.ofString "number" else Str.ofString "none" := by
  unfold wordE
  have h : inPg (.int (p : Int)) (.list ((nz L).map PyData.int)) = false := by
    show decide ((p : Int) ∈ ((nz L).map PyData.int).map numD) = false
    rw [nz_numD, dec_nz]
    exact decide_eq_false np
  rw [if_neg (fun q => by have := q.2; rw [inR_page hp] at this; cases this), if_neg (by rw [pages_ok nd lt]; decide), if_neg (fun q => by have := q.2; rw [h] at this; cases this)]
theorem word6 {m p : Nat} {v3 : V} {L : List Nat} (hp : p < m) (nd : L.Nodup) (lt : ∀ x ∈ L, x < m) (np : p ∈ L) : wordE 0 m (.int (p : Int)) (.list ((nz L).map PyData.int)) v3 = Str.ofString "pages" := by
  unfold wordE
  have h : inPg (.int (p : Int)) (.list ((nz L).map PyData.int)) = true := by
    show decide ((p : Int) ∈ ((nz L).map PyData.int).map numD) = true
    rw [nz_numD, dec_nz]
    exact decide_eq_true np
  rw [if_neg (fun q => by have := q.2; rw [inR_page hp] at this; cases this), if_neg (by rw [pages_ok nd lt]; decide), if_pos ⟨rfl, h⟩]
def JO (H1 : Hp) (a : Addr) (i : Nat) (σ' : L2.St) (H' : Hp) : Prop := ∃ l1 l2 l3 l4 l5 l6 l7 l8 l9 l10 l11 l12 l13 l14 l15 l16 l17, σ' = [some (.ref a), l1, l2, l3, l4, l5, l6, l7, l8, l9, l10, l11, l12, l13, l14, l15, l16, l17] ∧ Ex H1 H'
def JD (HF : Hp) (b : Addr) (c : Nat) (σ0 : Option V → Option V → Option V → L2.St) (m : Nat) (σ' : L2.St) (H' : Hp) : Prop := ∃ l10 l15 l16, σ' = σ0 l10 l15 l16 ∧ Fx b HF H' ∧ BagAt H' b (c + m)
def JT (HB : Hp) (a b : Addr) (i j : Nat) (σ' : L2.St) (H' : Hp) : Prop := ∃ l3 l4 l5 l6 l7 l8 l9 l10 l11 l12 l13 l14 l15 l16 l17, σ' = [some (.ref a), some (.int (0 + (i : Int))), some (.ref b), l3, l4, l5, l6, l7, l8, l9, l10, l11, l12, l13, l14, l15, l16, l17] ∧ Fx b HB H' ∧ BagAt H' b (400 * j)
theorem ok_law (T : Txt K mg) : FnG P w K mg base CX0 7 T.f_law T.fd_law ["_law_script"] (spLaw K) := by
  refine fun_okN T.F_law sc_law (fun vs H Q E h => ?_) (fun cdv A outer s H vs Q E hG hr h => ?_)
  · obtain ⟨a, ns, rfl, _⟩ := h
    rfl
  · obtain ⟨a, ns, rfl, hA, hn, k⟩ := h
    apply Exists.intro
    apply And.intro
    · apply pss_cons
      · apply ps_for PassesOwn.never rfl
        · exact (pi_range1 (by rfl) T.n_range (pa_cons (pe_callB (call_max2 rfl) (by rfl) T.n_max (by decide +kernel) (pa_cons pe_int (pa_cons (pe_callB (call_min2 rfl) (by rfl) T.n_min (by decide +kernel) (pa_cons pe_int (pa_cons (pe_callB (k_len (K := K) rfl) (by rfl) T.n_len PySem.boot_len (pa_cons (pv 0) pa_nil)) pa_nil))) pa_nil))) pa_nil))
        · exact (pg_name (i := 1) sc_law.nd rfl (.inl rfl))
        · apply pss_cons
          · exact (ps_set (i := 2) sc_law.nd rfl (.inl rfl) (pe_call (ok_law_open_source T) (hr.mono (by decide)) (by rfl) T.m_law_open_source T.F_law_open_source.kp T.b_law_open_source .nil pass0 (pa_cons (pv 0) (pa_cons (pv 1) pa_nil))))
          apply pss_one
          apply ps_for PassesOwn.never rfl
          · exact (pi_range1 (by rfl) T.n_range (pa_cons pe_int pa_nil))
          · exact (pg_name (i := 3) sc_law.nd rfl (.inl rfl))
          · apply pss_cons
            · exact (ps_set (i := 4) sc_law.nd rfl (.inl rfl) (pe_call (ok_law_site T) (hr.mono (by decide)) (by rfl) T.m_law_site T.F_law_site.kp T.b_law_site .nil pass0 (pa_cons (pv 2) (pa_cons (pv 0) (pa_cons pe_int pa_nil)))))
            apply pss_cons
            · exact (ps_asg (pe_tup (pa_cons (pe_callB (k_len (K := K) rfl) (by rfl) T.n_len PySem.boot_len (pa_cons (pv 4) pa_nil)) (pa_cons (pe_call (ok_law_draw T) (hr.mono (by decide)) (by rfl) T.m_law_draw T.F_law_draw.kp T.b_law_draw .nil pass0 (pa_cons (pv 2) (pa_cons (pe_callB (k_len (K := K) rfl) (by rfl) T.n_len PySem.boot_len (pa_cons (pv 4) pa_nil)) pa_nil))) pa_nil))) (k_tup (K := K) (n := 2) rfl rfl (pgs_cons (pg_name (i := 11) sc_law.nd rfl (.inl rfl)) (pgs_cons (pg_name (i := 12) sc_law.nd rfl (.inr rfl)) pgs_nil))))
            apply pss_cons
            · exact (ps_setLc (i := 5) (own := [("_law_near", 17)]) rfl sc_law.nd rfl rfl (sw_true rfl rfl rfl (by decide +kernel)) (k_pi_list (K := K) rfl (pe_call (ok_law_some T) (hr.mono (by decide)) (by rfl) T.m_law_some T.F_law_some.kp T.b_law_some .nil pass0 (pa_cons (pv 2) (pa_cons (pv 4) (pa_cons (pv 11) pa_nil))))) (blkOk_by (own := [("_law_near", 17)]) (N := ["_law_script", "_law_k", "_law_source", "_law_turn", "_law_links", "_law_some_here", "_law_away", "_law_wrong", "_law_lost", "_law_far", "_law_door", "_law_size", "_law_page", "_law_bad", "_law_kept", "_law_first", "_law_found", "_law_near"]) (sc := defScope s_law) (by decide +kernel)) (fun _ _ _ _ _ => by exact (pg_name (i := 17) sc_law.nd rfl (.inl rfl))) (fun _ _ _ _ _ => by exact (pts_one (pt_cmpR op_ne (pv 17) (pv 12) (by rfl)))) (fun _ _ _ _ _ => by exact (pv 17)))
            apply pss_cons
            · exact (ps_par (i := 13) (j := 14) (by rfl) sc_law.nd rfl rfl (by decide) rfl rfl (pa_cons (pe_call (ok_law_no_site T) (hr.mono (by decide)) (by rfl) T.m_law_no_site T.F_law_no_site.kp T.b_law_no_site .nil pass0 (pa_cons (pv 2) (pa_cons (pv 4) pa_nil))) (pa_cons (pe_callB (k_reprA (K := K) rfl hG hr.units) (by rfl) T.n_repr (by decide +kernel) (pa_cons (pe_lst (pa_cons (pv 4) (pa_cons (pv 5) pa_nil))) pa_nil)) pa_nil)) (by rfl))
            apply pss_cons
            · exact (ps_set (i := 6) sc_law.nd rfl (.inl rfl) (pe_lst (pa_cons (pv 11) (pa_cons (pe_un un_neg pe_int) (pa_cons (pe_un un_neg pe_int) (pa_cons (pe_op op_sub pe_int (pv 11)) (pa_cons (pe_op op_sub (pe_un un_neg pe_int) (pv 11)) (pa_cons pe_non (pa_cons pe_bl (pa_cons pe_str (pa_cons (pe_lst (pa_cons pe_int pa_nil)) (pa_cons (pe_tup (pa_cons pe_int pa_nil)) (pa_cons (pe_op op_powX pe_int pe_int) (pa_cons pe_bl pa_nil))))))))))))))
            apply pss_cons
            · exact (ps_set (i := 6) sc_law.nd rfl (.inl rfl) (pe_ix (k_ix_list (K := K) rfl) (pv 6) (pe_call (ok_law_draw T) (hr.mono (by decide)) (by rfl) T.m_law_draw T.F_law_draw.kp T.b_law_draw .nil pass0 (pa_cons (pv 2) (pa_cons pe_int pa_nil))) (fun _ _ => rfl)))
            apply pss_cons
            · exact (ps_set (i := 7) sc_law.nd rfl (.inl rfl) (pe_lst (pa_cons (pe_op op_cat (pv 5) (pe_lst (pa_cons (pv 11) pa_nil))) (pa_cons (pe_op op_cat (pv 5) (pe_lst (pa_cons (pe_un un_neg pe_int) pa_nil))) (pa_cons (pe_op op_cat (pe_lst (pa_cons (pe_un un_neg pe_int) pa_nil)) (pv 5)) (pa_cons (pe_op op_cat (pv 5) (pe_lst (pa_cons pe_non pa_nil))) (pa_cons (pe_op op_cat (pv 5) (pe_lst (pa_cons pe_bl pa_nil))) (pa_cons (pe_callTy (k_tupOf (K := K) rfl) (by rfl) T.n_tuple (by decide +kernel) (pa_cons (pv 5) pa_nil)) (pa_cons pe_non (pa_cons pe_int (pa_cons pe_str pa_nil)))))))))))
            apply pss_cons
            · exact (ps_set (i := 7) sc_law.nd rfl (.inl rfl) (pe_op op_cat (pv 7) (pe_lst (pa_cons pe_dnewK (pa_cons (pe_op op_cat (pv 5) (pe_lst (pa_cons (pv 12) (pa_cons (pv 12) pa_nil)))) (pa_cons (pe_lst (pa_cons (pe_lst (pa_cons (pv 12) pa_nil)) pa_nil)) (pa_cons (pe_lst (pa_cons pe_str pa_nil)) (pa_cons (pe_op op_cat (pv 5) (pe_lst (pa_cons (pe_op op_sub pe_int (pv 11)) pa_nil))) (pa_cons (pe_listRg rfl (by rfl) T.n_list (prg_1 (by rfl) T.n_range pe_int)) pa_nil)))))))))
            apply pss_cons
            · exact (ps_expr (k_bm (K := K) rfl (pe_bm PySem.F.plainAttrs_list PySem.F.slot_list_append PySem.F.type_list_append mt_append (pv 7) (pa_cons (pe_op op_rep (pe_lst (pa_cons (pe_op op_sub (pv 11) pe_int) pa_nil)) pe_int) pa_nil))))
            apply pss_cons
            · exact (ps_set (i := 8) sc_law.nd rfl (.inl rfl) (pe_ix (k_ix_list (K := K) rfl) (pv 7) (pe_call (ok_law_draw T) (hr.mono (by decide)) (by rfl) T.m_law_draw T.F_law_draw.kp T.b_law_draw .nil pass0 (pa_cons (pv 2) (pa_cons pe_int pa_nil))) (fun _ _ => rfl)))
            apply pss_cons
            · exact (ps_set (i := 9) sc_law.nd rfl (.inl rfl) (pe_ix (k_ix_list (K := K) rfl) (pe_lst (pa_cons (pe_un un_neg pe_int) (pa_cons (pe_un un_neg pe_int) (pa_cons pe_int (pa_cons pe_int (pa_cons (pe_op op_powX pe_int pe_int) (pa_cons pe_non (pa_cons pe_bl (pa_cons pe_str (pa_cons (pe_lst (pa_cons pe_int pa_nil)) (pa_cons (pe_tup (pa_cons pe_int pa_nil)) (pa_cons pe_bl (pa_cons (pe_un un_neg pe_int) pa_nil))))))))))))) (pe_call (ok_law_draw T) (hr.mono (by decide)) (by rfl) T.m_law_draw T.F_law_draw.kp T.b_law_draw .nil pass0 (pa_cons (pv 2) (pa_cons pe_int pa_nil))) (fun _ _ => rfl)))
            apply pss_cons
            · apply ps_for PassesOwn.never rfl
              · exact (pi_range1 (by rfl) T.n_range (pa_cons pe_int pa_nil))
              · exact (pg_name (i := 10) sc_law.nd rfl (.inl rfl))
              · apply pss_cons
                · exact (ps_set (i := 15) sc_law.nd rfl (.inl rfl) (pe_ifExp (pt_cmpR op_eq (pv 10) pe_int (by rfl)) pe_str pe_str))
                apply pss_cons
                · exact (ps_set (i := 16) sc_law.nd rfl (.inl rfl) (pe_lst (pa_cons (pe_call (ok_law_error T) (hr.mono (by decide)) (by rfl) T.m_law_error T.F_law_error.kp T.b_law_error .nil pass0 (pa_cons (pv 10) (pa_cons (pv 13) (pa_cons (pv 6) (pa_cons (pv 8) (pa_cons (pv 9) pa_nil)))))) (pa_cons (pe_call (ok_law_error T) (hr.mono (by decide)) (by rfl) T.m_law_error T.F_law_error.kp T.b_law_error .nil pass0 (pa_cons (pv 10) (pa_cons (pv 4) (pa_cons (pv 6) (pa_cons (pv 8) (pa_cons (pv 9) pa_nil)))))) pa_nil))))
                apply pss_cons
                · exact (ps_set (i := 16) sc_law.nd rfl (.inl rfl) (pe_op op_cat (pv 16) (pe_lst (pa_cons (pe_call (ok_law_error T) (hr.mono (by decide)) (by rfl) T.m_law_error T.F_law_error.kp T.b_law_error .nil pass0 (pa_cons (pv 10) (pa_cons (pv 4) (pa_cons (pv 12) (pa_cons (pv 8) (pa_cons (pv 9) pa_nil)))))) (pa_cons (pe_call (ok_law_error T) (hr.mono (by decide)) (by rfl) T.m_law_error T.F_law_error.kp T.b_law_error .nil pass0 (pa_cons (pv 10) (pa_cons (pv 4) (pa_cons (pv 12) (pa_cons (pv 5) (pa_cons (pv 9) pa_nil)))))) pa_nil)))))
                apply pss_cons
                · exact (ps_expr (k_bm (K := K) rfl (pe_bm PySem.F.plainAttrs_list PySem.F.slot_list_append PySem.F.type_list_append mt_append (pv 16) (pa_cons (pe_call (ok_law_error T) (hr.mono (by decide)) (by rfl) T.m_law_error T.F_law_error.kp T.b_law_error .nil pass0 (pa_cons (pv 10) (pa_cons (pv 4) (pa_cons (pv 12) (pa_cons (pv 5) (pa_cons (pe_ix (k_ix_list (K := K) rfl) (pe_lst (pa_cons pe_int (pa_cons pe_int (pa_cons pe_int pa_nil)))) (pe_call (ok_law_draw T) (hr.mono (by decide)) (by rfl) T.m_law_draw T.F_law_draw.kp T.b_law_draw .nil pass0 (pa_cons (pv 2) (pa_cons pe_int pa_nil))) (fun _ _ => rfl)) pa_nil)))))) pa_nil))))
                apply pss_one
                apply ps_if
                · exact (pt_cmpR (k_neD (K := K) rfl hr.units) (pv 16) (pe_lst (pa_cons pe_str (pa_cons (pv 15) (pa_cons pe_str (pa_cons pe_str (pa_cons pe_str pa_nil)))))) (by rfl))
                · apply pss_one
                  exact (ps_ret pe_bl)
                · exact pss_nil
            apply pss_one
            apply ps_if
            · exact (PW.pt (pw_or (pt_cmpR op_ne (pe_call (ok_law_error T) (hr.mono (by decide)) (by rfl) T.m_law_error T.F_law_error.kp T.b_law_error .nil pass0 (pa_cons pe_int (pa_cons (pv 4) (pa_cons (pv 12) (pa_cons (pe_op op_cat (pv 5) (pe_lst (pa_cons (pv 12) pa_nil))) (pa_cons (pv 9) pa_nil)))))) pe_str (by rfl)) (pw_or1 (pt_cmpR op_ne (pe_callB (k_reprA (K := K) rfl hG hr.units) (by rfl) T.n_repr (by decide +kernel) (pa_cons (pe_lst (pa_cons (pv 4) (pa_cons (pv 5) pa_nil))) pa_nil)) (pv 14) (by rfl)))))
            · apply pss_one
              exact (ps_ret pe_bl)
            · exact pss_nil
      apply pss_one
      exact (ps_ret pe_bl)
    walk_at "sx"
    refine lenL hA ?_
    rw [List.length_map]
    refine ⟨_, _, ⟨rfl, rfl⟩, _, _, ⟨rfl, rfl⟩, ?_⟩
    have bnd : 1 ≤ (if (if ((ns.length : Nat) : Int) < 5 then ((ns.length : Nat) : Int) else 5) > 1 then (if ((ns.length : Nat) : Int) < 5 then ((ns.length : Nat) : Int) else 5) else 1) ∧ (if (if ((ns.length : Nat) : Int) < 5 then ((ns.length : Nat) : Int) else 5) > 1 then (if ((ns.length : Nat) : Int) < 5 then ((ns.length : Nat) : Int) else 5) else 1) ≤ 5 := by
      split <;> split <;> omega
    generalize (if (if ((ns.length : Nat) : Int) < 5 then ((ns.length : Nat) : Int) else 5) > 1 then (if ((ns.length : Nat) : Int) < 5 then ((ns.length : Nat) : Int) else 5) else 1) = rounds at bnd ⊢
    refine ⟨by omega, by omega, ?_⟩
    refine lg_rng (JO H a) ⟨none, none, none, none, none, none, none, none, none, none, none, none, none, none, none, none, none, rfl, Ex.refl H⟩ (fun i σ' H' hi hP => ?_) (fun σ' H' hP => ?_)
    rotate_left
    · obtain ⟨l1, l2, l3, l4, l5, l6, l7, l8, l9, l10, l11, l12, l13, l14, l15, l16, l17, rfl, e⟩ := hP
      walk_at "sx"
      exact k _
    · obtain ⟨l1, l2, l3, l4, l5, l6, l7, l8, l9, l10, l11, l12, l13, l14, l15, l16, l17, rfl, e⟩ := hP
      have hi5 : i < 5 := by omega
      try simp only [x_gn, List.set_cons_zero, List.set_cons_succ]
      refine seq_asg (fun v H2 => ∃ b, v = .ref b ∧ H' b = none ∧ Ex H' H2 ∧ BagAt H2 b 0) (fun R hR => ?_) (fun v HB hC => ?_)
      · walk_at "sx"
        refine ⟨a, ns, i, by rw [Int.zero_add], ex_l e hA, hn, fun p H2 np e2 hb => hR _ _ ⟨p, rfl, np, e2, hb⟩⟩
      obtain ⟨b, rfl, nb, eB, hb⟩ := hC
      obtain ⟨ob, hob⟩ := hb.some
      try simp only [List.set_cons_zero, List.set_cons_succ]
      walk_at "sx"
      refine ⟨by omega, by omega, ?_⟩
      refine lg_rng (JT HB a b i) ⟨l3, l4, l5, l6, l7, l8, l9, l10, l11, l12, l13, l14, l15, l16, l17, rfl, Fx.refl _ _, by simpa using hb⟩ (fun j σ' H5 hj hP => ?_) (fun σ' H5 hP => ?_)
      rotate_left
      · obtain ⟨l3, l4, l5, l6, l7, l8, l9, l10, l11, l12, l13, l14, l15, l16, l17, rfl, f5, b5⟩ := hP
        exact ⟨_, _, _, _, _, _, _, _, _, _, _, _, _, _, _, _, _, rfl, e.trans (((Fx.of eB).trans f5).ex nb)⟩
      · obtain ⟨l3, l4, l5, l6, l7, l8, l9, l10, l11, l12, l13, l14, l15, l16, l17, rfl, f5, b5⟩ := hP
        have hj4 : j < 4 := hj
        try simp only [x_gn, List.set_cons_zero, List.set_cons_succ]
        -- the site
        refine seq_asg (fun v H6 => ∃ s G, v = .ref s ∧ Fx b H5 H6 ∧ BagAt H6 b (400 * j + 200) ∧ GridN H5 H6 s G ∧ SiteOk G) (fun R hR => ?_) (fun v H6 hC => ?_)
        · walk_at "sx"
          exact ⟨b, a, ns, 12, _, rfl, ⟨H', nb, (Fx.of eB).trans f5, ex_l e hA⟩, by omega, by omega, b5, by omega, fun s G H6 f6 b6 g6 ok _ => hR _ _ ⟨s, G, rfl, f6, b6, g6, ok⟩⟩
        obtain ⟨s, G, rfl, f6, b6, g6, ok⟩ := hC
        have hob5 : ∃ o, H5 b = some o := b5.some
        obtain ⟨ob5, hob5⟩ := hob5
        have n1 := ok.n1
        have n2 := ok.n2
        have nsb : s ≠ b := fun e => by subst e; have := g6.1; rw [hob5] at this; cases this
        try simp only [List.set_cons_zero, List.set_cons_succ]
        refine seq_cut (fun σ' H7 => ∃ p : Nat, σ' = [some (.ref a), some (.int (0 + (i : Int))), some (.ref b), some (.int (0 + (j : Int))), some (.ref s), l5, l6, l7, l8, l9, l10, some (.int (G.length : Nat)), some (.int (p : Nat)), l13, l14, l15, l16, l17] ∧ p < G.length ∧ Fx b H6 H7 ∧ BagAt H7 b (400 * j + 201)) (fun N hN => ?_) (fun σ7 H7 hC => ?_)
        · obtain ⟨xs, hs, hl, _⟩ := g6.at.lst
          walk_at "sx"
          refine lenL (.inl (.inl hs)) ?_
          refine lenL (.inl (.inl hs)) ?_
          rw [hl]
          refine ⟨b, _, _, rfl, by omega, big_of (by omega), b6, by omega, fun r H7 r0 r1 f7 b7 => ?_⟩
          refine ⟨sz_ok (by omega), fun T nT => g_two upd_same ?_⟩
          have eT := Ex.new nT (o := .tup [V.int (G.length : Nat), V.int r])
          exact hN _ _ ⟨r.toNat, by rw [Int.toNat_of_nonneg r0]; rfl, by omega, f7.trans (Fx.of eT), b7.ex eT⟩
        obtain ⟨p, rfl, hp, f7, b7⟩ := hC
        have g7 := g6.nw (Nw.fx hob5 f7)
        try simp only [List.set_cons_zero, List.set_cons_succ]
        -- other pages
        refine seq_asg (fun v H8 => ∃ q L, v = .ref q ∧ q ≠ b ∧ Fx b H7 H8 ∧ BagAt H8 b (400 * j + 221) ∧ H8 q = some (.lst ((nz L).map V.int)) ∧ (L : List Nat).Nodup ∧ (∀ x ∈ L, x < G.length) ∧ p ∉ L) (fun R hR => ?_) (fun v H8 hC => ?_)
        · walk_at "sx"
          refine ⟨b, s, G, _, _, rfl, g7.at, n2, by omega, by omega, b7, by omega, fun r L H8 nr f8 b8 hr nd lt => ?_⟩
          have ll := nodup_lt _ nd lt
          refine ⟨r, rfl, ⟨_, .inl (.inl hr)⟩, fun D nD => ?_⟩
          refine lc_list (xs := (nz L).map V.int) (fun u => !decide (L.getD u 0 = p)) (fun u => V.int ((L.getD u 0 : Nat) : Int)) (.inl (.inl hr)) nD (by rw [List.length_map, nz_len]; omega) (fun u => rfl) (fun u x hx => ?_) (fun u x hx _ => ?_) (fun H9 e9 hD => ?_)
          · obtain ⟨x, hx', rfl⟩ := at_nz hx
            intro H3 e3 R3 hR3
            walk_at "sx"
            refine ⟨_, rfl, _, rfl, x_neI.mpr ⟨_, rfl, ?_⟩⟩
            rw [List.getD_eq_getElem?_getD, hx'] at hR3
            rw [show decide ((x : Int) = (p : Int)) = decide (x = p) from decide_eq_decide.mpr (by omega)]
            exact hR3 _ (Ex.refl _)
          · obtain ⟨x, hx', rfl⟩ := at_nz hx
            refine ev_is (ev_var rfl) ?_
            rw [List.getD_eq_getElem?_getD, hx']
            rfl
          · rw [List.length_map, nz_len, kept_nz L (fun x => !decide (x = p))] at hD
            refine hR _ _ ⟨D, L.filter (fun x => !decide (x = p)), rfl, b8.apart nD, f8.trans (Fx.of e9), (b8.ex e9).mono (by omega), hD, nd.filter _, fun x hx => lt x (List.mem_filter.mp hx).1, fun m => ?_⟩
            have := (List.mem_filter.mp m).2
            simp at this
        obtain ⟨q, L, rfl, nqb, f8, b8, hq, nd, lt, npL⟩ := hC
        have g8 := g7.nw (Nw.fx hob5 f8)
        have ll := nodup_lt _ nd lt
        try simp only [List.set_cons_zero, List.set_cons_succ]
        -- no site, and what stands
        refine seq_cut (fun σ' H9 => ∃ vb, σ' = [some (.ref a), some (.int (0 + (i : Int))), some (.ref b), some (.int (0 + (j : Int))), some (.ref s), some (.ref q), l6, l7, l8, l9, l10, some (.int (G.length : Nat)), some (.int (p : Nat)), some vb, some (.str (dKept G L).shown), l15, l16, l17] ∧ Fx b H8 H9 ∧ BagAt H9 b (400 * j + 228) ∧ BadSite K (hidB b H9) vb) (fun N hN => ?_) (fun σ9 H9 hC => ?_)
        · walk_at "sx"
          refine ⟨b, s, G, _, H5, ob5, rfl, g8, hob5, ok, b8, by omega, fun vb H9 f9 b9 w9 => ?_⟩
          have g9 := g8.nw (Nw.fx hob5 f9)
          have hq9 := f9 _ _ nqb hq
          refine ⟨sz_ok (by omega), fun z nz1 => ?_⟩
          have ez := Ex.new nz1 (o := .lst [V.ref s, V.ref q])
          have hz := upd_same (H := H9) (a := z) (o := .lst [V.ref s, V.ref q])
          generalize upd H9 z (.lst [V.ref s, V.ref q]) = HZ at ez hz ⊢
          refine reprA (K := K) (d := dKept G L) (.lst (.inl (.inl hz)) (.cons (de_of _ _ (g9.ex ez).at.dp) (.cons (.lst (.inl (.inl (ez _ _ hq9))) (de_ints _)) .nil))) (gd_kept ok ll lt) (by omega) (by omega) ?_
          refine ⟨_, _, ⟨rfl, rfl⟩, ?_⟩
          exact hN _ _ ⟨vb, rfl, f9.trans (Fx.of ez), b9.ex ez, w9.ex (hid_of ez)⟩
        obtain ⟨vb, rfl, f9, b9, w9⟩ := hC
        have g9 := g8.nw (Nw.fx hob5 f9)
        have hq9 := f9 _ _ nqb hq
        try simp only [List.set_cons_zero, List.set_cons_succ]
        -- pages that are none
        refine seq_asg (fun v HX => ∃ (o : Addr) (xs : List V), v = .ref o ∧ o ≠ b ∧ Ex H9 HX ∧ HX o = some (.lst xs) ∧ xs.length = 12 ∧ ∀ x ∈ xs, OutV K (hidB b HX) 0 ((G.length : Int) - 1) x) (fun R hR => ?_) (fun v HX hC => ?_)
        · walk_at "sx"
          refine ⟨sz_ok (by omega), fun z1 m1 => ?_⟩
          have e1 := Ex.new m1 (o := .lst [V.int 0])
          have h1 := upd_same (H := H9) (a := z1) (o := .lst [V.int 0])
          generalize upd H9 z1 (.lst [V.int 0]) = G1 at e1 h1 ⊢
          have c1 := b9.ex e1
          have w1 := OutV.lst (K := K) (H := hidB b G1) (lo := 0) (hi := (G.length : Int) - 1) (ns := [0]) (hid_at (b9.apart m1) h1)
          refine ⟨sz_ok (by omega), fun z2 m2 => ?_⟩
          have e2 := Ex.new m2 (o := .tup [V.int 0])
          have h2 := upd_same (H := G1) (a := z2) (o := .tup [V.int 0])
          generalize upd G1 z2 (.tup [V.int 0]) = G2 at e2 h2 ⊢
          have c2 := c1.ex e2
          have w2 := OutV.tup (K := K) (H := hidB b G2) (lo := 0) (hi := (G.length : Int) - 1) (ns := [0]) (hid_at (c1.apart m2) h2)
          have cp : CPowX 10 30 := ⟨by decide, by decide, by decide⟩
          refine ⟨cp, sz_ok (by omega), fun z3 m3 => ?_⟩
          refine hR _ _ ⟨z3, _, rfl, c2.apart m3, (e1.trans e2).trans (Ex.new m3), upd_same, rfl, fun x hm => ?_⟩
          have e3 := Ex.new m3 (o := .lst [V.int ((G.length : Nat) : Int), V.int (-1), V.int (-2), V.int (0 - ((G.length : Nat) : Int)), V.int (-1 - ((G.length : Nat) : Int)), V.non, V.bl true, V.str (Str.ofString "0"), V.ref z1, V.ref z2, V.int (10 ^ Int.toNat 30), V.bl false])
          simp only [List.mem_cons, List.mem_nil_iff, or_false] at hm
          rcases hm with rfl | rfl | rfl | rfl | rfl | rfl | rfl | rfl | rfl | rfl | rfl | rfl
          · exact .int (.inr (by omega))
          · exact .int (.inl (by omega))
          · exact .int (.inl (by omega))
          · exact .int (.inl (by omega))
          · exact .int (.inl (by omega))
          · exact .non
          · exact .bl _
          · exact .str _
          · exact w1.ex (hid_of (e2.trans e3))
          · exact w2.ex (hid_of e3)
          · exact .int (.inr (by have : (12 : Int) < 10 ^ Int.toNat 30 := by decide
                                 omega))
          · exact .bl _
        obtain ⟨oX, xsX, rfl, noX, eX, hoX, xlX, hX⟩ := hC
        have bX := b9.ex eX
        try simp only [List.set_cons_zero, List.set_cons_succ]
        refine seq_asg (fun v HY => OutV K (hidB b HY) 0 ((G.length : Int) - 1) v ∧ Fx b HX HY ∧ BagAt HY b (400 * j + 229)) (fun R hR => ?_) (fun va HY hC => ?_)
        · walk_at "sx"
          refine ⟨b, _, _, rfl, by omega, big_of (by omega), bX, by omega, fun r H6 r0 r1 f6 b6 => ?_⟩
          have hr : xsX[r.toNat]? = some (xsX[r.toNat]'(by omega)) := List.getElem?_eq_getElem (by omega)
          refine ixL (.inl (.inl (f6 _ _ noX hoX))) (atI_n (j := r.toNat) (by omega) hr) ?_
          exact hR _ _ ⟨(hX _ (List.mem_of_getElem? hr)).ex (hid_fx f6), f6, b6⟩
        obtain ⟨wa, fY, bY⟩ := hC
        have FY := (Fx.of eX (b := b)).trans fY
        have hqY := FY _ _ nqb hq9
        have w9Y := w9.ex (hid_fx FY)
        have gY := g9.nw (Nw.fx hob5 FY)
        try simp only [List.set_cons_zero, List.set_cons_succ]
        refine seq_asg (fun v HW => ∃ (o : Addr) (xs : List V), v = .ref o ∧ o ≠ b ∧ Ex HY HW ∧ HW o = some (.lst xs) ∧ xs.length = 9 ∧ ∀ x ∈ xs, BadPages K (hidB b HW) G.length x) (fun R hR => ?_) (fun v HW hC => ?_)
        · walk_at "sx"
          refine ⟨sz_ok (by omega), fun z1 m1 => ?_⟩
          have e1 := Ex.new m1 (o := .lst [V.int ((G.length : Nat) : Int)])
          have h1 := upd_same (H := HY) (a := z1) (o := .lst [V.int ((G.length : Nat) : Int)])
          generalize upd HY z1 (.lst [V.int ((G.length : Nat) : Int)]) = G1 at e1 h1 ⊢
          have c1 := bY.ex e1
          refine catE (e1 _ _ hqY) h1 (by rw [List.length_map, nz_len]; simp <;> omega) fun z2 G2 m2 e2 h2 => ?_
          have c2 := c1.ex e2
          have w2 := BadPages.out (K := K) (H := hidB b G2) (m := G.length) (ns := nz L ++ [(G.length : Int)]) (x := (G.length : Int)) (hid_at (c1.apart m2) (by rw [List.map_append]; exact h2)) (by simp) (.inr (by omega)) (by rw [List.length_append, nz_len]; simp <;> omega)
          have E2 := e1.trans e2
          refine ⟨sz_ok (by omega), fun z3 m3 => ?_⟩
          have e3 := Ex.new m3 (o := .lst [V.int (-1)])
          have h3 := upd_same (H := G2) (a := z3) (o := .lst [V.int (-1)])
          generalize upd G2 z3 (.lst [V.int (-1)]) = G3 at e3 h3 ⊢
          have c3 := c2.ex e3
          refine catE ((E2.trans e3) _ _ hqY) h3 (by rw [List.length_map, nz_len]; simp <;> omega) fun z4 G4 m4 e4 h4 => ?_
          have c4 := c3.ex e4
          have w4 := BadPages.out (K := K) (H := hidB b G4) (m := G.length) (ns := nz L ++ [-1]) (x := -1) (hid_at (c3.apart m4) (by rw [List.map_append]; exact h4)) (by simp) (.inl (by omega)) (by rw [List.length_append, nz_len]; simp <;> omega)
          have E4 := (E2.trans e3).trans e4
          refine ⟨sz_ok (by omega), fun z5 m5 => ?_⟩
          have e5 := Ex.new m5 (o := .lst [V.int (-2)])
          have h5 := upd_same (H := G4) (a := z5) (o := .lst [V.int (-2)])
          generalize upd G4 z5 (.lst [V.int (-2)]) = G5 at e5 h5 ⊢
          have c5 := c4.ex e5
          refine catE h5 ((E4.trans e5) _ _ hqY) (by rw [List.length_map, nz_len]; simp <;> omega) fun z6 G6 m6 e6 h6 => ?_
          have c6 := c5.ex e6
          have w6 := BadPages.out (K := K) (H := hidB b G6) (m := G.length) (ns := [-2] ++ nz L) (x := -2) (hid_at (c5.apart m6) (by rw [List.map_append]; exact h6)) (by simp) (.inl (by omega)) (by rw [List.length_append, nz_len]; simp <;> omega)
          have E6 := (E4.trans e5).trans e6
          refine ⟨sz_ok (by omega), fun z7 m7 => ?_⟩
          have e7 := Ex.new m7 (o := .lst [V.non])
          have h7 := upd_same (H := G6) (a := z7) (o := .lst [V.non])
          generalize upd G6 z7 (.lst [V.non]) = G7 at e7 h7 ⊢
          have c7 := c6.ex e7
          refine catE ((E6.trans e7) _ _ hqY) h7 (by rw [List.length_map, nz_len]; simp <;> omega) fun z8 G8 m8 e8 h8 => ?_
          have c8 := c7.ex e8
          have w8 := BadPages.odd (K := K) (H := hidB b G8) (m := G.length) (ds := (nz L).map PyData.int ++ [.none]) (d := .none) (hid_at (c7.apart m8) h8) ((de_ints _).app (.cons .non .nil)) (by simp) rfl (by rw [List.length_append, List.length_map, nz_len]; simp <;> omega)
          have E8 := (E6.trans e7).trans e8
          refine ⟨sz_ok (by omega), fun z9 m9 => ?_⟩
          have e9 := Ex.new m9 (o := .lst [V.bl true])
          have h9 := upd_same (H := G8) (a := z9) (o := .lst [V.bl true])
          generalize upd G8 z9 (.lst [V.bl true]) = G9 at e9 h9 ⊢
          have c9 := c8.ex e9
          refine catE ((E8.trans e9) _ _ hqY) h9 (by rw [List.length_map, nz_len]; simp <;> omega) fun z10 G10 m10 e10 h10 => ?_
          have c10 := c9.ex e10
          have w10 := BadPages.odd (K := K) (H := hidB b G10) (m := G.length) (ds := (nz L).map PyData.int ++ [.bool true]) (d := .bool true) (hid_at (c9.apart m10) h10) ((de_ints _).app (.cons (.bl _) .nil)) (by simp) rfl (by rw [List.length_append, List.length_map, nz_len]; simp <;> omega)
          have E10 := (E8.trans e9).trans e10
          refine ⟨q, _, rfl, .inl ⟨.inl (.inl (E10 _ _ hqY)), ?_⟩⟩
          refine fun z11 m11 => ?_
          have e11 := Ex.new m11 (o := .tup ((nz L).map V.int))
          have h11 := upd_same (H := G10) (a := z11) (o := .tup ((nz L).map V.int))
          generalize upd G10 z11 (.tup ((nz L).map V.int)) = G11 at e11 h11 ⊢
          have c11 := c10.ex e11
          have w11 := BadPages.tup (K := K) (H := hidB b G11) (m := G.length) (hid_at (c10.apart m11) h11)
          refine ⟨sz_ok (by omega), fun z12 m12 => ?_⟩
          have e12 := Ex.new m12 (o := .lst [V.ref z2, V.ref z4, V.ref z6, V.ref z8, V.ref z10, V.ref z11, V.non, V.int 0, V.str (Str.ofString "")])
          have h12 := upd_same (H := G11) (a := z12) (o := .lst [V.ref z2, V.ref z4, V.ref z6, V.ref z8, V.ref z10, V.ref z11, V.non, V.int 0, V.str (Str.ofString "")])
          generalize upd G11 z12 (.lst [V.ref z2, V.ref z4, V.ref z6, V.ref z8, V.ref z10, V.ref z11, V.non, V.int 0, V.str (Str.ofString "")]) = G12 at e12 h12 ⊢
          have g11 := e12
          have g10 := e11.trans g11
          have g8 := (e9.trans e10).trans g10
          have g6 := (e7.trans e8).trans g8
          have g4 := (e5.trans e6).trans g6
          have g2 := (e3.trans e4).trans g4
          refine hR _ _ ⟨z12, _, rfl, c11.apart m12, E10.trans g10, h12, rfl, fun x hm => ?_⟩
          simp only [List.mem_cons, List.mem_nil_iff, or_false] at hm
          rcases hm with rfl | rfl | rfl | rfl | rfl | rfl | rfl | rfl | rfl
          · exact w2.ex (hid_of g2)
          · exact w4.ex (hid_of g4)
          · exact w6.ex (hid_of g6)
          · exact w8.ex (hid_of g8)
          · exact w10.ex (hid_of g10)
          · exact w11.ex (hid_of g11)
          · exact .non
          · exact .int _
          · exact .str _
        obtain ⟨oW, xsW, rfl, noW, eW, hoW, xlW, hW⟩ := hC
        have bW := bY.ex eW
        have hqW := eW _ _ hqY
        try simp only [List.set_cons_zero, List.set_cons_succ]
        refine seq_asg (fun v HU => ∃ (o : Addr) (xs : List V) (HP : Hp), v = .ref o ∧ HP o = none ∧ o ≠ b ∧ Ex HW HP ∧ Ex HP HU ∧ HU o = some (.lst xs) ∧ xs.length = 15 ∧ ∀ x ∈ xs, BadPages K (hidB b HP) G.length x) (fun R hR => ?_) (fun v HU hC => ?_)
        · walk_at "sx"
          refine fun z1 m1 => ?_
          have e1 := Ex.new m1 (o := .dK [])
          have h1 := upd_same (H := HW) (a := z1) (o := .dK [])
          generalize upd HW z1 (.dK []) = G1 at e1 h1 ⊢
          have c1 := bW.ex e1
          have w1 := BadPages.dic (K := K) (H := hidB b G1) (m := G.length) (hid_at (bW.apart m1) h1)
          refine ⟨sz_ok (by omega), fun z2 m2 => ?_⟩
          have e2 := Ex.new m2 (o := .lst [V.int ((p : Nat) : Int), V.int ((p : Nat) : Int)])
          have h2 := upd_same (H := G1) (a := z2) (o := .lst [V.int ((p : Nat) : Int), V.int ((p : Nat) : Int)])
          generalize upd G1 z2 (.lst [V.int ((p : Nat) : Int), V.int ((p : Nat) : Int)]) = G2 at e2 h2 ⊢
          have c2 := c1.ex e2
          refine catE ((e1.trans e2) _ _ hqW) h2 (by rw [List.length_map, nz_len]; simp <;> omega) fun z3 G3 m3 e3 h3 => ?_
          have c3 := c2.ex e3
          have w3 := BadPages.dup (K := K) (H := hidB b G3) (m := G.length) (ns := nz L ++ [(p : Int), (p : Int)]) (hid_at (c2.apart m3) (by rw [List.map_append]; exact h3)) (fun nd => by have := (List.nodup_append.mp nd).2.1; simp at this) (by rw [List.length_append, nz_len]; simp <;> omega)
          have E3 := (e1.trans e2).trans e3
          refine ⟨sz_ok (by omega), fun z4 m4 => ?_⟩
          have e4 := Ex.new m4 (o := .lst [V.int ((p : Nat) : Int)])
          have h4 := upd_same (H := G3) (a := z4) (o := .lst [V.int ((p : Nat) : Int)])
          generalize upd G3 z4 (.lst [V.int ((p : Nat) : Int)]) = G4 at e4 h4 ⊢
          have c4 := c3.ex e4
          refine ⟨sz_ok (by omega), fun z5 m5 => ?_⟩
          have e5 := Ex.new m5 (o := .lst [V.ref z4])
          have h5 := upd_same (H := G4) (a := z5) (o := .lst [V.ref z4])
          generalize upd G4 z5 (.lst [V.ref z4]) = G5 at e5 h5 ⊢
          have c5 := c4.ex e5
          have w5 := BadPages.odd (K := K) (H := hidB b G5) (m := G.length) (ds := [.list [.int (p : Int)]]) (d := .list [.int (p : Int)]) (hid_at (c4.apart m5) h5) (.cons (.lst (.inl (.inl (hid_at (c3.apart m4) (e5 _ _ h4)))) (.cons (.int _) .nil)) .nil) (by simp) rfl (by simp)
          refine ⟨sz_ok (by omega), fun z6 m6 => ?_⟩
          have e6 := Ex.new m6 (o := .lst [V.str (Str.ofString "0")])
          have h6 := upd_same (H := G5) (a := z6) (o := .lst [V.str (Str.ofString "0")])
          generalize upd G5 z6 (.lst [V.str (Str.ofString "0")]) = G6 at e6 h6 ⊢
          have c6 := c5.ex e6
          have w6 := BadPages.odd (K := K) (H := hidB b G6) (m := G.length) (ds := [.str (Str.ofString "0")]) (d := .str (Str.ofString "0")) (hid_at (c5.apart m6) h6) (.cons (.str _) .nil) (by simp) rfl (by simp)
          refine ⟨sz_ok (by omega), fun z7 m7 => ?_⟩
          have e7 := Ex.new m7 (o := .lst [V.int (0 - ((G.length : Nat) : Int))])
          have h7 := upd_same (H := G6) (a := z7) (o := .lst [V.int (0 - ((G.length : Nat) : Int))])
          generalize upd G6 z7 (.lst [V.int (0 - ((G.length : Nat) : Int))]) = G7 at e7 h7 ⊢
          have c7 := c6.ex e7
          have E7 := E3.trans ((e4.trans e5).trans (e6.trans e7))
          refine catE (E7 _ _ hqW) h7 (by rw [List.length_map, nz_len]; simp <;> omega) fun z8 G8 m8 e8 h8 => ?_
          have c8 := c7.ex e8
          have w8 := BadPages.out (K := K) (H := hidB b G8) (m := G.length) (ns := nz L ++ [0 - (G.length : Int)]) (x := 0 - (G.length : Int)) (hid_at (c7.apart m8) (by rw [List.map_append]; exact h8)) (by simp) (.inl (by omega)) (by rw [List.length_append, nz_len]; simp <;> omega)
          have E8 := E7.trans e8
          refine ⟨rgok400, ?_⟩
          refine fun z9 m9 => ?_
          have e9 := Ex.new m9 (o := .lst (rgV 0 400))
          have h9 := upd_same (H := G8) (a := z9) (o := .lst (rgV 0 400))
          generalize upd G8 z9 (.lst (rgV 0 400)) = G9 at e9 h9 ⊢
          have c9 := c8.ex e9
          have w9 := BadPages.out (K := K) (H := hidB b G9) (m := G.length) (x := 399) (hid_at (c8.apart m9) (by rw [rg400] at h9; exact h9)) (List.mem_map.mpr ⟨399, List.mem_range.mpr (by omega), rfl⟩) (.inr (by omega)) (by rw [List.length_map, List.length_range]; omega)
          refine ⟨sz_ok (by omega), fun z10 m10 => ?_⟩
          have e10 := Ex.new m10 (o := .lst [V.ref z1, V.ref z3, V.ref z5, V.ref z6, V.ref z8, V.ref z9])
          have h10 := upd_same (H := G9) (a := z10) (o := .lst [V.ref z1, V.ref z3, V.ref z5, V.ref z6, V.ref z8, V.ref z9])
          generalize upd G9 z10 (.lst [V.ref z1, V.ref z3, V.ref z5, V.ref z6, V.ref z8, V.ref z9]) = G10 at e10 h10 ⊢
          have c10 := c9.ex e10
          have E10 := (E8.trans e9).trans e10
          refine catE (E10 _ _ hoW) h10 (by rw [xlW]; simp) fun z11 G11 m11 e11 h11 => ?_
          have g10 := Ex.refl G10
          have g9 := e10.trans g10
          have g8 := e9.trans g9
          have g6 := (e7.trans e8).trans g8
          have g5 := e6.trans g6
          have g3 := (e4.trans e5).trans g5
          have g1 := (e2.trans e3).trans g3
          refine hR _ _ ⟨z11, _, G10, rfl, m11, c10.apart m11, E10, e11, h11, by rw [List.length_append, xlW]; rfl, fun x hm => ?_⟩
          rcases List.mem_append.mp hm with hm | hm
          · exact (hW x hm).ex (hid_of E10)
          · simp only [List.mem_cons, List.mem_nil_iff, or_false] at hm
            rcases hm with rfl | rfl | rfl | rfl | rfl | rfl
            · exact w1.ex (hid_of g1)
            · exact w3.ex (hid_of g3)
            · exact w5.ex (hid_of g5)
            · exact w6.ex (hid_of g6)
            · exact w8.ex (hid_of g8)
            · exact w9.ex (hid_of g9)
        obtain ⟨oU, xsU, HP, rfl, nU, noU, eP, eU, hoU, xlU, hU⟩ := hC
        have bP := bW.ex eP
        have bU := bP.ex eU
        have hqU := eU _ _ (eP _ _ hqW)
        try simp only [List.set_cons_zero, List.set_cons_succ]
        refine seq_cut (fun σ' HV => ∃ xs, σ' = [some (.ref a), some (.int (0 + (i : Int))), some (.ref b), some (.int (0 + (j : Int))), some (.ref s), some (.ref q), some va, some (.ref oU), l8, l9, l10, some (.int (G.length : Nat)), some (.int (p : Nat)), some vb, some (.str (dKept G L).shown), l15, l16, l17] ∧ Ex HP HV ∧ BagAt HV b (400 * j + 229) ∧ HV oU = some (.lst xs) ∧ xs.length = 16 ∧ ∀ x ∈ xs, BadPages K (hidB b HV) G.length x) (fun N hN => ?_) (fun σV HV hC => ?_)
        · walk_at "sx"
          refine ⟨tyL hoU, sz_ok (by omega), fun z1 m1 => ?_⟩
          have e1 := Ex.new m1 (o := .lst [V.int (((G.length : Nat) : Int) - 1)])
          have h1 := upd_same (H := HU) (a := z1) (o := .lst [V.int (((G.length : Nat) : Int) - 1)])
          generalize upd HU z1 (.lst [V.int (((G.length : Nat) : Int) - 1)]) = G1 at e1 h1 ⊢
          refine repE (k := 2) h1 (by omega) (by simp) fun z2 G2 m2 e2 h2 => ?_
          have c1 := bU.ex e1
          have c2 := c1.ex e2
          have w2 := BadPages.dup (K := K) (H := hidB b G2) (m := G.length) (ns := [((G.length : Nat) : Int) - 1, ((G.length : Nat) : Int) - 1]) (hid_at (c1.apart m2) h2) (fun nd => by simp at nd) (by simp)
          have e12 := e1.trans e2
          have E := (eU.trans e12).mut nU (o := .lst (xsU ++ [V.ref z2]))
          have n2o : z2 ≠ oU := fun e => by have := e1 _ _ hoU; rw [← e, m2] at this; cases this
          refine appL (e12 _ _ hoU) (BC.sz_lt (by rw [xlU]; omega)) ?_
          refine hN _ _ ⟨_, rfl, E, c2.off noU, upd_same, by rw [List.length_append, xlU]; rfl, fun x hm => ?_⟩
          rcases List.mem_append.mp hm with hm | hm
          · exact (hU x hm).ex (hid_of E)
          · rw [List.mem_singleton.mp hm]
            refine BadPages.dup (ns := [((G.length : Nat) : Int) - 1, ((G.length : Nat) : Int) - 1]) (hid_at (c1.apart m2) (by rw [upd_ne n2o]; exact h2)) (fun nd => by simp at nd) (by simp)
        obtain ⟨xsV, rfl, eV, bV, hoV, xlV, hV⟩ := hC
        have hqV := eV _ _ (eP _ _ hqW)
        try simp only [List.set_cons_zero, List.set_cons_succ]
        -- a list that is wrong
        refine seq_asg (fun v HL => BadPages K (hidB b HL) G.length v ∧ Fx b HV HL ∧ BagAt HL b (400 * j + 230)) (fun R hR => ?_) (fun vl HL hC => ?_)
        · walk_at "sx"
          refine ⟨b, _, _, rfl, by omega, big_of (by omega), bV, by omega, fun r H6 r0 r1 f6 b6 => ?_⟩
          have hr : xsV[r.toNat]? = some (xsV[r.toNat]'(by omega)) := List.getElem?_eq_getElem (by omega)
          refine ixL (.inl (.inl (f6 _ _ noU hoV))) (atI_n (j := r.toNat) (by omega) hr) ?_
          exact hR _ _ ⟨(hV _ (List.mem_of_getElem? hr)).ex (hid_fx f6), f6, b6⟩
        obtain ⟨wl, fL, bL⟩ := hC
        try simp only [List.set_cons_zero, List.set_cons_succ]
        refine seq_asg (fun v HF => OutV K (hidB b HF) 0 60 v ∧ Fx b HL HF ∧ BagAt HF b (400 * j + 231)) (fun R hR => ?_) (fun vf HF hC => ?_)
        · walk_at "sx"
          have cp : CPowX 10 30 := ⟨by decide, by decide, by decide⟩
          refine ⟨cp, ?_⟩
          refine ⟨sz_ok (by omega), fun z1 m1 => ?_⟩
          have e1 := Ex.new m1 (o := .lst [V.int 1])
          have h1 := upd_same (H := HL) (a := z1) (o := .lst [V.int 1])
          generalize upd HL z1 (.lst [V.int 1]) = G1 at e1 h1 ⊢
          have c1 := bL.ex e1
          have w1 := OutV.lst (K := K) (H := hidB b G1) (lo := 0) (hi := 60) (ns := [1]) (hid_at (bL.apart m1) h1)
          refine ⟨sz_ok (by omega), fun z2 m2 => ?_⟩
          have e2 := Ex.new m2 (o := .tup [V.int 1])
          have h2 := upd_same (H := G1) (a := z2) (o := .tup [V.int 1])
          generalize upd G1 z2 (.tup [V.int 1]) = G2 at e2 h2 ⊢
          have c2 := c1.ex e2
          have w2 := OutV.tup (K := K) (H := hidB b G2) (lo := 0) (hi := 60) (ns := [1]) (hid_at (c1.apart m2) h2)
          refine ⟨sz_ok (by omega), fun z3 m3 => ?_⟩
          have e3 := Ex.new m3 (o := .lst [V.int (-1), V.int (-2), V.int 61, V.int 62, V.int (10 ^ Int.toNat 30), V.non, V.bl true, V.str (Str.ofString "1"), V.ref z1, V.ref z2, V.bl false, V.int (-61)])
          have h3 := upd_same (H := G2) (a := z3) (o := .lst [V.int (-1), V.int (-2), V.int 61, V.int 62, V.int (10 ^ Int.toNat 30), V.non, V.bl true, V.str (Str.ofString "1"), V.ref z1, V.ref z2, V.bl false, V.int (-61)])
          generalize upd G2 z3 (.lst [V.int (-1), V.int (-2), V.int 61, V.int 62, V.int (10 ^ Int.toNat 30), V.non, V.bl true, V.str (Str.ofString "1"), V.ref z1, V.ref z2, V.bl false, V.int (-61)]) = G3 at e3 h3 ⊢
          have c3 := c2.ex e3
          have all : ∀ x ∈ [V.int (-1), V.int (-2), V.int 61, V.int 62, V.int (10 ^ Int.toNat 30), V.non, V.bl true, V.str (Str.ofString "1"), V.ref z1, V.ref z2, V.bl false, V.int (-61)], OutV K (hidB b G3) 0 60 x := fun x hm => by
            simp only [List.mem_cons, List.mem_nil_iff, or_false] at hm
            rcases hm with rfl | rfl | rfl | rfl | rfl | rfl | rfl | rfl | rfl | rfl | rfl | rfl
            · exact .int (.inl (by decide))
            · exact .int (.inl (by decide))
            · exact .int (.inr (by decide))
            · exact .int (.inr (by decide))
            · exact .int (.inr (by decide))
            · exact .non
            · exact .bl _
            · exact .str _
            · exact w1.ex (hid_of (e2.trans e3))
            · exact w2.ex (hid_of e3)
            · exact .bl _
            · exact .int (.inl (by decide))
          refine ⟨b, _, _, rfl, by omega, big_of (by omega), c3, by omega, fun r H6 r0 r1 f6 b6 => ?_⟩
          generalize hys : [V.int (-1), V.int (-2), V.int 61, V.int 62, V.int (10 ^ Int.toNat 30), V.non, V.bl true, V.str (Str.ofString "1"), V.ref z1, V.ref z2, V.bl false, V.int (-61)] = ys at all h3
          have yl : ys.length = 12 := by rw [← hys]; rfl
          have hr : ys[r.toNat]? = some (ys[r.toNat]'(by omega)) := List.getElem?_eq_getElem (by omega)
          refine ixL (.inl (.inl (f6 _ _ (c2.apart m3) h3))) (atI_n (j := r.toNat) (by omega) hr) ?_
          exact hR _ _ ⟨(all _ (List.mem_of_getElem? hr)).ex (hid_fx f6), (Fx.of ((e1.trans e2).trans e3)).trans f6, b6⟩
        obtain ⟨wf, fF, bF⟩ := hC
        have FA := ((Fx.of (eW.trans eP) (b := b)).trans (Fx.of eV)).trans (fL.trans fF)
        have gF := gY.nw (Nw.fx hob5 FA)
        have hqF := FA _ _ nqb hqY
        have w9F := w9Y.ex (hid_fx FA)
        have waF := wa.ex (hid_fx FA)
        have wlF := wl.ex (hid_fx fF)
        try simp only [List.set_cons_zero, List.set_cons_succ]
        walk_at "sx"
        obtain ⟨dF, deF, inF⟩ := wf
        obtain ⟨dA, deA, inA⟩ := waF
        obtain ⟨dL, deL, lenL2, badL⟩ := wlF
        obtain ⟨dB, deB, rowB, badB⟩ := w9F
        refine ⟨by omega, by omega, ?_⟩
        refine lg_rng (n := 3) (JD HF b (400 * j + 231) (fun l10 l15 l16 => [some (.ref a), some (.int (0 + (i : Int))), some (.ref b), some (.int (0 + (j : Int))), some (.ref s), some (.ref q), some va, some (.ref oU), some vl, some vf, l10, some (.int (G.length : Nat)), some (.int (p : Nat)), some vb, some (.str (dKept G L).shown), l15, l16, l17])) ⟨l10, l15, l16, rfl, Fx.refl _ _, by simpa using bF⟩ (fun m σ' HD hm hP => ?_) (fun σ' HD hP => ?_)
        · obtain ⟨l10, l15, l16, rfl, fD, bD⟩ := hP
          have hm3 : m < 3 := hm
          walk_at "sx"
          have gD := gF.nw (Nw.fx hob5 fD)
          have hqD := fD _ _ nqb hqF
          have de1 : ∀ (d : PyData) (v : V), De K (hidB b HF) v d → De K HD v d := fun d v h => De.ex hid_ex _ _ (De.ex (hid_fx fD) _ _ h)
          have lenQ : LenL (.list ((nz L).map PyData.int)) := fun es h => by cases h; rw [List.length_map, nz_len]; omega
          by_cases m0 : m = 0
          · rw [if_pos (show 0 + (m : Int) = 0 by omega)]
            refine ⟨m, vb, va, vl, vf, dB, dA, dL, dF, _, by rw [Int.zero_add], by omega, de1 _ _ deB, rowB, de1 _ _ deA, de1 _ _ deL, lenL2, de1 _ _ deF, .inl ⟨badB, rfl⟩, fun A1 e1 => ?_⟩
            refine ⟨m, .ref s, va, vl, vf, dG G, dA, dL, dF, _, by rw [Int.zero_add], by omega, de_of _ _ (gD.ex e1).at.dp, rows_D ok, De.ex e1 _ _ (de1 _ _ deA), De.ex e1 _ _ (de1 _ _ deL), lenL2, De.ex e1 _ _ (de1 _ _ deF), .inr ⟨s, G, rfl, rfl, (gD.ex e1).at, ok, rfl⟩, fun A2 e2 => ?_⟩
            rw [word2 inA badL, if_pos m0]
            have e12 := e1.trans e2
            refine ⟨sz_ok (by omega), fun z3 m3 => ?_⟩
            have e3 := Ex.new m3 (o := .lst [V.str (Str.ofString "site"), V.str (Str.ofString "page")])
            have h3 := upd_same (H := A2) (a := z3) (o := .lst [V.str (Str.ofString "site"), V.str (Str.ofString "page")])
            generalize upd A2 z3 (.lst [V.str (Str.ofString "site"), V.str (Str.ofString "page")]) = A3 at e3 h3 ⊢
            have e13 := e12.trans e3
            refine ⟨m, .ref s, .int p, vl, vf, dG G, .int p, dL, dF, _, by rw [Int.zero_add], by omega, de_of _ _ (gD.ex e13).at.dp, rows_D ok, .int _, De.ex e13 _ _ (de1 _ _ deL), lenL2, De.ex e13 _ _ (de1 _ _ deF), .inr ⟨s, G, rfl, rfl, (gD.ex e13).at, ok, rfl⟩, fun A4 e4 => ?_⟩
            rw [word3 hp badL]
            have e14 := e13.trans e4
            refine ⟨m, .ref s, .int p, .ref q, vf, dG G, .int p, _, dF, _, by rw [Int.zero_add], by omega, de_of _ _ (gD.ex e14).at.dp, rows_D ok, .int _, .lst (.inl (.inl (e14 _ _ hqD))) (de_ints (nz L)), lenQ, De.ex e14 _ _ (de1 _ _ deF), .inr ⟨s, G, rfl, rfl, (gD.ex e14).at, ok, rfl⟩, fun A5 e5 => ?_⟩
            rw [word4 hp nd lt npL, if_pos inF]
            have e15 := e14.trans e5
            refine ⟨sz_ok (by omega), fun z6 m6 => ?_⟩
            have e6 := Ex.new m6 (o := .lst [V.str (Str.ofString "pages"), V.str (Str.ofString "number")])
            have h6 := upd_same (H := A5) (a := z6) (o := .lst [V.str (Str.ofString "pages"), V.str (Str.ofString "number")])
            generalize upd A5 z6 (.lst [V.str (Str.ofString "pages"), V.str (Str.ofString "number")]) = A6 at e6 h6 ⊢
            refine catE (((e4.trans e5).trans e6) _ _ h3) h6 (by simp) fun z7 A7 m7 e7 h7 => ?_
            have e17 := (e15.trans e6).trans e7
            have n7D : HD z7 = none := fresh_back (e15.trans e6) m7
            have n7b : z7 ≠ b := (bD.ex (e15.trans e6)).apart m7
            refine ⟨tyL h7, ?_⟩
            refine ⟨sz_ok (by omega), fun z8 m8 => ?_⟩
            have e8 := Ex.new m8 (o := .lst [V.int 0, V.int 60, V.int 7])
            have h8 := upd_same (H := A7) (a := z8) (o := .lst [V.int 0, V.int 60, V.int 7])
            generalize upd A7 z8 (.lst [V.int 0, V.int 60, V.int 7]) = A8 at e8 h8 ⊢
            have e18 := e17.trans e8
            refine ⟨b, _, _, rfl, by omega, big_of (by omega), bD.ex e18, by omega, fun r A9 r0 r1 f9 b9 => ?_⟩
            obtain ⟨x, hx, ex⟩ := pickI (ns := [0, 60, 7]) r0 r1
            have n8b : z8 ≠ b := (bD.ex e17).apart m8
            refine ixL (.inl (.inl (f9 _ _ n8b h8))) ex ?_
            have hx2 : inR 0 60 (.int x) = true := by
              simp only [List.mem_cons, List.mem_nil_iff, or_false] at hx
              rcases hx with rfl | rfl | rfl <;> rfl
            have F9 := (Fx.of e18 (b := b)).trans f9
            have g9' := gD.nw (Nw.fx hob5 F9)
            refine ⟨m, .ref s, .int p, .ref q, .int x, dG G, .int p, _, .int x, _, by rw [Int.zero_add], by omega, de_of _ _ g9'.at.dp, rows_D ok, .int _, .lst (.inl (.inl (F9 _ _ nqb hqD))) (de_ints (nz L)), lenQ, .int _, .inr ⟨s, G, rfl, rfl, g9'.at, ok, rfl⟩, fun A10 e10 => ?_⟩
            rw [word4 hp nd lt npL, if_neg (by rw [hx2]; decide)]
            refine appL (e10 _ _ (f9 _ _ n7b (e8 _ _ h7))) (BC.sz_lt (by simp)) ?_
            have FM := (F9.trans (Fx.of e10)).mut n7D (o := .lst ([V.str (Str.ofString "site"), V.str (Str.ofString "page")] ++ [V.str (Str.ofString "pages"), V.str (Str.ofString "number")] ++ [V.str (Str.ofString "none")]))
            have bM := (b9.ex e10).off n7b (o := .lst ([V.str (Str.ofString "site"), V.str (Str.ofString "page")] ++ [V.str (Str.ofString "pages"), V.str (Str.ofString "number")] ++ [V.str (Str.ofString "none")]))
            have h7M := upd_same (H := A10) (a := z7) (o := .lst ([V.str (Str.ofString "site"), V.str (Str.ofString "page")] ++ [V.str (Str.ofString "pages"), V.str (Str.ofString "number")] ++ [V.str (Str.ofString "none")]))
            refine ⟨sz_ok (by omega), fun z11 m11 => ?_⟩
            have e11 := Ex.new m11 (o := .lst [V.str (Str.ofString "site"), V.str (Str.ofString "page"), V.str (Str.ofString "pages"), V.str (Str.ofString "number"), V.str (Str.ofString "none")])
            refine ⟨_, _, .lst (xs := ([Str.ofString "site", Str.ofString "page", Str.ofString "pages", Str.ofString "number", Str.ofString "none"]).map V.str) (.inl (.inl (e11 _ _ h7M))) (dp_strs _), .lst (xs := ([Str.ofString "site", Str.ofString "page", Str.ofString "pages", Str.ofString "number", Str.ofString "none"]).map V.str) (.inl (.inl upd_same)) (dp_strs _), by decide +kernel, by decide +kernel, ⟨_, rfl, ?_⟩⟩
            rw [show PyData.eqv (.list (([Str.ofString "site", Str.ofString "page", Str.ofString "pages", Str.ofString "number", Str.ofString "none"]).map PyData.str)) (.list (([Str.ofString "site", Str.ofString "page", Str.ofString "pages", Str.ofString "number", Str.ofString "none"]).map PyData.str)) = true by decide +kernel, if_neg (by decide)]
            exact ⟨_, _, _, rfl, fD.trans (FM.trans (Fx.of e11)), (bM.ex e11).mono (by omega)⟩
          · rw [if_neg (show ¬ 0 + (m : Int) = 0 by omega)]
            refine ⟨m, vb, va, vl, vf, dB, dA, dL, dF, _, by rw [Int.zero_add], by omega, de1 _ _ deB, rowB, de1 _ _ deA, de1 _ _ deL, lenL2, de1 _ _ deF, .inl ⟨badB, rfl⟩, fun A1 e1 => ?_⟩
            refine ⟨m, .ref s, va, vl, vf, dG G, dA, dL, dF, _, by rw [Int.zero_add], by omega, de_of _ _ (gD.ex e1).at.dp, rows_D ok, De.ex e1 _ _ (de1 _ _ deA), De.ex e1 _ _ (de1 _ _ deL), lenL2, De.ex e1 _ _ (de1 _ _ deF), .inr ⟨s, G, rfl, rfl, (gD.ex e1).at, ok, rfl⟩, fun A2 e2 => ?_⟩
            rw [word2 inA badL, if_neg m0]
            have e12 := e1.trans e2
            refine ⟨sz_ok (by omega), fun z3 m3 => ?_⟩
            have e3 := Ex.new m3 (o := .lst [V.str (Str.ofString "site"), V.str (Str.ofString "pages")])
            have h3 := upd_same (H := A2) (a := z3) (o := .lst [V.str (Str.ofString "site"), V.str (Str.ofString "pages")])
            generalize upd A2 z3 (.lst [V.str (Str.ofString "site"), V.str (Str.ofString "pages")]) = A3 at e3 h3 ⊢
            have e13 := e12.trans e3
            refine ⟨m, .ref s, .int p, vl, vf, dG G, .int p, dL, dF, _, by rw [Int.zero_add], by omega, de_of _ _ (gD.ex e13).at.dp, rows_D ok, .int _, De.ex e13 _ _ (de1 _ _ deL), lenL2, De.ex e13 _ _ (de1 _ _ deF), .inr ⟨s, G, rfl, rfl, (gD.ex e13).at, ok, rfl⟩, fun A4 e4 => ?_⟩
            rw [word3 hp badL]
            have e14 := e13.trans e4
            refine ⟨m, .ref s, .int p, .ref q, vf, dG G, .int p, _, dF, _, by rw [Int.zero_add], by omega, de_of _ _ (gD.ex e14).at.dp, rows_D ok, .int _, .lst (.inl (.inl (e14 _ _ hqD))) (de_ints (nz L)), lenQ, De.ex e14 _ _ (de1 _ _ deF), .inr ⟨s, G, rfl, rfl, (gD.ex e14).at, ok, rfl⟩, fun A5 e5 => ?_⟩
            rw [word4 hp nd lt npL, if_pos inF]
            have e15 := e14.trans e5
            refine ⟨sz_ok (by omega), fun z6 m6 => ?_⟩
            have e6 := Ex.new m6 (o := .lst [V.str (Str.ofString "pages"), V.str (Str.ofString "number")])
            have h6 := upd_same (H := A5) (a := z6) (o := .lst [V.str (Str.ofString "pages"), V.str (Str.ofString "number")])
            generalize upd A5 z6 (.lst [V.str (Str.ofString "pages"), V.str (Str.ofString "number")]) = A6 at e6 h6 ⊢
            refine catE (((e4.trans e5).trans e6) _ _ h3) h6 (by simp) fun z7 A7 m7 e7 h7 => ?_
            have e17 := (e15.trans e6).trans e7
            have n7D : HD z7 = none := fresh_back (e15.trans e6) m7
            have n7b : z7 ≠ b := (bD.ex (e15.trans e6)).apart m7
            refine ⟨tyL h7, ?_⟩
            refine ⟨sz_ok (by omega), fun z8 m8 => ?_⟩
            have e8 := Ex.new m8 (o := .lst [V.int 0, V.int 60, V.int 7])
            have h8 := upd_same (H := A7) (a := z8) (o := .lst [V.int 0, V.int 60, V.int 7])
            generalize upd A7 z8 (.lst [V.int 0, V.int 60, V.int 7]) = A8 at e8 h8 ⊢
            have e18 := e17.trans e8
            refine ⟨b, _, _, rfl, by omega, big_of (by omega), bD.ex e18, by omega, fun r A9 r0 r1 f9 b9 => ?_⟩
            obtain ⟨x, hx, ex⟩ := pickI (ns := [0, 60, 7]) r0 r1
            have n8b : z8 ≠ b := (bD.ex e17).apart m8
            refine ixL (.inl (.inl (f9 _ _ n8b h8))) ex ?_
            have hx2 : inR 0 60 (.int x) = true := by
              simp only [List.mem_cons, List.mem_nil_iff, or_false] at hx
              rcases hx with rfl | rfl | rfl <;> rfl
            have F9 := (Fx.of e18 (b := b)).trans f9
            have g9' := gD.nw (Nw.fx hob5 F9)
            refine ⟨m, .ref s, .int p, .ref q, .int x, dG G, .int p, _, .int x, _, by rw [Int.zero_add], by omega, de_of _ _ g9'.at.dp, rows_D ok, .int _, .lst (.inl (.inl (F9 _ _ nqb hqD))) (de_ints (nz L)), lenQ, .int _, .inr ⟨s, G, rfl, rfl, g9'.at, ok, rfl⟩, fun A10 e10 => ?_⟩
            rw [word4 hp nd lt npL, if_neg (by rw [hx2]; decide)]
            refine appL (e10 _ _ (f9 _ _ n7b (e8 _ _ h7))) (BC.sz_lt (by simp)) ?_
            have FM := (F9.trans (Fx.of e10)).mut n7D (o := .lst ([V.str (Str.ofString "site"), V.str (Str.ofString "pages")] ++ [V.str (Str.ofString "pages"), V.str (Str.ofString "number")] ++ [V.str (Str.ofString "none")]))
            have bM := (b9.ex e10).off n7b (o := .lst ([V.str (Str.ofString "site"), V.str (Str.ofString "pages")] ++ [V.str (Str.ofString "pages"), V.str (Str.ofString "number")] ++ [V.str (Str.ofString "none")]))
            have h7M := upd_same (H := A10) (a := z7) (o := .lst ([V.str (Str.ofString "site"), V.str (Str.ofString "pages")] ++ [V.str (Str.ofString "pages"), V.str (Str.ofString "number")] ++ [V.str (Str.ofString "none")]))
            refine ⟨sz_ok (by omega), fun z11 m11 => ?_⟩
            have e11 := Ex.new m11 (o := .lst [V.str (Str.ofString "site"), V.str (Str.ofString "pages"), V.str (Str.ofString "pages"), V.str (Str.ofString "number"), V.str (Str.ofString "none")])
            refine ⟨_, _, .lst (xs := ([Str.ofString "site", Str.ofString "pages", Str.ofString "pages", Str.ofString "number", Str.ofString "none"]).map V.str) (.inl (.inl (e11 _ _ h7M))) (dp_strs _), .lst (xs := ([Str.ofString "site", Str.ofString "pages", Str.ofString "pages", Str.ofString "number", Str.ofString "none"]).map V.str) (.inl (.inl upd_same)) (dp_strs _), by decide +kernel, by decide +kernel, ⟨_, rfl, ?_⟩⟩
            rw [show PyData.eqv (.list (([Str.ofString "site", Str.ofString "pages", Str.ofString "pages", Str.ofString "number", Str.ofString "none"]).map PyData.str)) (.list (([Str.ofString "site", Str.ofString "pages", Str.ofString "pages", Str.ofString "number", Str.ofString "none"]).map PyData.str)) = true by decide +kernel, if_neg (by decide)]
            exact ⟨_, _, _, rfl, fD.trans (FM.trans (Fx.of e11)), (bM.ex e11).mono (by omega)⟩
        · obtain ⟨l10, l15, l16, rfl, fD, bD⟩ := hP
          walk_at "sx"
          have gD := gF.nw (Nw.fx hob5 fD)
          have hqD := fD _ _ nqb hqF
          have de1 : ∀ (d : PyData) (v : V), De K (hidB b HF) v d → De K HD v d := fun d v h => De.ex hid_ex _ _ (De.ex (hid_fx fD) _ _ h)
          refine ⟨sz_ok (by omega), fun z1 m1 => ?_⟩
          have e1 := Ex.new m1 (o := .lst [V.int ((p : Nat) : Int)])
          have h1 := upd_same (H := HD) (a := z1) (o := .lst [V.int ((p : Nat) : Int)])
          generalize upd HD z1 (.lst [V.int ((p : Nat) : Int)]) = A1 at e1 h1 ⊢
          refine catE (e1 _ _ hqD) h1 (by rw [List.length_map, nz_len]; simp <;> omega) fun z2 A2 m2 e2 h2 => ?_
          have e12 := e1.trans e2
          have h2' : A2 z2 = some (.lst ((nz (L ++ [p])).map V.int)) := by rw [h2]; unfold nz; rw [List.map_append, List.map_append]; rfl
          have ndp : (L ++ [p]).Nodup := List.nodup_append.mpr ⟨nd, by simp, fun u hu v hv => by rw [List.mem_singleton.mp hv]; exact fun z => npL (z ▸ hu)⟩
          have ltp : ∀ x ∈ L ++ [p], x < G.length := fun x hx => by
            rcases List.mem_append.mp hx with h | h
            · exact lt x h
            · rw [List.mem_singleton.mp h]; exact hp
          have lenP : LenL (.list ((nz (L ++ [p])).map PyData.int)) := fun es h => by cases h; rw [List.length_map, nz_len, List.length_append]; simp <;> omega
          refine ⟨0, .ref s, .int p, .ref z2, vf, dG G, .int p, _, dF, _, rfl, by omega, de_of _ _ (gD.ex e12).at.dp, rows_D ok, .int _, .lst (.inl (.inl h2')) (de_ints (nz (L ++ [p]))), lenP, De.ex e12 _ _ (de1 _ _ deF), .inr ⟨s, G, rfl, rfl, (gD.ex e12).at, ok, rfl⟩, fun A3 e3 => ?_⟩
          rw [word6 hp ndp ltp (by simp)]
          refine x_neS.mpr ⟨_, rfl, ?_⟩
          rw [decide_eq_true rfl, if_neg (by decide)]
          have e13 := e12.trans e3
          refine ⟨sz_ok (by omega), fun z4 m4 => ?_⟩
          have e4 := Ex.new m4 (o := .lst [V.ref s, V.ref q])
          have h4 := upd_same (H := A3) (a := z4) (o := .lst [V.ref s, V.ref q])
          generalize upd A3 z4 (.lst [V.ref s, V.ref q]) = A4 at e4 h4 ⊢
          have e14 := e13.trans e4
          refine reprA (K := K) (d := dKept G L) (.lst (.inl (.inl h4)) (.cons (de_of _ _ (gD.ex e14).at.dp) (.cons (.lst (.inl (.inl (e14 _ _ hqD))) (de_ints _)) .nil))) (gd_kept ok ll lt) (by omega) (by omega) ?_
          refine x_neS.mpr ⟨_, rfl, ?_⟩
          rw [decide_eq_true rfl, if_neg (by decide)]
          refine ⟨_, _, _, _, _, _, _, _, _, _, _, _, _, _, _, rfl, ?_, (bD.ex e14).mono (by omega)⟩
          exact ((f5.trans (f6.trans (f7.trans (f8.trans f9)))).trans FY).trans ((FA.trans fD).trans (Fx.of e14))
end
end LW

set_option Elab.async false
set_option linter.all false
set_option maxRecDepth 100000
set_option maxHeartbeats 4000000
namespace LW
open PySem PySem.Spec PyProof.Rows L2 BC Evl TR
theorem all_mk {l : PySem.W.OpenLaw} {w : World} {K : PySem.W.Frag} {h : Heap} {mg : Str → Option Value} {fa : Addr} (X : K.In h) (G : h.Ns mainGlobals mg) (hfa : mg "law" = some (.ref fa))
    {X0 : Addr} {cdX0 : ClassData}
    {X1 : Addr} {cdX1 : ClassData}
    {X2 : Addr} {cdX2 : ClassData}
    {X3 : Addr} {cdX3 : ClassData}
    {X4 : Addr} {cdX4 : ClassData}
    {X5 : Addr} {cdX5 : ClassData}
    {X6 : Addr} {cdX6 : ClassData}
    {X7 : Addr} {cdX7 : ClassData}
    {X8 : Addr} {cdX8 : ClassData}
    {X9 : Addr} {cdX9 : ClassData}
    {X10 : Addr} {cdX10 : ClassData}
    {f0 : Addr} {od0 an0 : Option Addr} {sl0 : Array (Option Value)} {oc0 kV0 dc0 pm0 cd0 ct0 : Value}
    {f1 : Addr} {od1 an1 : Option Addr} {sl1 : Array (Option Value)} {oc1 kV1 dc1 pm1 cd1 ct1 : Value}
    {f2 : Addr} {od2 an2 : Option Addr} {sl2 : Array (Option Value)} {oc2 kV2 dc2 pm2 cd2 ct2 : Value}
    {f3 : Addr} {od3 an3 : Option Addr} {sl3 : Array (Option Value)} {oc3 kV3 dc3 pm3 cd3 ct3 : Value}
    {f4 : Addr} {od4 an4 : Option Addr} {sl4 : Array (Option Value)} {oc4 kV4 dc4 pm4 cd4 ct4 : Value}
    {f5 : Addr} {od5 an5 : Option Addr} {sl5 : Array (Option Value)} {oc5 kV5 dc5 pm5 cd5 ct5 : Value}
    {f6 : Addr} {od6 an6 : Option Addr} {sl6 : Array (Option Value)} {oc6 kV6 dc6 pm6 cd6 ct6 : Value}
    {f7 : Addr} {od7 an7 : Option Addr} {sl7 : Array (Option Value)} {oc7 kV7 dc7 pm7 cd7 ct7 : Value}
    {f8 : Addr} {od8 an8 : Option Addr} {sl8 : Array (Option Value)} {oc8 kV8 dc8 pm8 cd8 ct8 : Value}
    {f9 : Addr} {od9 an9 : Option Addr} {sl9 : Array (Option Value)} {oc9 kV9 dc9 pm9 cd9 ct9 : Value}
    {f10 : Addr} {od10 an10 : Option Addr} {sl10 : Array (Option Value)} {oc10 kV10 dc10 pm10 cd10 ct10 : Value}
    {f11 : Addr} {od11 an11 : Option Addr} {sl11 : Array (Option Value)} {oc11 kV11 dc11 pm11 cd11 ct11 : Value}
    {f12 : Addr} {od12 an12 : Option Addr} {sl12 : Array (Option Value)} {oc12 kV12 dc12 pm12 cd12 ct12 : Value}
    {f13 : Addr} {od13 an13 : Option Addr} {sl13 : Array (Option Value)} {oc13 kV13 dc13 pm13 cd13 ct13 : Value}
    {f14 : Addr} {od14 an14 : Option Addr} {sl14 : Array (Option Value)} {oc14 kV14 dc14 pm14 cd14 ct14 : Value}
    {f15 : Addr} {od15 an15 : Option Addr} {sl15 : Array (Option Value)} {oc15 kV15 dc15 pm15 cd15 ct15 : Value}
    {f16 : Addr} {od16 an16 : Option Addr} {sl16 : Array (Option Value)} {oc16 kV16 dc16 pm16 cd16 ct16 : Value}
    {f17 : Addr} {od17 an17 : Option Addr} {sl17 : Array (Option Value)} {oc17 kV17 dc17 pm17 cd17 ct17 : Value}
    {f18 : Addr} {od18 an18 : Option Addr} {sl18 : Array (Option Value)} {oc18 kV18 dc18 pm18 cd18 ct18 : Value}
    {f19 : Addr} {od19 an19 : Option Addr} {sl19 : Array (Option Value)} {oc19 kV19 dc19 pm19 cd19 ct19 : Value}
    {f20 : Addr} {od20 an20 : Option Addr} {sl20 : Array (Option Value)} {oc20 kV20 dc20 pm20 cd20 ct20 : Value}
    {f21 : Addr} {od21 an21 : Option Addr} {sl21 : Array (Option Value)} {oc21 kV21 dc21 pm21 cd21 ct21 : Value}
    {f22 : Addr} {od22 an22 : Option Addr} {sl22 : Array (Option Value)} {oc22 kV22 dc22 pm22 cd22 ct22 : Value}
    {f23 : Addr} {od23 an23 : Option Addr} {sl23 : Array (Option Value)} {oc23 kV23 dc23 pm23 cd23 ct23 : Value}
    {tt_MOST_PAGES : Tok}
    {tt_MOST_STEPS : Tok}
    (xn : PySem.W.specialIn K (.builtin "object.__class__") "__get__" = some (some (.builtin "getset_descriptor.__get__"))) (xt : PySem.W.takesIn K (.builtin "object.__class__") = some true)
    (ax0 : PySem.W.nsIn K mainGlobals "BreadcrumbsError" = some (some (.ref X0)))
    (kx0 : PySem.W.keepIn K (.ref X0) = true)
    (xx0 : PySem.W.excIn K X0 [.type "ValueError", .type "Exception", .type "BaseException", .type "object"] "ValueError.__new__" = true)
    (gx0 : PySem.W.findIn K (.ref X0) "__getattribute__" = some (some (.builtin "BaseException.__getattribute__")))
    (hx0 : PySem.W.findIn K (.ref X0) "__getattr__" = some none)
    (bx0 : PySem.W.subIn K (.ref X0) (.type "BaseException") = some true)
    (dx0 : PySem.W.hasDictIn K X0 = true)
    (cx0 : PySem.W.findIn K (.ref X0) "__class__" = some (some (.builtin "object.__class__")))
    (mx0 : PySem.W.mroIn K X0 (.type "object") = some true)
    (tx0 : PySem.W.typeIn K (.ref X0) = some (.type "type"))
    (lx0 : PySem.W.clsIn K X0 = some cdX0)
    (rx0 : cdX0.mro = [X0].map Value.ref ++ HandSPX.veTail)
    (ax1 : PySem.W.nsIn K mainGlobals "EmptyHistoryError" = some (some (.ref X1)))
    (kx1 : PySem.W.keepIn K (.ref X1) = true)
    (xx1 : PySem.W.excIn K X1 [.type "ValueError", .type "Exception", .type "BaseException", .type "object"] "ValueError.__new__" = true)
    (gx1 : PySem.W.findIn K (.ref X1) "__getattribute__" = some (some (.builtin "BaseException.__getattribute__")))
    (hx1 : PySem.W.findIn K (.ref X1) "__getattr__" = some none)
    (bx1 : PySem.W.subIn K (.ref X1) (.type "BaseException") = some true)
    (dx1 : PySem.W.hasDictIn K X1 = true)
    (cx1 : PySem.W.findIn K (.ref X1) "__class__" = some (some (.builtin "object.__class__")))
    (mx1 : PySem.W.mroIn K X1 (.type "object") = some true)
    (tx1 : PySem.W.typeIn K (.ref X1) = some (.type "type"))
    (lx1 : PySem.W.clsIn K X1 = some cdX1)
    (rx1 : cdX1.mro = [X1, X0].map Value.ref ++ HandSPX.veTail)
    (ax2 : PySem.W.nsIn K mainGlobals "InvalidEffectError" = some (some (.ref X2)))
    (kx2 : PySem.W.keepIn K (.ref X2) = true)
    (xx2 : PySem.W.excIn K X2 [.type "ValueError", .type "Exception", .type "BaseException", .type "object"] "ValueError.__new__" = true)
    (gx2 : PySem.W.findIn K (.ref X2) "__getattribute__" = some (some (.builtin "BaseException.__getattribute__")))
    (hx2 : PySem.W.findIn K (.ref X2) "__getattr__" = some none)
    (bx2 : PySem.W.subIn K (.ref X2) (.type "BaseException") = some true)
    (dx2 : PySem.W.hasDictIn K X2 = true)
    (cx2 : PySem.W.findIn K (.ref X2) "__class__" = some (some (.builtin "object.__class__")))
    (mx2 : PySem.W.mroIn K X2 (.type "object") = some true)
    (tx2 : PySem.W.typeIn K (.ref X2) = some (.type "type"))
    (lx2 : PySem.W.clsIn K X2 = some cdX2)
    (rx2 : cdX2.mro = [X2, X0].map Value.ref ++ HandSPX.veTail)
    (ax3 : PySem.W.nsIn K mainGlobals "InvalidFormatError" = some (some (.ref X3)))
    (kx3 : PySem.W.keepIn K (.ref X3) = true)
    (xx3 : PySem.W.excIn K X3 [.type "ValueError", .type "Exception", .type "BaseException", .type "object"] "ValueError.__new__" = true)
    (gx3 : PySem.W.findIn K (.ref X3) "__getattribute__" = some (some (.builtin "BaseException.__getattribute__")))
    (hx3 : PySem.W.findIn K (.ref X3) "__getattr__" = some none)
    (bx3 : PySem.W.subIn K (.ref X3) (.type "BaseException") = some true)
    (dx3 : PySem.W.hasDictIn K X3 = true)
    (cx3 : PySem.W.findIn K (.ref X3) "__class__" = some (some (.builtin "object.__class__")))
    (mx3 : PySem.W.mroIn K X3 (.type "object") = some true)
    (tx3 : PySem.W.typeIn K (.ref X3) = some (.type "type"))
    (lx3 : PySem.W.clsIn K X3 = some cdX3)
    (rx3 : cdX3.mro = [X3, X0].map Value.ref ++ HandSPX.veTail)
    (ax4 : PySem.W.nsIn K mainGlobals "InvalidLengthsError" = some (some (.ref X4)))
    (kx4 : PySem.W.keepIn K (.ref X4) = true)
    (xx4 : PySem.W.excIn K X4 [.type "ValueError", .type "Exception", .type "BaseException", .type "object"] "ValueError.__new__" = true)
    (gx4 : PySem.W.findIn K (.ref X4) "__getattribute__" = some (some (.builtin "BaseException.__getattribute__")))
    (hx4 : PySem.W.findIn K (.ref X4) "__getattr__" = some none)
    (bx4 : PySem.W.subIn K (.ref X4) (.type "BaseException") = some true)
    (dx4 : PySem.W.hasDictIn K X4 = true)
    (cx4 : PySem.W.findIn K (.ref X4) "__class__" = some (some (.builtin "object.__class__")))
    (mx4 : PySem.W.mroIn K X4 (.type "object") = some true)
    (tx4 : PySem.W.typeIn K (.ref X4) = some (.type "type"))
    (lx4 : PySem.W.clsIn K X4 = some cdX4)
    (rx4 : cdX4.mro = [X4, X0].map Value.ref ++ HandSPX.veTail)
    (ax5 : PySem.W.nsIn K mainGlobals "InvalidNumberError" = some (some (.ref X5)))
    (kx5 : PySem.W.keepIn K (.ref X5) = true)
    (xx5 : PySem.W.excIn K X5 [.type "ValueError", .type "Exception", .type "BaseException", .type "object"] "ValueError.__new__" = true)
    (gx5 : PySem.W.findIn K (.ref X5) "__getattribute__" = some (some (.builtin "BaseException.__getattribute__")))
    (hx5 : PySem.W.findIn K (.ref X5) "__getattr__" = some none)
    (bx5 : PySem.W.subIn K (.ref X5) (.type "BaseException") = some true)
    (dx5 : PySem.W.hasDictIn K X5 = true)
    (cx5 : PySem.W.findIn K (.ref X5) "__class__" = some (some (.builtin "object.__class__")))
    (mx5 : PySem.W.mroIn K X5 (.type "object") = some true)
    (tx5 : PySem.W.typeIn K (.ref X5) = some (.type "type"))
    (lx5 : PySem.W.clsIn K X5 = some cdX5)
    (rx5 : cdX5.mro = [X5, X0].map Value.ref ++ HandSPX.veTail)
    (ax6 : PySem.W.nsIn K mainGlobals "InvalidPageError" = some (some (.ref X6)))
    (kx6 : PySem.W.keepIn K (.ref X6) = true)
    (xx6 : PySem.W.excIn K X6 [.type "ValueError", .type "Exception", .type "BaseException", .type "object"] "ValueError.__new__" = true)
    (gx6 : PySem.W.findIn K (.ref X6) "__getattribute__" = some (some (.builtin "BaseException.__getattribute__")))
    (hx6 : PySem.W.findIn K (.ref X6) "__getattr__" = some none)
    (bx6 : PySem.W.subIn K (.ref X6) (.type "BaseException") = some true)
    (dx6 : PySem.W.hasDictIn K X6 = true)
    (cx6 : PySem.W.findIn K (.ref X6) "__class__" = some (some (.builtin "object.__class__")))
    (mx6 : PySem.W.mroIn K X6 (.type "object") = some true)
    (tx6 : PySem.W.typeIn K (.ref X6) = some (.type "type"))
    (lx6 : PySem.W.clsIn K X6 = some cdX6)
    (rx6 : cdX6.mro = [X6, X0].map Value.ref ++ HandSPX.veTail)
    (ax7 : PySem.W.nsIn K mainGlobals "InvalidPagesError" = some (some (.ref X7)))
    (kx7 : PySem.W.keepIn K (.ref X7) = true)
    (xx7 : PySem.W.excIn K X7 [.type "ValueError", .type "Exception", .type "BaseException", .type "object"] "ValueError.__new__" = true)
    (gx7 : PySem.W.findIn K (.ref X7) "__getattribute__" = some (some (.builtin "BaseException.__getattribute__")))
    (hx7 : PySem.W.findIn K (.ref X7) "__getattr__" = some none)
    (bx7 : PySem.W.subIn K (.ref X7) (.type "BaseException") = some true)
    (dx7 : PySem.W.hasDictIn K X7 = true)
    (cx7 : PySem.W.findIn K (.ref X7) "__class__" = some (some (.builtin "object.__class__")))
    (mx7 : PySem.W.mroIn K X7 (.type "object") = some true)
    (tx7 : PySem.W.typeIn K (.ref X7) = some (.type "type"))
    (lx7 : PySem.W.clsIn K X7 = some cdX7)
    (rx7 : cdX7.mro = [X7, X0].map Value.ref ++ HandSPX.veTail)
    (ax8 : PySem.W.nsIn K mainGlobals "InvalidSiteError" = some (some (.ref X8)))
    (kx8 : PySem.W.keepIn K (.ref X8) = true)
    (xx8 : PySem.W.excIn K X8 [.type "ValueError", .type "Exception", .type "BaseException", .type "object"] "ValueError.__new__" = true)
    (gx8 : PySem.W.findIn K (.ref X8) "__getattribute__" = some (some (.builtin "BaseException.__getattribute__")))
    (hx8 : PySem.W.findIn K (.ref X8) "__getattr__" = some none)
    (bx8 : PySem.W.subIn K (.ref X8) (.type "BaseException") = some true)
    (dx8 : PySem.W.hasDictIn K X8 = true)
    (cx8 : PySem.W.findIn K (.ref X8) "__class__" = some (some (.builtin "object.__class__")))
    (mx8 : PySem.W.mroIn K X8 (.type "object") = some true)
    (tx8 : PySem.W.typeIn K (.ref X8) = some (.type "type"))
    (lx8 : PySem.W.clsIn K X8 = some cdX8)
    (rx8 : cdX8.mro = [X8, X0].map Value.ref ++ HandSPX.veTail)
    (ax9 : PySem.W.nsIn K mainGlobals "InvalidTrailError" = some (some (.ref X9)))
    (kx9 : PySem.W.keepIn K (.ref X9) = true)
    (xx9 : PySem.W.excIn K X9 [.type "ValueError", .type "Exception", .type "BaseException", .type "object"] "ValueError.__new__" = true)
    (gx9 : PySem.W.findIn K (.ref X9) "__getattribute__" = some (some (.builtin "BaseException.__getattribute__")))
    (hx9 : PySem.W.findIn K (.ref X9) "__getattr__" = some none)
    (bx9 : PySem.W.subIn K (.ref X9) (.type "BaseException") = some true)
    (dx9 : PySem.W.hasDictIn K X9 = true)
    (cx9 : PySem.W.findIn K (.ref X9) "__class__" = some (some (.builtin "object.__class__")))
    (mx9 : PySem.W.mroIn K X9 (.type "object") = some true)
    (tx9 : PySem.W.typeIn K (.ref X9) = some (.type "type"))
    (lx9 : PySem.W.clsIn K X9 = some cdX9)
    (rx9 : cdX9.mro = [X9, X0].map Value.ref ++ HandSPX.veTail)
    (ax10 : PySem.W.nsIn K mainGlobals "InvalidVisitsError" = some (some (.ref X10)))
    (kx10 : PySem.W.keepIn K (.ref X10) = true)
    (xx10 : PySem.W.excIn K X10 [.type "ValueError", .type "Exception", .type "BaseException", .type "object"] "ValueError.__new__" = true)
    (gx10 : PySem.W.findIn K (.ref X10) "__getattribute__" = some (some (.builtin "BaseException.__getattribute__")))
    (hx10 : PySem.W.findIn K (.ref X10) "__getattr__" = some none)
    (bx10 : PySem.W.subIn K (.ref X10) (.type "BaseException") = some true)
    (dx10 : PySem.W.hasDictIn K X10 = true)
    (cx10 : PySem.W.findIn K (.ref X10) "__class__" = some (some (.builtin "object.__class__")))
    (mx10 : PySem.W.mroIn K X10 (.type "object") = some true)
    (tx10 : PySem.W.typeIn K (.ref X10) = some (.type "type"))
    (lx10 : PySem.W.clsIn K X10 = some cdX10)
    (rx10 : cdX10.mro = [X10, X0].map Value.ref ++ HandSPX.veTail)
    (ndx : [X0, X1, X2, X3, X4, X5, X6, X7, X8, X9, X10].Nodup)
    (a0 : PySem.W.nsIn K mainGlobals "is_integer" = some (some (.ref f0))) (l0 : K.lookup f0 = some ⟨oc0, od0, .func (PySem.W.fnOf "is_integer" "is_integer" (defArgs s_is_integer) (defBody s_is_integer) (defScope s_is_integer) .none kV0 dc0 pm0 an0 cd0 ct0), sl0⟩) (c0 : PySem.W.codeIn K cd0 "is_integer" = true) (k0 : PySem.W.keepIn K (.ref f0) = true)
    (a1 : PySem.W.nsIn K mainGlobals "check_number" = some (some (.ref f1))) (l1 : K.lookup f1 = some ⟨oc1, od1, .func (PySem.W.fnOf "check_number" "check_number" (defArgs s_check_number) (defBody s_check_number) (defScope s_check_number) .none kV1 dc1 pm1 an1 cd1 ct1), sl1⟩) (c1 : PySem.W.codeIn K cd1 "check_number" = true) (k1 : PySem.W.keepIn K (.ref f1) = true)
    (a2 : PySem.W.nsIn K mainGlobals "is_row" = some (some (.ref f2))) (l2 : K.lookup f2 = some ⟨oc2, od2, .func (PySem.W.fnOf "is_row" "is_row" (defArgs s_is_row) (defBody s_is_row) (defScope s_is_row) .none kV2 dc2 pm2 an2 cd2 ct2), sl2⟩) (c2 : PySem.W.codeIn K cd2 "is_row" = true) (k2 : PySem.W.keepIn K (.ref f2) = true)
    (a3 : PySem.W.nsIn K mainGlobals "is_site" = some (some (.ref f3))) (l3 : K.lookup f3 = some ⟨oc3, od3, .func (PySem.W.fnOf "is_site" "is_site" (defArgs s_is_site) (defBody s_is_site) (defScope s_is_site) .none kV3 dc3 pm3 an3 cd3 ct3), sl3⟩) (c3 : PySem.W.codeIn K cd3 "is_site" = true) (k3 : PySem.W.keepIn K (.ref f3) = true)
    (a4 : PySem.W.nsIn K mainGlobals "check_site" = some (some (.ref f4))) (l4 : K.lookup f4 = some ⟨oc4, od4, .func (PySem.W.fnOf "check_site" "check_site" (defArgs s_check_site) (defBody s_check_site) (defScope s_check_site) .none kV4 dc4 pm4 an4 cd4 ct4), sl4⟩) (c4 : PySem.W.codeIn K cd4 "check_site" = true) (k4 : PySem.W.keepIn K (.ref f4) = true)
    (a5 : PySem.W.nsIn K mainGlobals "check_page" = some (some (.ref f5))) (l5 : K.lookup f5 = some ⟨oc5, od5, .func (PySem.W.fnOf "check_page" "check_page" (defArgs s_check_page) (defBody s_check_page) (defScope s_check_page) .none kV5 dc5 pm5 an5 cd5 ct5), sl5⟩) (c5 : PySem.W.codeIn K cd5 "check_page" = true) (k5 : PySem.W.keepIn K (.ref f5) = true)
    (a6 : PySem.W.nsIn K mainGlobals "check_pages" = some (some (.ref f6))) (l6 : K.lookup f6 = some ⟨oc6, od6, .func (PySem.W.fnOf "check_pages" "check_pages" (defArgs s_check_pages) (defBody s_check_pages) (defScope s_check_pages) .none kV6 dc6 pm6 an6 cd6 ct6), sl6⟩) (c6 : PySem.W.codeIn K cd6 "check_pages" = true) (k6 : PySem.W.keepIn K (.ref f6) = true)
    (a7 : PySem.W.nsIn K mainGlobals "times" = some (some (.ref f7))) (l7 : K.lookup f7 = some ⟨oc7, od7, .func (PySem.W.fnOf "times" "times" (defArgs s_times) (defBody s_times) (defScope s_times) .none kV7 dc7 pm7 an7 cd7 ct7), sl7⟩) (c7 : PySem.W.codeIn K cd7 "times" = true) (k7 : PySem.W.keepIn K (.ref f7) = true)
    (a8 : PySem.W.nsIn K mainGlobals "returns_to" = some (some (.ref f8))) (l8 : K.lookup f8 = some ⟨oc8, od8, .func (PySem.W.fnOf "returns_to" "returns_to" (defArgs s_returns_to) (defBody s_returns_to) (defScope s_returns_to) .none kV8 dc8 pm8 an8 cd8 ct8), sl8⟩) (c8 : PySem.W.codeIn K cd8 "returns_to" = true) (k8 : PySem.W.keepIn K (.ref f8) = true)
    (a9 : PySem.W.nsIn K mainGlobals "closed_in" = some (some (.ref f9))) (l9 : K.lookup f9 = some ⟨oc9, od9, .func (PySem.W.fnOf "closed_in" "closed_in" (defArgs s_closed_in) (defBody s_closed_in) (defScope s_closed_in) .none kV9 dc9 pm9 an9 cd9 ct9), sl9⟩) (c9 : PySem.W.codeIn K cd9 "closed_in" = true) (k9 : PySem.W.keepIn K (.ref f9) = true)
    (a10 : PySem.W.nsIn K mainGlobals "parts_in" = some (some (.ref f10))) (l10 : K.lookup f10 = some ⟨oc10, od10, .func (PySem.W.fnOf "parts_in" "parts_in" (defArgs s_parts_in) (defBody s_parts_in) (defScope s_parts_in) .none kV10 dc10 pm10 an10 cd10 ct10), sl10⟩) (c10 : PySem.W.codeIn K cd10 "parts_in" = true) (k10 : PySem.W.keepIn K (.ref f10) = true)
    (a11 : PySem.W.nsIn K mainGlobals "loops_in" = some (some (.ref f11))) (l11 : K.lookup f11 = some ⟨oc11, od11, .func (PySem.W.fnOf "loops_in" "loops_in" (defArgs s_loops_in) (defBody s_loops_in) (defScope s_loops_in) .none kV11 dc11 pm11 an11 cd11 ct11), sl11⟩) (c11 : PySem.W.codeIn K cd11 "loops_in" = true) (k11 : PySem.W.keepIn K (.ref f11) = true)
    (a12 : PySem.W.nsIn K mainGlobals "closed_walks" = some (some (.ref f12))) (l12 : K.lookup f12 = some ⟨oc12, od12, .func (PySem.W.fnOf "closed_walks" "closed_walks" (defArgs s_closed_walks) (defBody s_closed_walks) (defScope s_closed_walks) .none kV12 dc12 pm12 an12 cd12 ct12), sl12⟩) (c12 : PySem.W.codeIn K cd12 "closed_walks" = true) (k12 : PySem.W.keepIn K (.ref f12) = true)
    (a13 : PySem.W.nsIn K mainGlobals "loop_parts" = some (some (.ref f13))) (l13 : K.lookup f13 = some ⟨oc13, od13, .func (PySem.W.fnOf "loop_parts" "loop_parts" (defArgs s_loop_parts) (defBody s_loop_parts) (defScope s_loop_parts) .none kV13 dc13 pm13 an13 cd13 ct13), sl13⟩) (c13 : PySem.W.codeIn K cd13 "loop_parts" = true) (k13 : PySem.W.keepIn K (.ref f13) = true)
    (a14 : PySem.W.nsIn K mainGlobals "loop_numbers" = some (some (.ref f14))) (l14 : K.lookup f14 = some ⟨oc14, od14, .func (PySem.W.fnOf "loop_numbers" "loop_numbers" (defArgs s_loop_numbers) (defBody s_loop_numbers) (defScope s_loop_numbers) .none kV14 dc14 pm14 an14 cd14 ct14), sl14⟩) (c14 : PySem.W.codeIn K cd14 "loop_numbers" = true) (k14 : PySem.W.keepIn K (.ref f14) = true)
    (a15 : PySem.W.nsIn K mainGlobals "_law_open_source" = some (some (.ref f15))) (l15 : K.lookup f15 = some ⟨oc15, od15, .func (PySem.W.fnOf "_law_open_source" "_law_open_source" (defArgs s_law_open_source) (defBody s_law_open_source) (defScope s_law_open_source) .none kV15 dc15 pm15 an15 cd15 ct15), sl15⟩) (c15 : PySem.W.codeIn K cd15 "_law_open_source" = true) (k15 : PySem.W.keepIn K (.ref f15) = true)
    (a16 : PySem.W.nsIn K mainGlobals "_law_draw" = some (some (.ref f16))) (l16 : K.lookup f16 = some ⟨oc16, od16, .func (PySem.W.fnOf "_law_draw" "_law_draw" (defArgs s_law_draw) (defBody s_law_draw) (defScope s_law_draw) .none kV16 dc16 pm16 an16 cd16 ct16), sl16⟩) (c16 : PySem.W.codeIn K cd16 "_law_draw" = true) (k16 : PySem.W.keepIn K (.ref f16) = true)
    (a17 : PySem.W.nsIn K mainGlobals "_law_site" = some (some (.ref f17))) (l17 : K.lookup f17 = some ⟨oc17, od17, .func (PySem.W.fnOf "_law_site" "_law_site" (defArgs s_law_site) (defBody s_law_site) (defScope s_law_site) .none kV17 dc17 pm17 an17 cd17 ct17), sl17⟩) (c17 : PySem.W.codeIn K cd17 "_law_site" = true) (k17 : PySem.W.keepIn K (.ref f17) = true)
    (a18 : PySem.W.nsIn K mainGlobals "_law_mixed" = some (some (.ref f18))) (l18 : K.lookup f18 = some ⟨oc18, od18, .func (PySem.W.fnOf "_law_mixed" "_law_mixed" (defArgs s_law_mixed) (defBody s_law_mixed) (defScope s_law_mixed) .none kV18 dc18 pm18 an18 cd18 ct18), sl18⟩) (c18 : PySem.W.codeIn K cd18 "_law_mixed" = true) (k18 : PySem.W.keepIn K (.ref f18) = true)
    (a19 : PySem.W.nsIn K mainGlobals "_law_some" = some (some (.ref f19))) (l19 : K.lookup f19 = some ⟨oc19, od19, .func (PySem.W.fnOf "_law_some" "_law_some" (defArgs s_law_some) (defBody s_law_some) (defScope s_law_some) .none kV19 dc19 pm19 an19 cd19 ct19), sl19⟩) (c19 : PySem.W.codeIn K cd19 "_law_some" = true) (k19 : PySem.W.keepIn K (.ref f19) = true)
    (a20 : PySem.W.nsIn K mainGlobals "_law_kind" = some (some (.ref f20))) (l20 : K.lookup f20 = some ⟨oc20, od20, .func (PySem.W.fnOf "_law_kind" "_law_kind" (defArgs s_law_kind) (defBody s_law_kind) (defScope s_law_kind) .none kV20 dc20 pm20 an20 cd20 ct20), sl20⟩) (c20 : PySem.W.codeIn K cd20 "_law_kind" = true) (k20 : PySem.W.keepIn K (.ref f20) = true)
    (a21 : PySem.W.nsIn K mainGlobals "_law_no_site" = some (some (.ref f21))) (l21 : K.lookup f21 = some ⟨oc21, od21, .func (PySem.W.fnOf "_law_no_site" "_law_no_site" (defArgs s_law_no_site) (defBody s_law_no_site) (defScope s_law_no_site) .none kV21 dc21 pm21 an21 cd21 ct21), sl21⟩) (c21 : PySem.W.codeIn K cd21 "_law_no_site" = true) (k21 : PySem.W.keepIn K (.ref f21) = true)
    (a22 : PySem.W.nsIn K mainGlobals "_law_error" = some (some (.ref f22))) (l22 : K.lookup f22 = some ⟨oc22, od22, .func (PySem.W.fnOf "_law_error" "_law_error" (defArgs s_law_error) (defBody s_law_error) (defScope s_law_error) .none kV22 dc22 pm22 an22 cd22 ct22), sl22⟩) (c22 : PySem.W.codeIn K cd22 "_law_error" = true) (k22 : PySem.W.keepIn K (.ref f22) = true)
    (a23 : PySem.W.nsIn K mainGlobals "law" = some (some (.ref f23))) (l23 : K.lookup f23 = some ⟨oc23, od23, .func (PySem.W.fnOf "law" "law" (defArgs s_law) (defBody s_law) (defScope s_law) .none kV23 dc23 pm23 an23 cd23 ct23), sl23⟩) (c23 : PySem.W.codeIn K cd23 "law" = true) (k23 : PySem.W.keepIn K (.ref f23) = true)
    (q_MOST_PAGES : PySem.W.nsIn K mainGlobals "MOST_PAGES" = some (some (.int 12 tt_MOST_PAGES)))
    (q_MOST_STEPS : PySem.W.nsIn K mainGlobals "MOST_STEPS" = some (some (.int 60 tt_MOST_STEPS)))
    (z_ValueError : PySem.W.nsIn K mainGlobals "ValueError" = some none)
    (z_abs : PySem.W.nsIn K mainGlobals "abs" = some none)
    (z_all : PySem.W.nsIn K mainGlobals "all" = some none)
    (z_bool : PySem.W.nsIn K mainGlobals "bool" = some none)
    (z_enumerate : PySem.W.nsIn K mainGlobals "enumerate" = some none)
    (z_int : PySem.W.nsIn K mainGlobals "int" = some none)
    (z_isinstance : PySem.W.nsIn K mainGlobals "isinstance" = some none)
    (z_len : PySem.W.nsIn K mainGlobals "len" = some none)
    (z_list : PySem.W.nsIn K mainGlobals "list" = some none)
    (z_max : PySem.W.nsIn K mainGlobals "max" = some none)
    (z_min : PySem.W.nsIn K mainGlobals "min" = some none)
    (z_range : PySem.W.nsIn K mainGlobals "range" = some none)
    (z_repr : PySem.W.nsIn K mainGlobals "repr" = some none)
    (z_set : PySem.W.nsIn K mainGlobals "set" = some none)
    (z_sorted : PySem.W.nsIn K mainGlobals "sorted" = some none)
    (z_sum : PySem.W.nsIn K mainGlobals "sum" = some none)
    (z_tuple : PySem.W.nsIn K mainGlobals "tuple" = some none) :
    ∃ fd : FuncData, (∀ (s : Shared) (v : Value), BindsTo s fd ⟨[v], []⟩ [("_law_script", v)]) ∧ ∀ base : Heap, K.In base → base.Ns mainGlobals mg → FnG l.prog w K mg base CX0 7 fa fd ["_law_script"] (spLaw K) := by
  have e := hfa.symm.trans (PySem.W.mg_of X G a23)
  cases e
  let T : Txt K mg := ⟨X0, PySem.W.mg_of X G ax0, kx0, xx0, ⟨gx0, hx0, bx0, dx0, cx0, xn, xt, mx0⟩, tx0, bx0, ⟨cdX0, lx0, rx0⟩,
    X1, PySem.W.mg_of X G ax1, kx1, xx1, ⟨gx1, hx1, bx1, dx1, cx1, xn, xt, mx1⟩, tx1, bx1, ⟨cdX1, lx1, rx1⟩,
    X2, PySem.W.mg_of X G ax2, kx2, xx2, ⟨gx2, hx2, bx2, dx2, cx2, xn, xt, mx2⟩, tx2, bx2, ⟨cdX2, lx2, rx2⟩,
    X3, PySem.W.mg_of X G ax3, kx3, xx3, ⟨gx3, hx3, bx3, dx3, cx3, xn, xt, mx3⟩, tx3, bx3, ⟨cdX3, lx3, rx3⟩,
    X4, PySem.W.mg_of X G ax4, kx4, xx4, ⟨gx4, hx4, bx4, dx4, cx4, xn, xt, mx4⟩, tx4, bx4, ⟨cdX4, lx4, rx4⟩,
    X5, PySem.W.mg_of X G ax5, kx5, xx5, ⟨gx5, hx5, bx5, dx5, cx5, xn, xt, mx5⟩, tx5, bx5, ⟨cdX5, lx5, rx5⟩,
    X6, PySem.W.mg_of X G ax6, kx6, xx6, ⟨gx6, hx6, bx6, dx6, cx6, xn, xt, mx6⟩, tx6, bx6, ⟨cdX6, lx6, rx6⟩,
    X7, PySem.W.mg_of X G ax7, kx7, xx7, ⟨gx7, hx7, bx7, dx7, cx7, xn, xt, mx7⟩, tx7, bx7, ⟨cdX7, lx7, rx7⟩,
    X8, PySem.W.mg_of X G ax8, kx8, xx8, ⟨gx8, hx8, bx8, dx8, cx8, xn, xt, mx8⟩, tx8, bx8, ⟨cdX8, lx8, rx8⟩,
    X9, PySem.W.mg_of X G ax9, kx9, xx9, ⟨gx9, hx9, bx9, dx9, cx9, xn, xt, mx9⟩, tx9, bx9, ⟨cdX9, lx9, rx9⟩,
    X10, PySem.W.mg_of X G ax10, kx10, xx10, ⟨gx10, hx10, bx10, dx10, cx10, xn, xt, mx10⟩, tx10, bx10, ⟨cdX10, lx10, rx10⟩,
    ndx,
    f0, _, fun_mk (st := s_is_integer) l0 c0 k0, PySem.W.mg_of X G a0, (fun_mk (st := s_is_integer) l0 c0 k0).binds fun _ _ _ _ _ _ us hl => match us, hl with | [_, _, _], _ => rfl,
    f1, _, fun_mk (st := s_check_number) l1 c1 k1, PySem.W.mg_of X G a1, (fun_mk (st := s_check_number) l1 c1 k1).binds fun _ _ _ _ _ _ us hl => match us, hl with | [_, _, _], _ => rfl,
    f2, _, fun_mk (st := s_is_row) l2 c2 k2, PySem.W.mg_of X G a2, (fun_mk (st := s_is_row) l2 c2 k2).binds fun _ _ _ _ _ _ us hl => match us, hl with | [_, _, _], _ => rfl,
    f3, _, fun_mk (st := s_is_site) l3 c3 k3, PySem.W.mg_of X G a3, (fun_mk (st := s_is_site) l3 c3 k3).binds fun _ _ _ _ _ _ us hl => match us, hl with | [_], _ => rfl,
    f4, _, fun_mk (st := s_check_site) l4 c4 k4, PySem.W.mg_of X G a4, (fun_mk (st := s_check_site) l4 c4 k4).binds fun _ _ _ _ _ _ us hl => match us, hl with | [_], _ => rfl,
    f5, _, fun_mk (st := s_check_page) l5 c5 k5, PySem.W.mg_of X G a5, (fun_mk (st := s_check_page) l5 c5 k5).binds fun _ _ _ _ _ _ us hl => match us, hl with | [_, _], _ => rfl,
    f6, _, fun_mk (st := s_check_pages) l6 c6 k6, PySem.W.mg_of X G a6, (fun_mk (st := s_check_pages) l6 c6 k6).binds fun _ _ _ _ _ _ us hl => match us, hl with | [_, _], _ => rfl,
    f7, _, fun_mk (st := s_times) l7 c7 k7, PySem.W.mg_of X G a7, (fun_mk (st := s_times) l7 c7 k7).binds fun _ _ _ _ _ _ us hl => match us, hl with | [_, _, _], _ => rfl,
    f8, _, fun_mk (st := s_returns_to) l8 c8 k8, PySem.W.mg_of X G a8, (fun_mk (st := s_returns_to) l8 c8 k8).binds fun _ _ _ _ _ _ us hl => match us, hl with | [_, _, _, _], _ => rfl,
    f9, _, fun_mk (st := s_closed_in) l9 c9 k9, PySem.W.mg_of X G a9, (fun_mk (st := s_closed_in) l9 c9 k9).binds fun _ _ _ _ _ _ us hl => match us, hl with | [_, _, _, _], _ => rfl,
    f10, _, fun_mk (st := s_parts_in) l10 c10 k10, PySem.W.mg_of X G a10, (fun_mk (st := s_parts_in) l10 c10 k10).binds fun _ _ _ _ _ _ us hl => match us, hl with | [_, _, _], _ => rfl,
    f11, _, fun_mk (st := s_loops_in) l11 c11 k11, PySem.W.mg_of X G a11, (fun_mk (st := s_loops_in) l11 c11 k11).binds fun _ _ _ _ _ _ us hl => match us, hl with | [_, _, _], _ => rfl,
    f12, _, fun_mk (st := s_closed_walks) l12 c12 k12, PySem.W.mg_of X G a12, (fun_mk (st := s_closed_walks) l12 c12 k12).binds fun _ _ _ _ _ _ us hl => match us, hl with | [_, _, _, _], _ => rfl,
    f13, _, fun_mk (st := s_loop_parts) l13 c13 k13, PySem.W.mg_of X G a13, (fun_mk (st := s_loop_parts) l13 c13 k13).binds fun _ _ _ _ _ _ us hl => match us, hl with | [_, _, _], _ => rfl,
    f14, _, fun_mk (st := s_loop_numbers) l14 c14 k14, PySem.W.mg_of X G a14, (fun_mk (st := s_loop_numbers) l14 c14 k14).binds fun _ _ _ _ _ _ us hl => match us, hl with | [_, _, _], _ => rfl,
    f15, _, fun_mk (st := s_law_open_source) l15 c15 k15, PySem.W.mg_of X G a15, (fun_mk (st := s_law_open_source) l15 c15 k15).binds fun _ _ _ _ _ _ us hl => match us, hl with | [_, _], _ => rfl,
    f16, _, fun_mk (st := s_law_draw) l16 c16 k16, PySem.W.mg_of X G a16, (fun_mk (st := s_law_draw) l16 c16 k16).binds fun _ _ _ _ _ _ us hl => match us, hl with | [_, _], _ => rfl,
    f17, _, fun_mk (st := s_law_site) l17 c17 k17, PySem.W.mg_of X G a17, (fun_mk (st := s_law_site) l17 c17 k17).binds fun _ _ _ _ _ _ us hl => match us, hl with | [_, _, _], _ => rfl,
    f18, _, fun_mk (st := s_law_mixed) l18 c18 k18, PySem.W.mg_of X G a18, (fun_mk (st := s_law_mixed) l18 c18 k18).binds fun _ _ _ _ _ _ us hl => match us, hl with | [_, _], _ => rfl,
    f19, _, fun_mk (st := s_law_some) l19 c19 k19, PySem.W.mg_of X G a19, (fun_mk (st := s_law_some) l19 c19 k19).binds fun _ _ _ _ _ _ us hl => match us, hl with | [_, _, _], _ => rfl,
    f20, _, fun_mk (st := s_law_kind) l20 c20 k20, PySem.W.mg_of X G a20, (fun_mk (st := s_law_kind) l20 c20 k20).binds fun _ _ _ _ _ _ us hl => match us, hl with | [_], _ => rfl,
    f21, _, fun_mk (st := s_law_no_site) l21 c21 k21, PySem.W.mg_of X G a21, (fun_mk (st := s_law_no_site) l21 c21 k21).binds fun _ _ _ _ _ _ us hl => match us, hl with | [_, _], _ => rfl,
    f22, _, fun_mk (st := s_law_error) l22 c22 k22, PySem.W.mg_of X G a22, (fun_mk (st := s_law_error) l22 c22 k22).binds fun _ _ _ _ _ _ us hl => match us, hl with | [_, _, _, _, _], _ => rfl,
    fa, _, fun_mk (st := s_law) l23 c23 k23, PySem.W.mg_of X G a23, (fun_mk (st := s_law) l23 c23 k23).binds fun _ _ _ _ _ _ us hl => match us, hl with | [_], _ => rfl,
    tt_MOST_PAGES, PySem.W.mg_of X G q_MOST_PAGES,
    tt_MOST_STEPS, PySem.W.mg_of X G q_MOST_STEPS,
    PySem.W.mg_none_of X G z_ValueError,
    PySem.W.mg_none_of X G z_abs,
    PySem.W.mg_none_of X G z_all,
    PySem.W.mg_none_of X G z_bool,
    PySem.W.mg_none_of X G z_enumerate,
    PySem.W.mg_none_of X G z_int,
    PySem.W.mg_none_of X G z_isinstance,
    PySem.W.mg_none_of X G z_len,
    PySem.W.mg_none_of X G z_list,
    PySem.W.mg_none_of X G z_max,
    PySem.W.mg_none_of X G z_min,
    PySem.W.mg_none_of X G z_range,
    PySem.W.mg_none_of X G z_repr,
    PySem.W.mg_none_of X G z_set,
    PySem.W.mg_none_of X G z_sorted,
    PySem.W.mg_none_of X G z_sum,
    PySem.W.mg_none_of X G z_tuple⟩
  exact ⟨T.fd_law, fun s v => .of_eq rfl, fun base _ _ => ok_law T⟩

end LW
open PySem PySem.W PyProof.Rows
set_option maxHeartbeats 0 in
theorem PySem.Challenge.cw_breadcrumbs_k47_errors_of_loops_holds : PySem.Challenge.rw_breadcrumbs_k47_errors_of_loops.Holds := by
  w_on; o_law; k_head; (case hw => w_witness2)
  k_fill
  refine BC.walk_G (l := PySem.Challenge.rw_breadcrumbs_k47_errors_of_loops) (n := 63) (k := 7) (x := "_law_script") (sp := fun w => LW.spLaw _) rfl (by decide) rfl ⟨rfl, by decide, by decide⟩ (fun w h Y => PySem.W.kIn_of Y) ?F (fun w H a ns hl hS => ⟨a, ns, rfl, hS, hl, fun _ => rfl⟩)
  case F =>
    intro w mg fa h KX G hmg
    refine' LW.all_mk KX G hmg ?xn ?xt ?ax0 ?kx0 ?xx0 ?gx0 ?hx0 ?bx0 ?dx0 ?cx0 ?mx0 ?tx0 ?lx0 ?rx0 ?ax1 ?kx1 ?xx1 ?gx1 ?hx1 ?bx1 ?dx1 ?cx1 ?mx1 ?tx1 ?lx1 ?rx1 ?ax2 ?kx2 ?xx2 ?gx2 ?hx2 ?bx2 ?dx2 ?cx2 ?mx2 ?tx2 ?lx2 ?rx2 ?ax3 ?kx3 ?xx3 ?gx3 ?hx3 ?bx3 ?dx3 ?cx3 ?mx3 ?tx3 ?lx3 ?rx3 ?ax4 ?kx4 ?xx4 ?gx4 ?hx4 ?bx4 ?dx4 ?cx4 ?mx4 ?tx4 ?lx4 ?rx4 ?ax5 ?kx5 ?xx5 ?gx5 ?hx5 ?bx5 ?dx5 ?cx5 ?mx5 ?tx5 ?lx5 ?rx5 ?ax6 ?kx6 ?xx6 ?gx6 ?hx6 ?bx6 ?dx6 ?cx6 ?mx6 ?tx6 ?lx6 ?rx6 ?ax7 ?kx7 ?xx7 ?gx7 ?hx7 ?bx7 ?dx7 ?cx7 ?mx7 ?tx7 ?lx7 ?rx7 ?ax8 ?kx8 ?xx8 ?gx8 ?hx8 ?bx8 ?dx8 ?cx8 ?mx8 ?tx8 ?lx8 ?rx8 ?ax9 ?kx9 ?xx9 ?gx9 ?hx9 ?bx9 ?dx9 ?cx9 ?mx9 ?tx9 ?lx9 ?rx9 ?ax10 ?kx10 ?xx10 ?gx10 ?hx10 ?bx10 ?dx10 ?cx10 ?mx10 ?tx10 ?lx10 ?rx10 ?ndx ?a0 ?l0 ?c0 ?k0 ?a1 ?l1 ?c1 ?k1 ?a2 ?l2 ?c2 ?k2 ?a3 ?l3 ?c3 ?k3 ?a4 ?l4 ?c4 ?k4 ?a5 ?l5 ?c5 ?k5 ?a6 ?l6 ?c6 ?k6 ?a7 ?l7 ?c7 ?k7 ?a8 ?l8 ?c8 ?k8 ?a9 ?l9 ?c9 ?k9 ?a10 ?l10 ?c10 ?k10 ?a11 ?l11 ?c11 ?k11 ?a12 ?l12 ?c12 ?k12 ?a13 ?l13 ?c13 ?k13 ?a14 ?l14 ?c14 ?k14 ?a15 ?l15 ?c15 ?k15 ?a16 ?l16 ?c16 ?k16 ?a17 ?l17 ?c17 ?k17 ?a18 ?l18 ?c18 ?k18 ?a19 ?l19 ?c19 ?k19 ?a20 ?l20 ?c20 ?k20 ?a21 ?l21 ?c21 ?k21 ?a22 ?l22 ?c22 ?k22 ?a23 ?l23 ?c23 ?k23 ?q_MOST_PAGES ?q_MOST_STEPS ?z_ValueError ?z_abs ?z_all ?z_bool ?z_enumerate ?z_int ?z_isinstance ?z_len ?z_list ?z_max ?z_min ?z_range ?z_repr ?z_set ?z_sorted ?z_sum ?z_tuple
    (case xn => k_is); (case xt => k_is); (case ax0 => k_is); (case kx0 => k_is); (case xx0 => k_exc); (case gx0 => k_is); (case hx0 => k_is); (case bx0 => k_is); (case dx0 => k_is); (case cx0 => k_is); (case mx0 => k_is); (case tx0 => k_is); (case lx0 => k_is); (case rx0 => rfl); (case ax1 => k_is); (case kx1 => k_is); (case xx1 => k_exc); (case gx1 => k_is); (case hx1 => k_is); (case bx1 => k_is); (case dx1 => k_is); (case cx1 => k_is); (case mx1 => k_is); (case tx1 => k_is); (case lx1 => k_is); (case rx1 => rfl); (case ax2 => k_is); (case kx2 => k_is); (case xx2 => k_exc); (case gx2 => k_is); (case hx2 => k_is); (case bx2 => k_is); (case dx2 => k_is); (case cx2 => k_is); (case mx2 => k_is); (case tx2 => k_is); (case lx2 => k_is); (case rx2 => rfl); (case ax3 => k_is); (case kx3 => k_is); (case xx3 => k_exc); (case gx3 => k_is); (case hx3 => k_is); (case bx3 => k_is); (case dx3 => k_is); (case cx3 => k_is); (case mx3 => k_is); (case tx3 => k_is); (case lx3 => k_is); (case rx3 => rfl); (case ax4 => k_is); (case kx4 => k_is); (case xx4 => k_exc); (case gx4 => k_is); (case hx4 => k_is); (case bx4 => k_is); (case dx4 => k_is); (case cx4 => k_is); (case mx4 => k_is); (case tx4 => k_is); (case lx4 => k_is); (case rx4 => rfl); (case ax5 => k_is); (case kx5 => k_is); (case xx5 => k_exc); (case gx5 => k_is); (case hx5 => k_is); (case bx5 => k_is); (case dx5 => k_is); (case cx5 => k_is); (case mx5 => k_is); (case tx5 => k_is); (case lx5 => k_is); (case rx5 => rfl); (case ax6 => k_is); (case kx6 => k_is); (case xx6 => k_exc); (case gx6 => k_is); (case hx6 => k_is); (case bx6 => k_is); (case dx6 => k_is); (case cx6 => k_is); (case mx6 => k_is); (case tx6 => k_is); (case lx6 => k_is); (case rx6 => rfl); (case ax7 => k_is); (case kx7 => k_is); (case xx7 => k_exc); (case gx7 => k_is); (case hx7 => k_is); (case bx7 => k_is); (case dx7 => k_is); (case cx7 => k_is); (case mx7 => k_is); (case tx7 => k_is); (case lx7 => k_is); (case rx7 => rfl); (case ax8 => k_is); (case kx8 => k_is); (case xx8 => k_exc); (case gx8 => k_is); (case hx8 => k_is); (case bx8 => k_is); (case dx8 => k_is); (case cx8 => k_is); (case mx8 => k_is); (case tx8 => k_is); (case lx8 => k_is); (case rx8 => rfl); (case ax9 => k_is); (case kx9 => k_is); (case xx9 => k_exc); (case gx9 => k_is); (case hx9 => k_is); (case bx9 => k_is); (case dx9 => k_is); (case cx9 => k_is); (case mx9 => k_is); (case tx9 => k_is); (case lx9 => k_is); (case rx9 => rfl); (case ax10 => k_is); (case kx10 => k_is); (case xx10 => k_exc); (case gx10 => k_is); (case hx10 => k_is); (case bx10 => k_is); (case dx10 => k_is); (case cx10 => k_is); (case mx10 => k_is); (case tx10 => k_is); (case lx10 => k_is); (case rx10 => rfl); (case ndx => decide); (case a0 => k_is); (case l0 => k_is); (case c0 => k_is); (case k0 => k_is); (case a1 => k_is); (case l1 => k_is); (case c1 => k_is); (case k1 => k_is); (case a2 => k_is); (case l2 => k_is); (case c2 => k_is); (case k2 => k_is); (case a3 => k_is); (case l3 => k_is); (case c3 => k_is); (case k3 => k_is); (case a4 => k_is); (case l4 => k_is); (case c4 => k_is); (case k4 => k_is); (case a5 => k_is); (case l5 => k_is); (case c5 => k_is); (case k5 => k_is); (case a6 => k_is); (case l6 => k_is); (case c6 => k_is); (case k6 => k_is); (case a7 => k_is); (case l7 => k_is); (case c7 => k_is); (case k7 => k_is); (case a8 => k_is); (case l8 => k_is); (case c8 => k_is); (case k8 => k_is); (case a9 => k_is); (case l9 => k_is); (case c9 => k_is); (case k9 => k_is); (case a10 => k_is); (case l10 => k_is); (case c10 => k_is); (case k10 => k_is); (case a11 => k_is); (case l11 => k_is); (case c11 => k_is); (case k11 => k_is); (case a12 => k_is); (case l12 => k_is); (case c12 => k_is); (case k12 => k_is); (case a13 => k_is); (case l13 => k_is); (case c13 => k_is); (case k13 => k_is); (case a14 => k_is); (case l14 => k_is); (case c14 => k_is); (case k14 => k_is); (case a15 => k_is); (case l15 => k_is); (case c15 => k_is); (case k15 => k_is); (case a16 => k_is); (case l16 => k_is); (case c16 => k_is); (case k16 => k_is); (case a17 => k_is); (case l17 => k_is); (case c17 => k_is); (case k17 => k_is); (case a18 => k_is); (case l18 => k_is); (case c18 => k_is); (case k18 => k_is); (case a19 => k_is); (case l19 => k_is); (case c19 => k_is); (case k19 => k_is); (case a20 => k_is); (case l20 => k_is); (case c20 => k_is); (case k20 => k_is); (case a21 => k_is); (case l21 => k_is); (case c21 => k_is); (case k21 => k_is); (case a22 => k_is); (case l22 => k_is); (case c22 => k_is); (case k22 => k_is); (case a23 => k_is); (case l23 => k_is); (case c23 => k_is); (case k23 => k_is); (case q_MOST_PAGES => k_is); (case q_MOST_STEPS => k_is); (case z_ValueError => k_is); (case z_abs => k_is); (case z_all => k_is); (case z_bool => k_is); (case z_enumerate => k_is); (case z_int => k_is); (case z_isinstance => k_is); (case z_len => k_is); (case z_list => k_is); (case z_max => k_is); (case z_min => k_is); (case z_range => k_is); (case z_repr => k_is); (case z_set => k_is); (case z_sorted => k_is); (case z_sum => k_is); (case z_tuple => k_is)

