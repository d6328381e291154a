import PyProof.Rows.All
import Wide.All
import OpenK.AllK
import Wide.FinOn
import HandS.ForMost
import HandS.IsInst
import HandS.Style
import HandS.Wide
import HandS.Evl
import HandS.Zip
import HandS.SortKw
import HandS.Conv
import HandS.TupLe
import HandS.RaiseMore
import HandS.Defaults
import HandS.SetFor
import HandS.Strs
import HandS.FStr
import HandS.Text
import PyProof.StrBlock2
import PyProof.Rows.StrIntSpec
import PyProof.FString3
import HandS.Dict
import HandS.ExcIs
import HandS.ExcValue
import HandS.TryOnly
import HandS.HotCalls
import HandS.WordsExc
import HandS.Hot
import HandS.ExcCtx
import HandS.Comp
import PySem.Challenge.RW_breadcrumbs_k61_free_visits_errors
set_option Elab.async false
set_option linter.all false
set_option maxRecDepth 100000
set_option maxHeartbeats 4000000
namespace BC
open PySem PySem.Spec PyProof.Rows L2
section
variable {X : Cx}
/-- a power of a number of any size that matters here -/
def CPowX (i j : Int) : Prop := 0 ≤ j ∧ j ≤ 1000 ∧ i.natAbs.log2 < 100000
theorem op_powX : OpR X (binaryOp .Pow) (rI CPowX fun i j => .int (i ^ j.toNat)) := opI fun i j _ _ _ _ _ hc q => by
  obtain ⟨h0, h1, h2⟩ := hc
  refine pow_int h0 ?_ q
  have hb : Builtin.Int.intBits i ≤ 100000 := by
    unfold Builtin.Int.intBits
    split <;> omega
  have h3 : (Builtin.Int.intBits i : Int) * j ≤ 100000 * j := Int.mul_le_mul_of_nonneg_right (by omega) h0
  omega
/-- a product: one factor small, or both of bounded size -/
def CMulX (i j : Int) : Prop := CMul i j ∨ CMulW i j
theorem op_mulX : OpR X (binaryOp .Mult) (rI CMulX fun i j => .int (i * j)) := opI fun _ _ _ _ _ _ _ hc q => by
  rcases hc with hc | hc
  · exact mul_int q hc.ok
  · exact mul_int q hc.ok
theorem op_fdivX : OpR X (binaryOp .FloorDiv) (rI CDivW fun i j => .int (i / j)) := op_fdivW
theorem op_modX : OpR X (binaryOp .Mod) (rI (fun _ j => 0 < j) fun i j => .int (i % j)) := opI fun i j _ _ _ _ _ hc q => by
  refine mod_int' (show j ≠ 0 by omega) ?_
  rw [Int.fmod_eq_emod_of_nonneg i (by omega)]
  exact q
def ipC (C : Int → Int → Prop) (f : Int → Int → Int) : TIp := fun x y H Q => ∃ i j, x = .int i ∧ y = .int j ∧ C i j ∧ Q (.int (f i j)) H
theorem ip_mulX : PIp X .Mult (ipC CMulX fun i j => i * j) := by
  intro pins s σ H x y v u Q I r1 r2 h
  obtain ⟨i, j, rfl, rfl, hc, q⟩ := h
  obtain ⟨t, rfl⟩ := r1
  obtain ⟨t', rfl⟩ := r2
  have ok : IntMulOk i j := by
    rcases hc with hc | hc
    · exact hc.ok
    · exact hc.ok
  exact imul_int ⟨.int (i * j), H, I.tok _, ⟨_, rfl⟩, q⟩ ok
end
end BC

/-! ### readings opened one construct at a time: full applications alone, so that what stands in a loop is left closed -/
namespace BC
open PySem PySem.Spec PyProof.Rows L2
section
variable {K : PySem.W.Frag} {σ : L2.St} {H : Hp} {Q : VK} {QT : Bool → Hp → Prop} {QA : List V → Hp → Prop} {D : Ends} {ta tb tc : TE} {t u : TT} {a : TA} {r r' : R2} {i j : Nat} {v x y : V} {s1 s2 : TS} {g : TG} {QG : L2.St → Hp → Prop}
def LoopG (J : It) (g : TG) (tb : TS) : TS := fun D σ H => ∃ W : Nat → Nat → L2.St → Hp → Prop, (∃ m, W 0 m σ H) ∧ ∀ i m σ H, W i m σ H →
  (J.stop i H ∧ D.nx σ H) ∨ (J.go i H ∧ ∃ N : L2.St → Hp → Prop, (∀ σ' H', N σ' H' → ∃ m', m' < m ∧ W (i + 1) m' σ' H') ∧ ∀ x H', J.yld i H x H' → g x σ H' fun σ2 H2 => tb { D with nx := N, ct := N, bk := D.nx } σ2 H2)
def LcG (J : It) (g : TG) (tt : TT) (te : TE) (vs : List Nat) (σ : L2.St) (Dl : Addr) (H1 : Hp) (Q : VK) : Prop := ∃ W : Nat → Nat → Hp → Prop, (∃ m, W 0 m (upd H1 Dl (.lst []))) ∧ ∀ i m H, W i m H →
  (J.stop i H ∧ Q (.ref Dl) H) ∨ (J.go i H ∧ ∃ Nx : Hp → Prop, (∀ H', Nx H' → ∃ m', m' < m ∧ W (i + 1) m' H') ∧ ∀ x H', J.yld i H x H' → g x (wipe σ vs) H' fun σ2 H2 => wipe σ2 vs = wipe σ vs ∧ tt σ2 H2 fun b H3 =>
    if b = true then te σ2 H3 fun y H4 => ∃ acc, H4 Dl = some (.lst acc) ∧ acc.length < sizeLine ∧ Nx (upd H4 Dl (.lst (acc ++ [y]))) else Nx H3)
theorem x_seq : tSeq s1 s2 D σ H = s1 { D with nx := s2 D } σ H := rfl
theorem x_next : tNext D σ H = D.nx σ H := rfl
theorem x_brk : tBreak D σ H = D.bk σ H := rfl
theorem x_cnt : tCont D σ H = D.ct σ H := rfl
theorem x_nev : tNever D σ H = False := rfl
theorem x_ret : tRet ta D σ H = ta σ H D.rt := rfl
theorem x_retN : tRetN D σ H = D.rt .non H := rfl
theorem x_drop : tDrop ta D σ H = ta σ H (fun _ H1 => D.nx σ H1) := rfl
theorem x_ifS : tIfS t s1 s2 D σ H = t σ H (fun b H1 => if b = true then s1 D σ H1 else s2 D σ H1) := rfl
theorem x_asg : tAsg ta g D σ H = ta σ H (fun x H1 => g x σ H1 D.nx) := rfl
theorem x_gn : gName i v σ H QG = QG (σ.set i (some v)) H := rfl
theorem x_gsub {o ix : TE} {st : TSet} : gSub o ix st v σ H QG = o σ H (fun o H1 => ix σ H1 fun i H2 => st o i v H2 fun H3 => QG σ H3) := rfl
theorem x_par : tPar i j a D σ H = a σ H (fun vs H1 => ∃ v w, vs = [v, w] ∧ D.nx ((σ.set i (some v)).set j (some w)) H1) := rfl
theorem x_par3 {l : Nat} : tPar3 i j l a D σ H = a σ H (fun vs H1 => ∃ u v w, vs = [u, v, w] ∧ D.nx (((σ.set i (some u)).set j (some v)).set l (some w)) H1) := rfl
theorem x_aug {ti : TIp} : tAug i ta ti D σ H = ∃ x, σ[i]? = some (some x) ∧ ta σ H fun y H1 => ti x y H1 fun z H2 => D.nx (σ.set i (some z)) H2 := rfl
theorem x_for {wi : TI} : tFor wi g s1 D σ H = wi σ H (fun J H1 => LoopG J g s1 D σ H1) := rfl
theorem x_lc {wi : TI} {vs : List Nat} : tLc wi g t ta vs σ H Q = wi σ H (fun J H1 => ∀ Dl, H1 Dl = none → LcG J g t ta vs σ Dl H1 Q) := rfl
theorem x_rng1 {R : It → Hp → Prop} : iRng1 a σ H R = a σ H (fun vs H1 => ∃ j : Int, vs = [.int j] ∧ -(2 ^ 62) ≤ j ∧ j < 2 ^ 62 ∧ R (Itr 0 j.toNat) H1) := rfl
theorem x_rng2 {R : It → Hp → Prop} : iRng2 a σ H R = a σ H (fun vs H1 => ∃ i j : Int, vs = [.int i, .int j] ∧ (-(2 ^ 62) ≤ i ∧ i < 2 ^ 62 ∧ -(2 ^ 62) ≤ j ∧ j < 2 ^ 62) ∧ R (Itr i (j - i).toNat) H1) := rfl
theorem x_rng3 {R : It → Hp → Prop} : iRng3 a σ H R = a σ H (fun vs H1 => ∃ (i j c : Int) (n : Nat), vs = [.int i, .int j, .int c] ∧ RgC i j c n ∧ R (Itc i c n) H1) := rfl
theorem x_ilist {R : It → Hp → Prop} : iList K ta σ H R = ta σ H (fun x H1 => ∃ a, x = .ref a ∧ (∃ xs, SqL K H1 a xs) ∧ R (Itl K a) H1) := rfl
theorem x_itup {R : It → Hp → Prop} : iTup K ta σ H R = ta σ H (fun x H1 => ∃ a, x = .ref a ∧ (∃ xs, SqT K H1 a xs) ∧ R (Itt K a) H1) := rfl
theorem x_ienum {R : It → Hp → Prop} : iEnum K a σ H R = a σ H (fun vs H1 => ∃ a xs, vs = [.ref a] ∧ SqL K H1 a xs ∧ R (Ite K a) H1) := rfl
theorem x_izip {R : It → Hp → Prop} : iZip K a σ H R = a σ H (fun vs H1 => ∃ a b xs ys, vs = [.ref a, .ref b] ∧ SqL K H1 a xs ∧ SqL K H1 b ys ∧ R (Itz K a b) H1) := rfl
theorem x_istr {R : It → Hp → Prop} : iStr ta σ H R = ta σ H (fun v H1 => ∃ x, v = .str x ∧ R (Its x) H1) := rfl
theorem x_var : tVar i σ H Q = ∃ v, σ[i]? = some (some v) ∧ Q v H := rfl
theorem x_c : tC v σ H Q = Q v H := rfl
theorem x_op : tOp r ta tb σ H Q = ta σ H (fun x H1 => tb σ H1 fun y H2 => r x y H2 Q) := rfl
theorem x_un {ru : V → Hp → VK → Prop} : tUn ru ta σ H Q = ta σ H (fun x H1 => ru x H1 Q) := rfl
theorem x_test : tTest ta σ H QT = ta σ H (fun x H' => ∃ k, x = .bl k ∧ QT k H') := rfl
theorem x_b : tB ta σ H QT = ta σ H (fun x H' => ∃ k, x = .bl k ∧ QT k H') := rfl
theorem x_chain : tChain r r' ta tb tc σ H Q = ta σ H (fun x H1 => tb σ H1 fun y H2 => r x y H2 fun z H3 => ∃ k, z = .bl k ∧ (if k = true then tc σ H3 fun w' H4 => r' y w' H4 Q else Q (.bl false) H3)) := rfl
theorem x_and : tAnd t u σ H QT = t σ H (fun c H1 => if c = true then u σ H1 QT else QT false H1) := rfl
theorem x_or : tOr t u σ H QT = t σ H (fun c H1 => if c = true then QT true H1 else u σ H1 QT) := rfl
theorem x_not : tNot t σ H QT = t σ H (fun c H1 => QT (!c) H1) := rfl
theorem x_andV : tAndV ta tb σ H Q = ta σ H (fun x H1 => ∃ c, x = .bl c ∧ if c = true then tb σ H1 Q else Q (.bl false) H1) := rfl
theorem x_orV : tOrV ta tb σ H Q = ta σ H (fun x H1 => ∃ c, x = .bl c ∧ if c = true then Q (.bl true) H1 else tb σ H1 Q) := rfl
theorem x_notV : tNotV ta σ H Q = ta σ H (fun x H1 => ∃ c, x = .bl c ∧ Q (.bl (!c)) H1) := rfl
theorem x_ife : tIf t ta tb σ H Q = t σ H (fun c H1 => if c = true then ta σ H1 Q else tb σ H1 Q) := rfl
theorem x_nil : tNil σ H QA = QA [] H := rfl
theorem x_cons {rest : TA} : tCons ta rest σ H QA = ta σ H (fun x H1 => rest σ H1 fun xs H2 => QA (x :: xs) H2) := rfl
theorem x_lst : tLst a σ H Q = a σ H (fun xs H1 => xs.length ≤ sizeLine ∧ ∀ p, H1 p = none → Q (.ref p) (upd H1 p (.lst xs))) := rfl
theorem x_tup : tTup a σ H Q = a σ H (fun xs H1 => xs.length ≤ sizeLine ∧ ∀ p, H1 p = none → Q (.ref p) (upd H1 p (.tup xs))) := rfl
theorem x_cb {rc : List V → Hp → VK → Prop} : tCB rc a σ H Q = a σ H (fun vs H1 => rc vs H1 Q) := rfl
theorem x_call {sp : Sp} {dvs : List V} {E : XK} : tCall sp dvs E a σ H Q = a σ H (fun vs H1 => sp (vs ++ dvs) H1 Q E) := rfl
theorem x_callK {sp : Sp} {gV : List V → List V → List V} {E : XK} {b : TA} : tCallK sp gV E a b σ H Q = a σ H (fun vs H1 => b σ H1 fun zs H2 => sp (gV vs zs) H2 Q E) := rfl
theorem x_bm {T : String} {rm : V → List V → Hp → VK → Prop} : tBM K T rm ta a σ H Q = ta σ H (fun x H1 => tyV K T x H1 ∧ a σ H1 fun xs H2 => rm x xs H2 Q) := rfl
theorem x_bm0 {T : String} {rm : V → List V → Hp → VK → Prop} : tBM0 K T rm ta σ H Q = ta σ H (fun x H1 => tyV K T x H1 ∧ rm x [] H1 Q) := rfl
theorem x_sl {rs : V → Option Int → Option Int → Hp → VK → Prop} {tl th : TO} : tSl rs ta tl th σ H Q = ta σ H (fun x H1 => tl σ H1 fun l H2 => th σ H2 fun u H3 => rs x l u H3 Q) := rfl
theorem x_nopart {QO : Option Int → Hp → Prop} : tNoPart σ H QO = QO none H := rfl
theorem x_part {QO : Option Int → Hp → Prop} : tPart ta σ H QO = ta σ H (fun x H1 => ∃ i, x = .int i ∧ QO (some i) H1) := rfl
theorem x_revL : tRevL K ta σ H Q = ta σ H (fun x H1 => ∃ a xs, x = .ref a ∧ SqL K H1 a xs ∧ ∀ p, H1 p = none → Q (.ref p) (upd H1 p (.lst xs.reverse))) := rfl
theorem x_I0 {f : Int → Int → V} {m n : Int} : rI0 f (.int m) (.int n) H Q ↔ Q (f m n) H := ⟨fun ⟨i, j, e1, e2, q⟩ => by cases e1; cases e2; exact q, fun q => ⟨m, n, rfl, rfl, q⟩⟩
theorem x_I {C : Int → Int → Prop} {f : Int → Int → V} {m n : Int} : rI C f (.int m) (.int n) H Q ↔ C m n ∧ Q (f m n) H := ⟨fun ⟨i, j, e1, e2, q⟩ => by cases e1; cases e2; exact q, fun q => ⟨m, n, rfl, rfl, q⟩⟩
theorem x_U {f : Int → V} {m : Int} : rU f (.int m) H Q ↔ Q (f m) H := ⟨fun ⟨i, e1, q⟩ => by cases e1; exact q, fun q => ⟨m, rfl, q⟩⟩
theorem x_ip {f : Int → Int → Int} {m n : Int} : ipI f (.int m) (.int n) H Q ↔ Q (.int (f m n)) H := ⟨fun ⟨i, j, e1, e2, q⟩ => by cases e1; cases e2; exact q, fun q => ⟨m, n, rfl, rfl, q⟩⟩
theorem x_ipC {C : Int → Int → Prop} {f : Int → Int → Int} {m n : Int} : ipC C f (.int m) (.int n) H Q ↔ C m n ∧ Q (.int (f m n)) H := ⟨fun ⟨i, j, e1, e2, q⟩ => by cases e1; cases e2; exact q, fun q => ⟨m, n, rfl, rfl, q⟩⟩
theorem x_eqI {m n : Int} : rEq (.int m) (.int n) H Q ↔ Q (.bl (decide (m = n))) H := by
  unfold rEq
  rw [show scal (V.int m) (V.int n) = true from rfl]
  by_cases e : m = n
  · subst e; simp
  · simp [e]
theorem x_neI {m n : Int} : rNe (.int m) (.int n) H Q ↔ Q (.bl (!decide (m = n))) H := by
  unfold rNe
  rw [show scal (V.int m) (V.int n) = true from rfl]
  by_cases e : m = n
  · subst e; simp
  · simp [e]
end
/-! ### the rules that speak of the written part, by its own name -/
section
variable {X : Cx} {K : PySem.W.Frag}
theorem k_pi_list {tg l : Expr} {tl : TE} (hK : X.K = K) (hl : PE X l tl) : PI X tg l (iList K tl) := by subst hK; exact pi_list hl
theorem k_pi_tup {tg l : Expr} {tl : TE} (hK : X.K = K) (hl : PE X l tl) : PI X tg l (iTup K tl) := by subst hK; exact pi_tup hl
theorem k_pi_enum {e : Expr} {ta : TA} {p pos tpos : Pos} {elts : List Expr} {kk : Nat} (hK : X.K = K) (hg : Gl X "enumerate") (hm : X.mg "enumerate" = none) (ha : PA X [e] ta) (hs : starEach [e] X.env = [(false, eval e X.env)] := by rfl) : PI X (.Tuple elts kk tpos) (.Call (.Name "enumerate" p) [e] [] pos) (iEnum K ta) := by subst hK; exact pi_enum hg hm ha hs
theorem k_pi_zip {e e2 : Expr} {ta : TA} {p pos tpos : Pos} {elts : List Expr} {kk : Nat} (hK : X.K = K) (hg : Gl X "zip") (hm : X.mg "zip" = none) (ha : PA X [e, e2] ta)
    (hs : starEach [e, e2] X.env = (false, eval e X.env) :: starEach [e2] X.env := by rfl) (hpl : (backTo pos (starEach [e2] X.env)).any (·.1) = false := by rfl) : PI X (.Tuple elts kk tpos) (.Call (.Name "zip" p) [e, e2] [] pos) (iZip K ta) := by subst hK; exact pi_zip hg hm ha hs hpl
theorem k_ix_list (hK : X.K = K) : IxR X (rIxL K) := by subst hK; exact ix_list
theorem k_ix_tup (hK : X.K = K) : IxR X (rIxT K) := by subst hK; exact ix_tup
theorem k_sl_list (hK : X.K = K) : SlR X (rSlL K) := by subst hK; exact sl_list
theorem k_in (hK : X.K = K) : OpR X (compareOp .In) (rIn K false) := by subst hK; exact op_in_seq
theorem k_notIn (hK : X.K = K) : OpR X (compareOp .NotIn) (rIn K true) := by subst hK; exact op_notIn_seq
theorem k_eqD (hK : X.K = K) (hu : X.A.units + 64 < cLine) : OpR X (compareOp .Eq) (rEqD K) := by subst hK; exact op_eqD hu
theorem k_neD (hK : X.K = K) (hu : X.A.units + 64 < cLine) : OpR X (compareOp .NotEq) (rNeD K) := by subst hK; exact op_neD hu
def rLen (K : PySem.W.Frag) : List V → Hp → VK → Prop := fun xs H Q => ∃ p ys, xs = [.ref p] ∧ (SqL K H p ys ∨ SqT K H p ys) ∧ Q (.int ys.length) H
def rListOf (K : PySem.W.Frag) : List V → Hp → VK → Prop := fun xs H Q => ∃ p ys, xs = [.ref p] ∧ (SqL K H p ys ∨ SqT K H p ys) ∧ ∀ l, H l = none → Q (.ref l) (upd H l (.lst ys))
def rTupOf (K : PySem.W.Frag) : List V → Hp → VK → Prop := fun xs H Q => ∃ p ys, xs = [.ref p] ∧ ((SqL K H p ys ∧ ∀ l, H l = none → Q (.ref l) (upd H l (.tup ys))) ∨ (SqT K H p ys ∧ Q (.ref p) H))
theorem k_len (hK : X.K = K) : CallR X (.builtin "len") (rLen K) := by subst hK; exact call_len_seq
theorem k_listOf (hK : X.K = K) : CallR X (.type "list") (rListOf K) := by subst hK; exact call_list_of
theorem k_tupOf (hK : X.K = K) : CallR X (.type "tuple") (rTupOf K) := by subst hK; exact call_tuple_of
theorem k_isi (hK : X.K = K) : CallR X (.builtin "isinstance") (rIsi K) := by subst hK; exact call_isi
theorem k_sum (hK : X.K = K) (hc : X.calm = true) : CallR X (.builtin "sum") (rSum K) := by subst hK; exact cr_sum hc
theorem k_all (hK : X.K = K) (hc : X.calm = true) : CallR X (.builtin "all") (rAll K) := by subst hK; exact cr_all hc
theorem k_any (hK : X.K = K) (hc : X.calm = true) : CallR X (.builtin "any") (rAny K) := by subst hK; exact cr_any hc
theorem k_sorted (hK : X.K = K) : CallR X (.builtin "sorted") (rSorted K) := by subst hK; exact cr_sorted
def tTruK (K : PySem.W.Frag) (ta : TE) : TT := fun σ H Q => ta σ H fun x H' => ∃ k, TruV K x H' k ∧ Q k H'
theorem k_truth {a : Expr} {ta : TE} (hK : X.K = K) (ha : PE X a ta) (he : ∀ whole, isTrue a X.env whole = (do let v ← whole; standAt a.pos; holding [v] (truthy v))) : PT X a (tTruK K ta) := by subst hK; exact pt_truth ha he
theorem k_tup {es : List Expr} {k n : Nat} {pos : Pos} {t : TGs} (hK : X.K = K) (hc : X.calm = true) (h : PGs X es t)
    (hn : (assignEach es X.env).length = n := by rfl) (hst : (assignEach es X.env).findIdx? (·.1) = none := by rfl) : PG X (.Tuple es k pos) (gTup K n t) := by subst hK; exact pg_tup hc h hn hst
theorem k_bm0 {T : String} {to : TE} {r : V → List V → Hp → VK → Prop} {e : Expr} (hK : X.K = K) (h : PE X e (tBM0 X.K T r to)) : PE X e (tBM0 K T r to) := by subst hK; exact h
theorem k_bm {T : String} {to : TE} {ta : TA} {r : V → List V → Hp → VK → Prop} {e : Expr} (hK : X.K = K) (h : PE X e (tBM X.K T r to ta)) : PE X e (tBM K T r to ta) := by subst hK; exact h
theorem k_rev {e : Expr} {te : TE} {k : Nat} {p1 p2 p3 pos : Pos} (hK : X.K = K) (he : PE X e te) : PE X (.Subscript e (.Slice none none (some (.UnaryOp .USub (.Constant (.int 1) k p1) p2)) p3) pos) (tRevL K te) := by subst hK; exact pe_revL he
theorem k_index (hK : X.K = K) : MtR X "list.index" (rIndex K) := by subst hK; exact mt_index
end
section
variable {K : PySem.W.Frag} {σ : L2.St} {H : Hp} {ta : TE} {QT : Bool → Hp → Prop}
theorem x_tru : tTruK K ta σ H QT = ta σ H (fun x H' => ∃ k, TruV K x H' k ∧ QT k H') := rfl
end
/-! ### loops -/
section
variable {K : PySem.W.Frag} {σ : L2.St} {H : Hp} {D : Ends} {g : TG} {tb : TS}
theorem lg_rng {lo : Int} {n : Nat} (Pv : Nat → L2.St → Hp → Prop) (h0 : Pv 0 σ H)
    (hs : ∀ i σ H, i < n → Pv i σ H → g (.int (lo + i)) σ H fun σ2 H2 => tb { D with nx := Pv (i + 1), ct := Pv (i + 1), bk := D.nx } σ2 H2) (hd : ∀ σ H, Pv n σ H → D.nx σ H) : LoopG (Itr lo n) g tb D σ H := for_range Pv h0 hs hd
theorem lg_rngC {lo c : Int} {n : Nat} (Pv : Nat → L2.St → Hp → Prop) (h0 : Pv 0 σ H)
    (hs : ∀ i σ H, i < n → Pv i σ H → g (.int (lo + (i : Nat) * c)) σ H fun σ2 H2 => tb { D with nx := Pv (i + 1), ct := Pv (i + 1), bk := D.nx } σ2 H2) (hd : ∀ σ H, Pv n σ H → D.nx σ H) : LoopG (Itc lo c n) g tb D σ H := for_rangeC Pv h0 hs hd
theorem lg_list {a : Addr} {xs : List V} (Pv : Nat → L2.St → Hp → Prop) (h0 : Pv 0 σ H) (hl : ∀ i σ H, i ≤ xs.length → Pv i σ H → SqL K H a xs)
    (hs : ∀ i x σ H, xs[i]? = some x → Pv i σ H → g x σ H fun σ2 H2 => tb { D with nx := Pv (i + 1), ct := Pv (i + 1), bk := D.nx } σ2 H2) (hd : ∀ σ H, Pv xs.length σ H → D.nx σ H) : LoopG (Itl K a) g tb D σ H := for_list Pv h0 hl hs hd
/-- enumerate over a list that stands still: each pair is a new tuple -/
theorem lg_enum {a : Addr} {xs : List V} (Pv : Nat → L2.St → Hp → Prop) (h0 : Pv 0 σ H) (hl : ∀ i σ H, i ≤ xs.length → Pv i σ H → SqL K H a xs)
    (hs : ∀ i x σ H T, xs[i]? = some x → Pv i σ H → H T = none → g (.ref T) σ (upd H T (.tup [.int (i : Nat), x])) fun σ2 H2 => tb { D with nx := Pv (i + 1), ct := Pv (i + 1), bk := D.nx } σ2 H2) (hd : ∀ σ H, Pv xs.length σ H → D.nx σ H) : LoopG (Ite K a) g tb D σ H := by
  refine ⟨fun i m σ H => m = xs.length - i ∧ i ≤ xs.length ∧ Pv i σ H, ⟨xs.length, by simp, Nat.zero_le _, h0⟩, ?_⟩
  rintro i m σ H ⟨rfl, hi, p⟩
  have q := hl i σ H hi p
  by_cases hlt : i < xs.length
  · refine .inr ⟨⟨xs, xs[i], q, by simp [hlt]⟩, Pv (i + 1), fun σ' H' p' => ⟨xs.length - (i + 1), by omega, rfl, hlt, p'⟩, fun x H' y => ?_⟩
    obtain ⟨T, x', rfl, hT, rfl, f⟩ := y
    exact hs i x' σ H T (f xs q) p hT
  · have e : i = xs.length := by omega
    subst e
    exact .inl ⟨⟨xs, q, Nat.le_refl _⟩, hd σ H p⟩
/-- a pair unpacked -/
theorem g_two {i j : Nat} {T : Addr} {x y : V} {QG : L2.St → Hp → Prop} (h : H T = some (.tup [x, y])) (q : QG ((σ.set i (some x)).set j (some y)) H) : gTup K 2 (gCons (gName i) (gCons (gName j) gNil)) (.ref T) σ H QG :=
  ⟨T, [x, y], rfl, .inl (.inl h), rfl, x, [y], rfl, y, [], rfl, rfl, q⟩
end
/-! ### comprehensions over lists whose elements are given by a function of the turn -/
section
variable {K : PySem.W.Frag} {σ : L2.St} {H1 : Hp} {g : TG} {tt : TT} {te : TE} {vs : List Nat} {Dl : Addr} {Q : VK}
theorem lc_g (n : Nat) {J : It} (Pv : Nat → Hp → Prop) (h0 : Pv 0 (upd H1 Dl (.lst []))) (hst : ∀ H, Pv n H → J.stop n H) (hgo : ∀ i H, i < n → Pv i H → J.go i H)
    (hs : ∀ i H x H', i < n → Pv i H → J.yld i H x H' → g x (wipe σ vs) H' fun σ2 H2 => wipe σ2 vs = wipe σ vs ∧ tt σ2 H2 fun b H3 =>
      if b = true then te σ2 H3 fun y H4 => ∃ acc, H4 Dl = some (.lst acc) ∧ acc.length < sizeLine ∧ Pv (i + 1) (upd H4 Dl (.lst (acc ++ [y]))) else Pv (i + 1) H3) (hd : ∀ H, Pv n H → Q (.ref Dl) H) : LcG J g tt te vs σ Dl H1 Q := by
  refine ⟨fun i m H => m = n - i ∧ i ≤ n ∧ Pv i H, ⟨n, by simp, Nat.zero_le _, h0⟩, ?_⟩
  rintro i m H ⟨rfl, hi, p⟩
  by_cases hlt : i < n
  · exact .inr ⟨hgo i H hlt p, Pv (i + 1), fun H' p' => ⟨n - (i + 1), by omega, rfl, hlt, p'⟩, fun x H' y => hs i H x H' hlt p y⟩
  · have e : i = n := by omega
    subst e
    exact .inl ⟨hst H p, hd H p⟩
end
/-! ### comprehensions that change nothing -/
section
variable {K : PySem.W.Frag} {σ : L2.St} {H1 : Hp} {g : TG} {tt : TT} {te : TE} {vs : List Nat} {Dl : Addr} {Q : VK}
def kept (n : Nat) (keep : Nat → Bool) (f : Nat → V) : List V := ((List.range n).filter keep).map f
theorem kept_yes {n : Nat} {k : Nat → Bool} {f : Nat → V} (h : k n = true) : kept (n + 1) k f = kept n k f ++ [f n] := by
  unfold kept
  rw [List.range_succ, List.filter_append, List.map_append]
  simp [h]
theorem kept_no {n : Nat} {k : Nat → Bool} {f : Nat → V} (h : k n = false) : kept (n + 1) k f = kept n k f := by
  unfold kept
  rw [List.range_succ, List.filter_append, List.map_append]
  simp [h]
theorem kept_len (n : Nat) (k : Nat → Bool) (f : Nat → V) : (kept n k f).length ≤ n := by
  unfold kept
  rw [List.length_map]
  exact Nat.le_trans (List.length_filter_le _ _) (by rw [List.length_range]; exact Nat.le_refl _)
theorem kept_all (n : Nat) (f : Nat → V) : kept n (fun _ => true) f = (List.range n).map f := by
  unfold kept
  rw [List.filter_eq_self.mpr (by simp)]
theorem lc_pure {J : It} (n : Nat) (item : Nat → L2.St) (keep : Nat → Bool) (f : Nat → V) (hD : H1 Dl = none) (hn : n ≤ 100000)
    (hst : ∀ H', Evl.Ex H1 H' → J.stop n H') (hgo : ∀ i H', i < n → Evl.Ex H1 H' → J.go i H')
    (hy : ∀ i H' x H'' (QG : L2.St → Hp → Prop), i < n → Evl.Ex H1 H' → J.yld i H' x H'' → (Evl.Ex H' H'' → QG (item i) H'') → g x (wipe σ vs) H'' QG)
    (hw : ∀ i, i < n → wipe (item i) vs = wipe σ vs) (ht : ∀ i, i < n → Evl.EvT tt (item i) H1 (keep i)) (he : ∀ i, i < n → keep i = true → Evl.Ev te (item i) H1 (f i))
    (hd : ∀ H', Evl.Ex H1 H' → H' Dl = some (.lst (kept n keep f)) → Q (.ref Dl) H') : LcG J g tt te vs σ Dl H1 Q := by
  refine lc_g n (fun i H' => Evl.Ex H1 H' ∧ H' Dl = some (.lst (kept i keep f))) ⟨Evl.Ex.new hD, upd_same⟩ (fun H' h => hst H' h.1) (fun i H' hi h => hgo i H' hi h.1) (fun i H' x H'' hi h y => ?_) (fun H' h => hd H' h.1 h.2)
  obtain ⟨e, hl⟩ := h
  refine hy i H' x H'' _ hi e y fun e2 => ⟨hw i hi, ht i hi H'' (e.trans e2) _ fun H3 e3 => ?_⟩
  have hl3 := e3 _ _ (e2 _ _ hl)
  cases hk : keep i with
  | false =>
    show (if false = true then _ else _)
    rw [if_neg Bool.false_ne_true, kept_no hk]
    exact ⟨(e.trans e2).trans e3, hl3⟩
  | true =>
    show (if true = true then _ else _)
    rw [if_pos rfl]
    refine he i hi hk H3 ((e.trans e2).trans e3) _ fun H4 e4 => ⟨_, e4 _ _ hl3, Nat.lt_of_lt_of_le (Nat.lt_of_le_of_lt (kept_len i keep f) hi) (Nat.le_trans hn (by decide)), ?_⟩
    rw [kept_yes hk]
    exact ⟨(((e.trans e2).trans e3).trans e4).mut hD, upd_same⟩
theorem tyes {σ : L2.St} {H : Hp} : Evl.EvT tYes σ H true := fun H1 _ _ q => q H1 (Evl.Ex.refl H1)
theorem lc_enum {a : Addr} {xs : List V} {j k : Nat} (keep : Nat → Bool) (f : Nat → V) (hx : SqL K H1 a xs) (hD : H1 Dl = none) (hn : xs.length ≤ 100000)
    (hw : ∀ u v : V, wipe (((wipe σ vs).set j (some u)).set k (some v)) vs = wipe σ vs)
    (ht : ∀ i x, xs[i]? = some x → Evl.EvT tt (((wipe σ vs).set j (some (.int (i : Nat)))).set k (some x)) H1 (keep i))
    (he : ∀ i x, xs[i]? = some x → keep i = true → Evl.Ev te (((wipe σ vs).set j (some (.int (i : Nat)))).set k (some x)) H1 (f i))
    (hd : ∀ H', Evl.Ex H1 H' → H' Dl = some (.lst (kept xs.length keep f)) → Q (.ref Dl) H') : LcG (Ite K a) (gTup K 2 (gCons (gName j) (gCons (gName k) gNil))) tt te vs σ Dl H1 Q := by
  refine lc_pure xs.length (fun i => ((wipe σ vs).set j (some (.int (i : Nat)))).set k (some (xs.getD i .non))) keep f hD hn (fun H' e => ⟨xs, Evl.ex_l e hx, Nat.le_refl _⟩) (fun i H' hi e => ⟨xs, xs[i], Evl.ex_l e hx, List.getElem?_eq_getElem hi⟩)
    (fun i H' x H'' QG hi e y q => ?_) (fun i hi => hw _ _) (fun i hi => ht i _ (by rw [List.getD_eq_getElem?_getD, List.getElem?_eq_getElem hi]; rfl)) (fun i hi => he i _ (by rw [List.getD_eq_getElem?_getD, List.getElem?_eq_getElem hi]; rfl)) hd
  obtain ⟨T, v, rfl, hT, rfl, hf⟩ := y
  have hv := hf xs (Evl.ex_l e hx)
  have e1 : xs.getD i .non = v := by rw [List.getD_eq_getElem?_getD, hv]; rfl
  refine g_two upd_same ?_
  have q2 := q (Evl.Ex.new hT)
  rw [e1] at q2
  exact q2
theorem lc_list {a : Addr} {xs : List V} {j : Nat} (keep : Nat → Bool) (f : Nat → V) (hx : SqL K H1 a xs) (hD : H1 Dl = none) (hn : xs.length ≤ 100000)
    (hw : ∀ u : V, wipe ((wipe σ vs).set j (some u)) vs = wipe σ vs)
    (ht : ∀ i x, xs[i]? = some x → Evl.EvT tt ((wipe σ vs).set j (some x)) H1 (keep i))
    (he : ∀ i x, xs[i]? = some x → keep i = true → Evl.Ev te ((wipe σ vs).set j (some x)) H1 (f i))
    (hd : ∀ H', Evl.Ex H1 H' → H' Dl = some (.lst (kept xs.length keep f)) → Q (.ref Dl) H') : LcG (Itl K a) (gName j) tt te vs σ Dl H1 Q := by
  refine lc_pure xs.length (fun i => (wipe σ vs).set j (some (xs.getD i .non))) keep f hD hn (fun H' e => ⟨xs, Evl.ex_l e hx, Nat.le_refl _⟩) (fun i H' hi e => ⟨xs, xs[i], Evl.ex_l e hx, List.getElem?_eq_getElem hi⟩)
    (fun i H' x H'' QG hi e y q => ?_) (fun i hi => hw _) (fun i hi => ht i _ (by rw [List.getD_eq_getElem?_getD, List.getElem?_eq_getElem hi]; rfl)) (fun i hi => he i _ (by rw [List.getD_eq_getElem?_getD, List.getElem?_eq_getElem hi]; rfl)) hd
  obtain ⟨rfl, hf⟩ := y
  have hv := hf xs (Evl.ex_l e hx)
  have e1 : xs.getD i .non = x := by rw [List.getD_eq_getElem?_getD, hv]; rfl
  show QG _ _
  rw [← e1]
  exact q (Evl.Ex.refl _)
theorem lc_rng {lo : Int} {n j : Nat} (keep : Nat → Bool) (f : Nat → V) (hD : H1 Dl = none) (hn : n ≤ 100000)
    (hw : ∀ u : V, wipe ((wipe σ vs).set j (some u)) vs = wipe σ vs)
    (ht : ∀ i, i < n → Evl.EvT tt ((wipe σ vs).set j (some (.int (lo + i)))) H1 (keep i))
    (he : ∀ i, i < n → keep i = true → Evl.Ev te ((wipe σ vs).set j (some (.int (lo + i)))) H1 (f i))
    (hd : ∀ H', Evl.Ex H1 H' → H' Dl = some (.lst (kept n keep f)) → Q (.ref Dl) H') : LcG (Itr lo n) (gName j) tt te vs σ Dl H1 Q := by
  refine lc_pure n (fun i => (wipe σ vs).set j (some (.int (lo + i)))) keep f hD hn (fun H' e => Nat.le_refl _) (fun i H' hi e => hi)
    (fun i H' x H'' QG hi e y q => ?_) (fun i hi => hw _) ht he hd
  obtain ⟨rfl, rfl⟩ := y
  exact q (Evl.Ex.refl _)
end
/-! ### operations on values -/
section
variable {K : PySem.W.Frag} {H : Hp} {Q : VK}
theorem isi_int {i : Int} {T : String} {b : Bool} (h : kitB "int" T = some b) (q : Q (.bl b) H) : rIsi K [.int i, .ty T] H Q :=
  ⟨.int i, .ty T, .type "int", .type T, b, rfl, .ty T, .base (.int i), kit_ty h, q⟩
theorem ixL {p : Addr} {xs : List V} {i : Int} {v : V} (h : SqL K H p xs) (hi : atI xs i = some v) (q : Q v H) : rIxL K (.ref p) (.int i) H Q := ⟨p, xs, i, v, rfl, rfl, h, hi, q⟩
theorem setL {p : Addr} {xs : List V} {i : Int} {j : Nat} {v : V} {R : Hp → Prop} (h : H p = some (.lst xs)) (hj : ixN xs.length i = some j) (q : R (upd H p (.lst (xs.set j v)))) : rSetL (.ref p) (.int i) v H R := ⟨p, xs, i, j, rfl, rfl, h, hj, q⟩
theorem repL {p : Addr} {xs : List V} {k : Int} (h : H p = some (.lst xs)) (h1 : -(2 ^ 63) ≤ k) (h2 : k < 2 ^ 63) (hz : xs.length * k.toNat ≤ sizeLine) (q : ∀ l, H l = none → Q (.ref l) (upd H l (.lst (List.replicate k.toNat xs).flatten))) : rRep (.ref p) (.int k) H Q := ⟨p, k, xs, rfl, rfl, h, h1, h2, hz, q⟩
theorem catL {p b : Addr} {xs ys : List V} (h : H p = some (.lst xs)) (hb : H b = some (.lst ys)) (hz : xs.length + ys.length ≤ sizeLine) (q : ∀ l, H l = none → Q (.ref l) (upd H l (.lst (xs ++ ys)))) : rCat (.ref p) (.ref b) H Q := ⟨p, b, xs, ys, rfl, rfl, h, hb, hz, q⟩
theorem sumL {p : Addr} {ns : List Int} (h : SqL K H p (ns.map V.int)) (q : Q (.int ns.sum) H) : rSum K [.ref p] H Q := ⟨p, ns, rfl, h, q⟩
theorem appL {p : Addr} {xs : List V} {y : V} (h : H p = some (.lst xs)) (hz : xs.length < sizeLine) (q : Q .non (upd H p (.lst (xs ++ [y])))) : rAppend (.ref p) [y] H Q := ⟨p, xs, y, rfl, rfl, h, hz, q⟩
theorem tyL {p : Addr} {xs : List V} (h : H p = some (.lst xs)) : tyV K "list" (.ref p) H := Or.inl ⟨rfl, _, Or.inl (Or.inl h)⟩
theorem atI_n {xs : List V} {i : Int} {j : Nat} {v : V} (e : i = (j : Int)) (h : xs[j]? = some v) : atI xs i = some v := by
  subst e
  have hj := (List.getElem?_eq_some_iff.mp h).1
  unfold atI ixN
  rw [if_pos (by omega), if_pos (by omega)]
  exact h
theorem ixN_n {n : Nat} {i : Int} {j : Nat} (e : i = (j : Int)) (h : j < n) : ixN n i = some j := by
  subst e
  unfold ixN
  rw [if_pos (by omega), if_pos (by omega)]
  rfl
theorem sz_ok {n : Nat} (h : n ≤ 100000) : n ≤ sizeLine := Nat.le_trans h (by decide)
theorem sz_lt {n : Nat} (h : n < 100000) : n < sizeLine := Nat.lt_of_lt_of_le h (by decide)
end
end BC

set_option Elab.async false
set_option linter.all false
set_option maxRecDepth 100000
set_option maxHeartbeats 4000000
namespace BC
open PySem PySem.Spec PyProof.Rows L2 Evl RZ
/-! ### all but the object at b stands -/
def Fx (b : Addr) (H H' : Hp) : Prop := ∀ a o, a ≠ b → H a = some o → H' a = some o
theorem Fx.refl (b : Addr) (H : Hp) : Fx b H H := fun _ _ _ h => h
theorem Fx.trans {b : Addr} {H H1 H2 : Hp} (x : Fx b H H1) (y : Fx b H1 H2) : Fx b H H2 := fun a o n h => y a o n (x a o n h)
theorem Fx.of {b : Addr} {H H' : Hp} (e : Ex H H') : Fx b H H' := fun a o _ h => e a o h
theorem Fx.put {b : Addr} {H : Hp} {o : HO} : Fx b H (upd H b o) := fun a u n h => by rw [upd_ne n]; exact h
theorem Fx.ex {b : Addr} {H H' : Hp} (x : Fx b H H') (h : H b = none) : Ex H H' := fun a o e => x a o (ne_of_none e h) e
theorem Fx.l {K : PySem.W.Frag} {b a : Addr} {H H' : Hp} {xs : List V} (x : Fx b H H') (n : a ≠ b) (h : SqL K H a xs) : SqL K H' a xs := by
  rcases h with h | h
  · rcases h with h | ⟨o, h⟩
    · exact .inl (.inl (x a _ n h))
    · exact .inl (.inr ⟨o, x a _ n h⟩)
  · exact .inr h
/-! ### lists -/
theorem cutV_mem {xs : List V} {lo hi : Option Int} {x : V} (h : x ∈ cutV xs lo hi) : x ∈ xs := by
  unfold cutV at h
  exact List.mem_of_mem_drop (List.mem_of_mem_take h)
theorem cutV_len (xs : List V) (lo hi : Option Int) : (cutV xs lo hi).length ≤ xs.length := by
  unfold cutV
  rw [List.length_take, List.length_drop]
  omega
theorem two_at0 {x y r : Int} {n : Nat} (h0 : 0 ≤ r) (h1 : r < 2) (hx0 : 0 ≤ x) (hx1 : x ≤ n) (hy0 : 0 ≤ y) (hy1 : y ≤ n) : ∃ m : Nat, m ≤ n ∧ atI [V.int x, V.int y] r = some (.int m) := by
  by_cases e : r = 0
  · exact ⟨x.toNat, by omega, by rw [Int.toNat_of_nonneg hx0]; exact atI_n (j := 0) e rfl⟩
  · exact ⟨y.toNat, by omega, by rw [Int.toNat_of_nonneg hy0]; exact atI_n (j := 1) (by omega) rfl⟩
theorem two_at {x y r : Int} {n : Nat} (h0 : 0 ≤ r) (h1 : r < 2) (hx0 : 1 ≤ x) (hx1 : x ≤ n) (hy0 : 1 ≤ y) (hy1 : y ≤ n) : ∃ m : Nat, 1 ≤ m ∧ m ≤ n ∧ atI [V.int x, V.int y] r = some (.int m) := by
  by_cases e : r = 0
  · exact ⟨x.toNat, by omega, by omega, by rw [Int.toNat_of_nonneg (by omega)]; exact atI_n (j := 0) e rfl⟩
  · exact ⟨y.toNat, by omega, by omega, by rw [Int.toNat_of_nonneg (by omega)]; exact atI_n (j := 1) (by omega) rfl⟩
/-- a written list read at a drawn place -/
theorem pick {xs : List V} {r : Int} (h0 : 0 ≤ r) (h1 : r < xs.length) : ∃ v, v ∈ xs ∧ atI xs r = some v := by
  have hj : r.toNat < xs.length := by omega
  exact ⟨xs[r.toNat], List.getElem_mem hj, atI_n (j := r.toNat) (by omega) (List.getElem?_eq_getElem hj)⟩
theorem rep_one (n : Nat) (v : V) : (List.replicate n [v]).flatten = List.replicate n v := by
  induction n with
  | zero => rfl
  | succ n ih => rw [List.replicate_succ, List.flatten_cons, ih]; rfl
theorem take_succ {xs : List V} {i : Nat} {v : V} (h : xs[i]? = some v) : xs.take (i + 1) = xs.take i ++ [v] := by
  rw [List.take_add_one, h]
  rfl
theorem log2_small {i : Int} {k : Nat} (hk : 0 < k) (h : i.natAbs < 2 ^ k) : i.natAbs.log2 < k := PySem.Flt.log2_lt_of hk h
/-! ### kinds -/
section
variable {X : Cx} {K : PySem.W.Frag} {H : Hp} {Q : VK}
theorem k_pi_zipA {e e2 : Expr} {ta : TA} {p pos tpos : Pos} {elts : List Expr} {kk : Nat} (hK : X.K = K) (hg : Gl X "zip") (hm : X.mg "zip" = none) (ha : PA X [e, e2] ta)
    (hs : starEach [e, e2] X.env = (false, eval e X.env) :: starEach [e2] X.env := by rfl) (hpl : (backTo pos (starEach [e2] X.env)).any (·.1) = false := by rfl) : PI X (.Tuple elts kk tpos) (.Call (.Name "zip" p) [e, e2] [] pos) (iZipA K ta) := by subst hK; exact pi_zipA hg hm ha hs hpl
theorem k_isiT (hK : X.K = K) : CallR X (.builtin "isinstance") (rIsiT K) := by subst hK; exact call_isiT
theorem tyx_l {a : Addr} {xs : List V} (h : SqL K H a xs) : TyX K H (.ref a) (.type "list") := by
  rcases h with (h | ⟨o, h⟩) | ⟨o, its, n, h, c, _⟩
  · exact .base (.lst h)
  · exact .base (.frz h)
  · exact .kList h c
theorem tyx_t {a : Addr} {xs : List V} (h : SqT K H a xs) : TyX K H (.ref a) (.type "tuple") := by
  rcases h with (h | ⟨o, h⟩) | ⟨o, its, n, h, c, _⟩
  · exact .base (.tup h)
  · exact .fTuple h
  · exact .kTuple h c
def tyn : PyData → String
  | .none => "NoneType"
  | .bool _ => "bool"
  | .int _ => "int"
  | .str _ => "str"
  | .list _ => "list"
  | .tuple _ => "tuple"
  | .dict _ => "dict"
theorem tyx_d {v : V} {d : PyData} (h : Dp K H v d) : TyX K H v (.type (tyn d)) := by
  cases h with
  | non => exact .base .non
  | bl b => exact .base (.bl b)
  | int i => exact .base (.int i)
  | str x => exact .base (.str x)
  | lst h _ => exact tyx_l h
  | tup h _ => exact tyx_t h
theorem isi_x {v : V} {A T : String} {b : Bool} (h : TyX K H v (.type A)) (hk : kitB A T = some b) (q : Q (.bl b) H) : rIsi K [v, .ty T] H Q :=
  ⟨v, .ty T, .type A, .type T, b, rfl, .ty T, h, kit_ty hk, q⟩
theorem kit_two {A B C : String} {b c : Bool} (h1 : kitB A B = some b) (h2 : kitB A C = some c) : PySem.W.kitAny K (.type A) [.type B, .type C] = some (b || c) := by
  refine kitAny_cons (kit_ty h1) (fun e => ?_) (fun e => by rw [e]; rfl)
  subst e
  refine kitAny_cons (kit_ty h2) (fun e => ?_) (fun e => by rw [e]; rfl)
  subst e
  exact kitAny_nil
theorem isiT2 {v : V} {p : Addr} {A B C : String} {b c : Bool} (h : TyX K H v (.type A)) (hp : H p = some (.tup [.ty B, .ty C])) (h1 : kitB A B = some b) (h2 : kitB A C = some c) (q : Q (.bl (b || c)) H) : rIsiT K [v, .ref p] H Q :=
  ⟨v, p, [.ty B, .ty C], .type A, [.type B, .type C], b || c, rfl, hp, .cons (.ty B) (.cons (.ty C) .nil), h, kit_two h1 h2, q⟩
theorem ex_d {H H' : Hp} (e : Ex H H') : ∀ (d : PyData) (v : V), Dp K H v d → Dp K H' v d
  | .none, _, h => by cases h; exact .non
  | .bool _, _, h => by cases h; exact .bl _
  | .int _, _, h => by cases h; exact .int _
  | .str _, _, h => by cases h; exact .str _
  | .dict _, _, h => by cases h
  | .list ds, _, h => by
    cases h with
    | lst h1 h2 => exact .lst (ex_l e h1) (all ds _ h2)
  | .tuple ds, _, h => by
    cases h with
    | tup h1 h2 => exact .tup (ex_t e h1) (all ds _ h2)
where
  all : ∀ (ds : List PyData) (vs : List V), DpAll K H vs ds → DpAll K H' vs ds
  | [], _, h => by cases h; exact .nil
  | d :: ds, _, h => by
    cases h with
    | cons h1 h2 => exact .cons (ex_d e d _ h1) (all ds _ h2)
theorem dp_len : ∀ {vs : List V} {ds : List PyData}, DpAll K H vs ds → vs.length = ds.length
  | _, _, .nil => rfl
  | _, _, .cons _ h => by rw [List.length_cons, List.length_cons, dp_len h]
theorem dp_at : ∀ {vs : List V} {ds : List PyData} {i : Nat} {v : V}, DpAll K H vs ds → vs[i]? = some v → ∃ d, ds[i]? = some d ∧ Dp K H v d
  | _, _, _, _, .nil, e => by simp at e
  | _, _, 0, _, .cons h _, e => by simp at e; subst e; exact ⟨_, rfl, h⟩
  | _, _, i + 1, _, .cons _ h, e => by
    obtain ⟨d, e1, e2⟩ := dp_at (i := i) h (by simpa using e)
    exact ⟨d, by simpa using e1, e2⟩
theorem dp_ints : ∀ ns : List Int, DpAll K H (ns.map V.int) (ns.map PyData.int)
  | [] => .nil
  | n :: ns => .cons (.int n) (dp_ints ns)
/-- data of so many levels, of moderate size -/
inductive Sh : Nat → PyData → Prop
  | non (n : Nat) : Sh n .none
  | bl (n : Nat) (b : Bool) : Sh n (.bool b)
  | int (n : Nat) (i : Int) : Sh n (.int i)
  | str (n : Nat) (x : Str) : Sh n (.str x)
  | lst {n : Nat} {ds : List PyData} (hl : ds.length ≤ 100000) (h : ∀ d ∈ ds, Sh n d) : Sh (n + 1) (.list ds)
  | tup {n : Nat} {ds : List PyData} (hl : ds.length ≤ 100000) (h : ∀ d ∈ ds, Sh n d) : Sh (n + 1) (.tuple ds)
theorem sh_ints (ns : List Int) (h : ns.length ≤ 100000) : Sh 1 (.list (ns.map PyData.int)) := .lst (by rw [List.length_map]; exact h) fun d hd => by
  obtain ⟨n, _, rfl⟩ := List.mem_map.mp hd
  exact .int 0 n
end
/-! ### more readings -/
section
variable {K : PySem.W.Frag} {σ : L2.St} {H H1 : Hp} {g : TG} {tt : TT} {te : TE} {vs : List Nat} {Dl : Addr} {Q : VK}
theorem x_eqB {m n : Bool} : rEq (.bl m) (.bl n) H Q ↔ Q (.bl (decide (m = n))) H := by
  unfold rEq
  rw [show scal (V.bl m) (V.bl n) = true from rfl]
  cases m <;> cases n <;> simp
theorem x_neB {m n : Bool} : rNe (.bl m) (.bl n) H Q ↔ Q (.bl (!decide (m = n))) H := by
  unfold rNe
  rw [show scal (V.bl m) (V.bl n) = true from rfl]
  cases m <;> cases n <;> simp
theorem x_eqS {m n : Str} : rEq (.str m) (.str n) H Q ↔ Q (.bl (decide (m = n))) H := by
  unfold rEq
  rw [show scal (V.str m) (V.str n) = true from rfl]
  by_cases e : m = n
  · subst e; simp
  · simp [e]
theorem x_neS {m n : Str} : rNe (.str m) (.str n) H Q ↔ Q (.bl (!decide (m = n))) H := by
  unfold rNe
  rw [show scal (V.str m) (V.str n) = true from rfl]
  by_cases e : m = n
  · subst e; simp
  · simp [e]
theorem allL {p : Addr} {bs : List Bool} (h : SqL K H p (bs.map V.bl)) (q : Q (.bl (bs.all id)) H) : rAll K [.ref p] H Q := ⟨p, bs, rfl, h, q⟩
theorem anyL {p : Addr} {bs : List Bool} (h : SqL K H p (bs.map V.bl)) (q : Q (.bl (bs.any id)) H) : rAny K [.ref p] H Q := ⟨p, bs, rfl, h, q⟩
theorem lenL {p : Addr} {xs : List V} (h : SqL K H p xs) (q : Q (.int (xs.length : Nat)) H) : rLen K [.ref p] H Q := ⟨p, xs, rfl, .inl h, q⟩
theorem lenT {p : Addr} {xs : List V} (h : SqT K H p xs) (q : Q (.int (xs.length : Nat)) H) : rLen K [.ref p] H Q := ⟨p, xs, rfl, .inr h, q⟩
theorem x_izipA {a : TA} {R : It → Hp → Prop} : iZipA K a σ H R = a σ H (fun vs H1 => ∃ a b xs ys, vs = [.ref a, .ref b] ∧ ((SqL K H1 a xs ∧ SqL K H1 b ys ∧ R (Itz K a b) H1) ∨ (SqT K H1 a xs ∧ SqT K H1 b ys ∧ R (ItzT K a b) H1))) := rfl
theorem eq_same {v : V} (h : scal v v = true) (q : Q (.bl true) H) : rEq v v H Q := ⟨h, by rw [decide_eq_true rfl]; exact q⟩
theorem g_three {i j l : Nat} {T : Addr} {x y z : V} {QG : L2.St → Hp → Prop} (h : H T = some (.tup [x, y, z])) (q : QG (((σ.set i (some x)).set j (some y)).set l (some z)) H) : gTup K 3 (gCons (gName i) (gCons (gName j) (gCons (gName l) gNil))) (.ref T) σ H QG :=
  ⟨T, [x, y, z], rfl, .inl (.inl h), rfl, x, [y, z], rfl, y, [z], rfl, z, [], rfl, rfl, q⟩
theorem lc_zip {a b : Addr} {xs ys : List V} {j k : Nat} (keep : Nat → Bool) (f : Nat → V) (hx : SqL K H1 a xs) (hy : SqL K H1 b ys) (he0 : xs.length = ys.length) (hD : H1 Dl = none) (hn : xs.length ≤ 100000)
    (hw : ∀ u v : V, wipe (((wipe σ vs).set j (some u)).set k (some v)) vs = wipe σ vs)
    (ht : ∀ i x y, xs[i]? = some x → ys[i]? = some y → Evl.EvT tt (((wipe σ vs).set j (some x)).set k (some y)) H1 (keep i))
    (he : ∀ i x y, xs[i]? = some x → ys[i]? = some y → keep i = true → Evl.Ev te (((wipe σ vs).set j (some x)).set k (some y)) H1 (f i))
    (hd : ∀ H', Evl.Ex H1 H' → H' Dl = some (.lst (kept xs.length keep f)) → Q (.ref Dl) H') : LcG (Itz K a b) (gTup K 2 (gCons (gName j) (gCons (gName k) gNil))) tt te vs σ Dl H1 Q := by
  have gx : ∀ i, i < xs.length → xs[i]? = some (xs.getD i .non) := fun i hi => by rw [List.getD_eq_getElem?_getD, List.getElem?_eq_getElem hi]; rfl
  have gy : ∀ i, i < xs.length → ys[i]? = some (ys.getD i .non) := fun i hi => by rw [List.getD_eq_getElem?_getD, List.getElem?_eq_getElem (by omega)]; rfl
  refine lc_pure xs.length (fun i => ((wipe σ vs).set j (some (xs.getD i .non))).set k (some (ys.getD i .non))) keep f hD hn (fun H' e => ⟨xs, ys, Evl.ex_l e hx, Evl.ex_l e hy, .inl (Nat.le_refl _)⟩)
    (fun i H' hi e => ⟨xs, ys, _, _, Evl.ex_l e hx, Evl.ex_l e hy, gx i hi, gy i hi⟩)
    (fun i H' x H'' QG hi e y q => ?_) (fun i hi => hw _ _) (fun i hi => ht i _ _ (gx i hi) (gy i hi)) (fun i hi => he i _ _ (gx i hi) (gy i hi)) hd
  obtain ⟨T, u, v, rfl, hT, rfl, hf, hf2⟩ := y
  have hu := hf xs (Evl.ex_l e hx)
  have hv := hf2 ys (Evl.ex_l e hy)
  have e1 : xs.getD i .non = u := by rw [List.getD_eq_getElem?_getD, hu]; rfl
  have e2 : ys.getD i .non = v := by rw [List.getD_eq_getElem?_getD, hv]; rfl
  refine g_two upd_same ?_
  have q2 := q (Evl.Ex.new hT)
  rw [e1, e2] at q2
  exact q2
theorem lc_zipT {a b : Addr} {xs ys : List V} {j k : Nat} (keep : Nat → Bool) (f : Nat → V) (hx : SqT K H1 a xs) (hy : SqT K H1 b ys) (he0 : xs.length = ys.length) (hD : H1 Dl = none) (hn : xs.length ≤ 100000)
    (hw : ∀ u v : V, wipe (((wipe σ vs).set j (some u)).set k (some v)) vs = wipe σ vs)
    (ht : ∀ i x y, xs[i]? = some x → ys[i]? = some y → Evl.EvT tt (((wipe σ vs).set j (some x)).set k (some y)) H1 (keep i))
    (he : ∀ i x y, xs[i]? = some x → ys[i]? = some y → keep i = true → Evl.Ev te (((wipe σ vs).set j (some x)).set k (some y)) H1 (f i))
    (hd : ∀ H', Evl.Ex H1 H' → H' Dl = some (.lst (kept xs.length keep f)) → Q (.ref Dl) H') : LcG (ItzT K a b) (gTup K 2 (gCons (gName j) (gCons (gName k) gNil))) tt te vs σ Dl H1 Q := by
  have gx : ∀ i, i < xs.length → xs[i]? = some (xs.getD i .non) := fun i hi => by rw [List.getD_eq_getElem?_getD, List.getElem?_eq_getElem hi]; rfl
  have gy : ∀ i, i < xs.length → ys[i]? = some (ys.getD i .non) := fun i hi => by rw [List.getD_eq_getElem?_getD, List.getElem?_eq_getElem (by omega)]; rfl
  refine lc_pure xs.length (fun i => ((wipe σ vs).set j (some (xs.getD i .non))).set k (some (ys.getD i .non))) keep f hD hn (fun H' e => ⟨xs, ys, Evl.ex_t e hx, Evl.ex_t e hy, .inl (Nat.le_refl _)⟩)
    (fun i H' hi e => ⟨xs, ys, _, _, Evl.ex_t e hx, Evl.ex_t e hy, gx i hi, gy i hi⟩)
    (fun i H' x H'' QG hi e y q => ?_) (fun i hi => hw _ _) (fun i hi => ht i _ _ (gx i hi) (gy i hi)) (fun i hi => he i _ _ (gx i hi) (gy i hi)) hd
  obtain ⟨T, u, v, rfl, hT, rfl, hf, hf2⟩ := y
  have hu := hf xs (Evl.ex_t e hx)
  have hv := hf2 ys (Evl.ex_t e hy)
  have e1 : xs.getD i .non = u := by rw [List.getD_eq_getElem?_getD, hu]; rfl
  have e2 : ys.getD i .non = v := by rw [List.getD_eq_getElem?_getD, hv]; rfl
  refine g_two upd_same ?_
  have q2 := q (Evl.Ex.new hT)
  rw [e1, e2] at q2
  exact q2
theorem all_true (n : Nat) : ((List.replicate n true).all id) = true := by
  induction n with
  | zero => rfl
  | succ n ih => rw [List.replicate_succ, List.all_cons, ih]; rfl
theorem kept_const (n : Nat) (v : V) : kept n (fun _ => true) (fun _ => v) = List.replicate n v := by
  rw [kept_all]
  apply List.ext_getElem?
  intro j
  rw [List.getElem?_map]
  by_cases h : j < n
  · rw [List.getElem?_range h, List.getElem?_replicate, if_pos h]
    rfl
  · rw [List.getElem?_eq_none (by rw [List.length_range]; omega), List.getElem?_eq_none (by rw [List.length_replicate]; omega)]
    rfl
end
end BC

set_option Elab.async false
set_option linter.all false
set_option maxRecDepth 100000
set_option maxHeartbeats 4000000
/-! repr of lists wants to know that no repr is under way around: promises that hold where nothing is guarded -/
namespace BC
open PySem PySem.Spec PyProof.Rows L2 Evl
/-- nothing is guarded around -/
def G0 (A : Around) : Prop := A.guards = some []
theorem G0.deeper {A : Around} (g : G0 A) (env : Env) : G0 (A.deeper env) := g
/-- FnOk where nothing is guarded around -/
structure FnG (P : Program) (w : World) (K : PySem.W.Frag) (mg : Str → Option Value) (base : Heap) (CX : CXT) (k : Nat) (f : Addr) (fd : FuncData) (ps : List Str) (sp : Sp) : Prop where
  size : ∀ vs H Q E, sp vs H Q E → vs.length = ps.length
  go : ∀ (A : Around) (outer : List Env) (s : Shared) (H : Hp) (args : Args) (us : List Value) (vs : List V) (Q : VK) (E : XK), G0 A → Room k A → Env0 P w K mg base A outer s H →
    BindsTo s fd args (ps.zip us) → Vals vs us → sp vs H Q E → codeAny (model P w) A (.call (.ref f) args) (CR CX outer P w H s Q E) s
section
variable {P : Program} {w : World} {K : PySem.W.Frag} {mg : Str → Option Value} {base : Heap} {CX : CXT} {k : Nat} {f : Addr} {fd : FuncData} {ps : List Str} {sp : Sp}
theorem FnG.of (F : FnOk P w K mg base CX k f fd ps sp) : FnG P w K mg base CX k f fd ps sp :=
  ⟨F.len, fun A outer s H args us vs Q E _ => F.run A outer s H args us vs Q E⟩
theorem FnG.up (F : FnG P w K mg base CX k f fd ps sp) {j : Nat} (h : k ≤ j) : FnG P w K mg base CX j f fd ps sp :=
  ⟨F.size, fun A outer s H args us vs Q E g hr => F.go A outer s H args us vs Q E g (hr.mono h)⟩
/-- the rule for a def -/
theorem fun_okG {x qual : Str} {st : Stmt} {N : List Str} (F : Fun K x qual st f fd) (S : FnScope N ps (defScope st)) (size : ∀ vs H Q E, sp vs H Q E → vs.length = ps.length)
    (body : ∀ (cdv : Value) (A : Around) (outer : List Env) (s : Shared) (H : Hp) (vs : List V) (Q : VK) (E : XK), G0 (A.deeper (envOfC qual (defScope st) s.heap.objs.size f cdv)) → Room k (A.deeper (envOfC qual (defScope st) s.heap.objs.size f cdv)) → sp vs H Q E →
      ∃ t, PSs (cxOf CX P w K mg base N qual (defScope st) f cdv A outer s H E) (defBody st) t ∧ t { nx := fun _ H' => Q .non H', rt := Q } (start N vs) H) : FnG P w K mg base CX (k + 1) f fd ps sp := by
  obtain ⟨oc, od, kV, doc, pm, an, cdv, ct, osl, rfl, lk, hcd⟩ := F.ex
  refine ⟨size, fun A outer s H args us vs Q E g room env bind vals prom => ?_⟩
  have inK : K.In s.heap := env.mod.kin.keeps fun b o q => (env.bs b o q).1
  have loose : s.heap.NoLimit := env.mod.nolimit.keeps fun b o q => (env.bs b o q).1
  have kinds : ∀ z ∈ ps.zip us, (defScope st).names.lookup z.1 = some .local ∨ ((defScope st).names.lookup z.1 = some .cell ∧ ((cellsFrom (s.heap.objs.size + 1) (defScope st).names []).lookup z.1).isSome = true) := by
    rintro ⟨n, v⟩ hz
    have hn := (List.of_mem_zip hz).1
    rcases S.par n hn with h | h
    · exact Or.inl h
    · exact Or.inr ⟨h, PySem.W.cellsFrom_some _ _ _ (Or.inl h)⟩
  refine codeAny_call_function room.depth (inK _ _ lk) rfl S.co S.gen rfl (PySem.W.codeRec_of inK hcd) (bind _ _ _ _ ?_)
  refine wpAny_newFunctionEnv_cells S.kind kinds fun env' e1 s1 into => ?_
  subst e1
  refine ⟨loose.keeps into.toInCall.keep, codeAny_func ?_⟩
  obtain ⟨t, deriv, read⟩ := body cdv A outer s H vs Q E (g.deeper _) (room.deeper _) prom
  have I := inv_start (CX := CX) (E := E) S room.hd env (size _ _ _ _ prom) vals into
  refine wpAny_mono (deriv.run [] s1 (start N vs) H _ I read) (fun flow s' ends => ?_) fun _ _ q => q
  have done : ∀ {σ2 : L2.St} {H2 : Hp} {v : V} {u : Value}, Inv (cxOf CX P w K mg base N qual (defScope st) f cdv A outer s H E) [] σ2 H2 s' → RelV v u → Q v H2 → CE outer P w H s Q u s' := by
    intro σ2 H2 v u J rel q
    exact ⟨v, H2, J.os, J.bare, J.base, J.hok, rel, q⟩
  match flow, ends with
  | .ret u, ends =>
    obtain ⟨v, σ2, H2, J, rel, q⟩ := ends
    exact done J rel q
  | .next, ends =>
    obtain ⟨σ2, H2, J, q⟩ := ends
    exact done (v := V.non) (u := Value.none) J rfl q
  | .brk, ends =>
    obtain ⟨_, _, _, q⟩ := ends
    exact q.elim
  | .cont, ends =>
    obtain ⟨_, _, _, q⟩ := ends
    exact q.elim
end
section
variable {X : Cx} {CX : CXT} {k : Nat} {f : Addr} {fd : FuncData} {ps : List Str} {sp : Sp} {dvs : List V} {ds : List Value} {E : XK} {x : Str} {p pos : Pos} {e : Expr} {es : List Expr} {t : TA}
theorem call_G {pins : List (Addr × Obj)} {σ : L2.St} {H : Hp} {s : Shared} {Q : VK} {us : List Value} {vs : List V} (F : FnG X.prog X.w X.K X.mg X.base CX k f fd ps sp) (g : G0 X.A) (hr : Room k X.A) (hb : Binds X.K fd ps ds) (hd : Vals dvs ds)
    (hx : Passes CX X E) (I : Inv X pins σ H s) (r : Vals vs us) (h : sp (vs ++ dvs) H Q E) : wpAny (model X.prog X.w) X.A (call (.ref f) us) (EP X pins σ Q) X.xe s := by
  have both : Vals (vs ++ dvs) (us ++ ds) := r.append hd
  have many : (us ++ ds).length = ps.length := both.length.symm.trans (F.size _ _ _ _ h)
  have run := F.go X.A X.stack s H ⟨us, []⟩ (us ++ ds) (vs ++ dvs) Q E g hr I.env0 (hb s us I.kIn many) both h
  refine wpAny_call (codeAny_mono run fun res s' q => ?_)
  match res, q with
  | .error err, q => exact hx pins σ H s err s' I q
  | .ok (.ret u), q => exact I.after q
theorem pe_callG (F : FnG X.prog X.w X.K X.mg X.base CX k f fd ps sp) (g : G0 X.A) (hr : Room k X.A) (hg : Gl X x) (hm : X.mg x = some (.ref f)) (hk : PySem.W.keepIn X.K (.ref f) = true) (hb : Binds X.K fd ps ds) (hd : Vals dvs ds) (hx : Passes CX X E)
    (ha : PA X (e :: es) t) (hdb : (x == ("__debug__" : Str)) = false := by decide) (he : starEach (e :: es) X.env = (false, eval e X.env) :: starEach es X.env := by rfl) (hpl : (backTo pos (starEach es X.env)).any (·.1) = false := by rfl) :
    PE X (.Call (.Name x p) (e :: es) [] pos) (tCall sp dvs E t) := by
  constructor
  intro pins s σ H Q I h
  have args := ha.run pos pins s σ H _ I h
  refine wpAny_Call_Name_kw (ld_glob I hg hm (PySem.W.callWith_K (h₀ := X.base) I.ok.mod.kin hk (thn args ?_) he hpl) hdb)
  rintro us s1 ⟨vs, H1, I1, r, q⟩
  exact ⟨I1.kIn, call_G F g hr hb hd hx I1 r q⟩
end

/-! ### the law's own call, for a promise of this kind -/
section
variable {P : Program} {w : World} {K : PySem.W.Frag} {mg mb : Str → Option Value} {k : Nat} {fa a : Addr} {fd : FuncData} {x : Str} {sp : Sp} {s : Shared} {vs : List Value} {ns : List Int}
/-- the abstract heap at the entry: the script alone, locked; or nothing, where the script is the module's own -/
def entryH (a : Addr) (vs : List Value) (ns : List Int) (own : Bool) : Hp := fun b => if own = false ∧ b = a then some (.frz { cls := .type "list", data := .seq vs.toArray } (.lst (ns.map V.int))) else none
theorem entry_other {own : Bool} {b : Addr} (h : b ≠ a) : entryH a vs ns own b = none := if_neg fun z => h z.2
theorem entry_own {b : Addr} : entryH a vs ns true b = none := if_neg fun z => nomatch z.1
theorem entry_at : entryH a vs ns false a = some (.frz { cls := .type "list", data := .seq vs.toArray } (.lst (ns.map V.int))) := if_pos ⟨rfl, rfl⟩
theorem entry_case {own : Bool} {b : Addr} {o : HO} (h : entryH a vs ns own b = some o) : own = false ∧ b = a ∧ o = .frz { cls := .type "list", data := .seq vs.toArray } (.lst (ns.map V.int)) := by
  unfold entryH at h
  by_cases q : own = false ∧ b = a
  · rw [if_pos q] at h
    exact ⟨q.1, q.2, (Option.some.inj h).symm⟩
  · rw [if_neg q] at h
    cases h
theorem law_goG (hK : K.In s.heap) (hns : s.heap.Ns mainGlobals mg) (hb : s.heap.Ns builtinsNs mb) (hbb : ∀ x : Str, x ≠ "__name__" → mb x = bootBuiltins x) (hlim : s.heap.NoLimit) (hg : s.gens = #[])
    (ha : s.heap.get? a = some { cls := .type "list", data := .seq vs.toArray }) (hi : IntsAre vs ns) (hl : ns.length ≤ sizeLine) (hr : Room k callerA)
    (F : ∀ base : Heap, K.In base → base.Ns mainGlobals mg → FnG P w K mg base CX0 k fa fd [x] sp) (bind : ∀ (s : Shared) (u : Value), BindsTo s fd ⟨[u], []⟩ [(x, u)])
    (prom : ∀ H : Hp, SqL K H a (ns.map V.int) → sp [.ref a] H (fun v _ => v = .bl true) fun _ _ _ => False) :
    codeAny (model P w) callerA (.call (.ref fa) ⟨[.ref a], []⟩) (fun r s' => r = .ok (.ret (.bool true)) ∧ OldK s.heap s'.heap ∧ s'.os = s.os ∧ AllBare s'.gens) s := by
  have rv := vals_ints hi
  have many := hi.length
  obtain ⟨own, hown⟩ : ∃ own : Bool, own = (K.lookup a).isSome := ⟨_, rfl⟩
  let H : Hp := entryH a vs ns own
  have reads : SqL K H a (ns.map V.int) := by
    cases q : K.lookup a with
    | none =>
      have e : own = false := by rw [hown, q]; rfl
      exact Or.inl (Or.inr ⟨_, by show entryH a vs ns own a = _; rw [e]; exact entry_at⟩)
    | some o =>
      have z := hK a o q
      rw [ha] at z
      cases z
      refine Or.inr ⟨_, vs.toArray, _, q, rfl, rfl, rfl, ?_, ?_⟩
      · rw [List.size_toArray, many]
        exact hl
      · exact rv
  have held : HOk P w H s.heap := fun b o q => by
    obtain ⟨_, rfl, rfl⟩ := entry_case q
    exact ⟨ha, by rw [List.length_map]; exact hl, vs, _, rv, ha⟩
  have spare : ∀ {b : Addr} {o : Obj}, s.heap.get? b = some o → (∀ u n, o.data ≠ .seq u n) → H b = none := fun {b o} e d => by
    cases q : H b with
    | none => rfl
    | some u =>
      obtain ⟨_, rfl, _⟩ := entry_case q
      rw [ha] at e
      cases e
      exact absurd rfl (d _ _)
  have nsT : ∀ {b : Addr} {m : Str → Option Value}, s.heap.Ns b m → (hidT s.heap H).Ns b m := by
    rintro b m ⟨o, es, ep, e, d, r⟩
    exact ⟨o, es, ep, hidT_get e (spare e fun u n z => by rw [d] at z; cases z), d, r⟩
  have kT : K.In (hidT s.heap H) := fun b o e => hidT_get (hK b o e) (by
    cases q : H b with
    | none => rfl
    | some u =>
      obtain ⟨z, rfl, _⟩ := entry_case q
      rw [hown, e] at z
      cases z)
  have module : Mod K mg (hidT s.heap H) := ⟨kT, nsT hns, ⟨mb, nsT hb, hbb⟩, by obtain ⟨mc, h1, h2⟩ := hlim; exact ⟨mc, nsT h1, h2⟩⟩
  have entry : Env0 P w K mg (hidT s.heap H) callerA [] s H :=
    ⟨rfl, module, fun b o e => of_hidT e, Nat.le_of_eq (hidT_size _ _), trivial, fun b z => (List.not_mem_nil z).elim, held, .of_eq hg⟩
  have ran := (F _ kT (nsT hns)).go callerA [] s H ⟨[.ref a], []⟩ [.ref a] [.ref a] _ _ rfl hr entry (bind s (.ref a)) (.cons rfl .nil) (prom H reads)
  refine codeAny_mono ran fun r s' q => ?_
  match r, q with
  | .ok (.ret u), q =>
    obtain ⟨v, H', os, bare, un, held', rel, fin⟩ := q
    obtain rfl : v = .bl true := fin
    obtain rfl : u = Value.bool true := rel
    refine ⟨rfl, OldK.of_keep fun b o e => ?_, os, bare⟩
    cases q : H b with
    | none => exact un.keep b o e q (fun z => (List.not_mem_nil z).elim) List.not_mem_nil
    | some u =>
      obtain ⟨_, rfl, rfl⟩ := entry_case q
      have z := (held' _ _ (un.frzs _ _ _ q)).1
      rw [ha] at e
      cases e
      exact z
theorem walk_G {l : PySem.W.OpenLaw} {n k : Nat} {q : Program} {loose : List Str} {XP : (Str → Option Value) → Heap → Prop} {YP : World → Heap → Prop} {d : DefRec} {K : Params → PySem.W.Frag} {sp : World → Sp} {x : Str}
    (hn : l.most = some n) (hn2 : n ≤ sizeLine) (hdf : d.params.defaults = []) (hr : Room k callerA) (hY : ∀ (w : World) (h : Heap), YP w h → (K w.params).In h)
    (F : ∀ (w : World) (mg : Str → Option Value) (fa : Addr) (h : Heap), (K w.params).In h → h.Ns mainGlobals mg → mg d.name = some (.ref fa) →
      ∃ fd : FuncData, (∀ (s : Shared) (u : Value), BindsTo s fd ⟨[u], []⟩ [(x, u)]) ∧ ∀ base : Heap, (K w.params).In base → base.Ns mainGlobals mg → FnG l.prog w (K w.params) mg base CX0 k fa fd [x] (sp w))
    (prom : ∀ (w : World) (H : Hp) (a : Addr) (ns : List Int), ns.length ≤ n → SqL (K w.params) H a (ns.map V.int) → sp w [.ref a] H (fun v _ => v = .bl true) fun _ _ _ => False) :
    PySem.W.WalkO q loose XP YP l.row.toRowW d [] (fun f vs => PySem.call f vs) := by
  refine Att.attach_call hn hdf ?_
  intro w s0 s1 mg mb fa o pm cd doc a vs ns G Y _ hd hcd hmg hobj hints hlen hg
  have inK := hY w _ Y
  obtain ⟨fd, bind, keep⟩ := F w mg fa _ inK G.T.g hmg
  exact law_goG inK G.T.g G.T.b G.T.builtins G.T.nolimit hg hobj hints (Nat.le_trans hlen hn2) hr keep bind fun H hS => prom w H a ns hlen hS
end
end BC

set_option Elab.async false
set_option linter.all false
set_option maxRecDepth 100000
set_option maxHeartbeats 4000000
/-! repr, keywords, more readings -/
namespace BC
open PySem PySem.Spec PyProof.Rows L2 Evl
section
variable {X : Cx} {K : PySem.W.Frag} {σ : L2.St} {H : Hp} {Q : VK}
/-- repr of lists, tuples and what lies in them -/
def rRepr (K : PySem.W.Frag) : List V → Hp → VK → Prop := fun xs H Q => ∃ a d, xs = [.ref a] ∧ Dp K H (.ref a) d ∧ d.showable = true ∧ d.depth ≤ 60 ∧ d.hasDict = false ∧ d.shown.length ≤ sizeLine ∧ Q (.str d.shown) H
theorem k_repr (hK : X.K = K) (g : G0 X.A) (hu : X.A.units + 64 < cLine) : CallR X (.builtin "repr") (rRepr K) := by
  subst hK
  intro pins s σ H xs us Q I r h
  obtain ⟨a, d, rfl, hd, h1, h2, h3, h4, q⟩ := h
  obtain ⟨u, rfl, rfl⟩ := vals1 r
  obtain ⟨as, rd⟩ := Dp.reads I d (.ref a) (.ref a) hd rfl
  exact repr_of_reads' rd h1 (PyData.noDict_hsm h3) g (by omega) (fun _ _ e => e) (fun h' u tk hk => ⟨.str _, H, I.kept hk, ⟨_, rfl⟩, q⟩) h4
def rIsB : R2 := fun x y H Q => ∃ a b, x = .bl a ∧ y = .bl b ∧ Q (.bl (decide (a = b))) H
def rIsNB : R2 := fun x y H Q => ∃ a b, x = .bl a ∧ y = .bl b ∧ Q (.bl (!decide (a = b))) H
theorem op_isB : OpR X (compareOp .Is) rIsB := op_is_bl
theorem op_isNB : OpR X (compareOp .IsNot) rIsNB := op_isnot_bl
theorem x_isB {a b : Bool} : rIsB (.bl a) (.bl b) H Q ↔ Q (.bl (decide (a = b))) H := ⟨fun ⟨i, j, e1, e2, q⟩ => by cases e1; cases e2; exact q, fun q => ⟨a, b, rfl, rfl, q⟩⟩
theorem x_isNB {a b : Bool} : rIsNB (.bl a) (.bl b) H Q ↔ Q (.bl (!decide (a = b))) H := ⟨fun ⟨i, j, e1, e2, q⟩ => by cases e1; cases e2; exact q, fun q => ⟨a, b, rfl, rfl, q⟩⟩
theorem x_lrg {te : L2.St → Hp → (Int → Int → Hp → Prop) → Prop} : tLstRg te σ H Q = te σ H fun a b H1 => RgOk a b ∧ ∀ q, H1 q = none → Q (.ref q) (upd H1 q (.lst (rgV a b))) := rfl
theorem x_rg1 {ta : TE} {R : Int → Int → Hp → Prop} : tRg1 ta σ H R = ta σ H fun x H1 => ∃ n, x = .int n ∧ R 0 n H1 := rfl
theorem x_rg2 {ta tb : TE} {R : Int → Int → Hp → Prop} : tRg2 ta tb σ H R = ta σ H fun x H1 => tb σ H1 fun y H2 => ∃ i j, x = .int i ∧ y = .int j ∧ R i j H2 := rfl
end
theorem Fx.mut {b r : Addr} {H H' : Hp} {o : HO} (f : Fx b H H') (n : H r = none) : Fx b H (upd H' r o) := fun a u na h => by rw [upd_ne (ne_of_none h n)]; exact f a u na h
theorem fx_none {b x : Addr} {H H' : Hp} (h : Fx b H H') (n : H' x = none) (nb : x ≠ b) : H x = none := by
  cases e : H x with
  | none => rfl
  | some o => rw [h _ _ nb e] at n; cases n
/-- a promise that asks for more -/
theorem weak {P : Program} {w : World} {K : PySem.W.Frag} {mg : Str → Option Value} {base : Heap} {CX : CXT} {k : Nat} {f : Addr} {fd : FuncData} {ps : List Str} {sp sp' : Sp} (F : FnOk P w K mg base CX k f fd ps sp) (h : ∀ vs H Q E, sp' vs H Q E → sp vs H Q E) : FnOk P w K mg base CX k f fd ps sp' :=
  ⟨fun vs H Q E q => F.len vs H Q E (h _ _ _ _ q), fun A outer s H args us vs Q E hr env bind vals q => F.run A outer s H args us vs Q E hr env bind vals (h _ _ _ _ q)⟩
/-! ### a cut: what stands after one statement -/
section
variable {σ : L2.St} {H : Hp} {D : Ends} {ta : TE} {s1 s2 : TS} {i : Nat}
theorem seq_asg (C : V → Hp → Prop) (h1 : ∀ R : VK, (∀ v H', C v H' → R v H') → ta σ H R) (h2 : ∀ v H', C v H' → s2 D (σ.set i (some v)) H') : tSeq (tAsg ta (gName i)) s2 D σ H := h1 _ h2
theorem seq_cut (C : L2.St → Hp → Prop) (h1 : ∀ N : L2.St → Hp → Prop, (∀ σ' H', C σ' H' → N σ' H') → s1 { D with nx := N } σ H) (h2 : ∀ σ' H', C σ' H' → s2 D σ' H') : tSeq s1 s2 D σ H := h1 _ h2
end
/-! ### keywords -/
def kg {α : Type} (d : α) (a b : Nat) (perm : List Nat) (us ws : List α) : List α := if us.length = a ∧ ws.length = b then perm.map fun i => (us ++ ws).getD i d else []
theorem vals_getD : ∀ {vs : List V} {us : List Value}, Vals vs us → ∀ i, RelV (vs.getD i .non) (us.getD i .none)
  | [], [], .nil, _ => rfl
  | _ :: _, _ :: _, .cons h _, 0 => h
  | _ :: _, _ :: _, .cons _ r, i + 1 => vals_getD r i
theorem vals_perm {vs : List V} {us : List Value} (r : Vals vs us) : ∀ p : List Nat, Vals (p.map fun i => vs.getD i .non) (p.map fun i => us.getD i .none)
  | [] => .nil
  | i :: p => .cons (vals_getD r i) (vals_perm r p)
theorem kg_rel {a b : Nat} {p : List Nat} {vs : List V} {us : List Value} {zs : List V} {ws : List Value} (r : Vals vs us) (z : Vals zs ws) : Vals (kg .non a b p vs zs) (kg .none a b p us ws) := by
  unfold kg
  rw [r.length, z.length]
  split
  · exact vals_perm (r.append z) p
  · exact .nil
theorem kg_mk {K : PySem.W.Frag} {fd : FuncData} {q : Str} {ps ks : List Str} {a b : Nat} {p : List Nat} (h : ∀ us ws : List Value, us.length = a → ws.length = b → bindArgs fd ⟨us, ks.zip ws⟩ = pure ((q :: ps).zip (p.map fun i => (us ++ ws).getD i .none))) :
    KBinds K fd (q :: ps) ks (kg .none a b p) (kg .non a b p) := by
  refine ⟨fun s us ws _ hl => ?_, kg_rel⟩
  unfold kg at hl ⊢
  split at hl
  · next c =>
    rw [if_pos c]
    exact .of_eq (h us ws c.1 c.2)
  · cases hl
theorem fun_okN {P : Program} {w : World} {K : PySem.W.Frag} {mg : Str → Option Value} {base : Heap} {CX : CXT} {k : Nat} {f : Addr} {fd : FuncData} {ps : List Str} {sp : Sp} {x qual : Str} {st : Stmt} {N : List Str} (F : Fun K x qual st f fd) (S : FnScope N ps (defScope st)) (size : ∀ vs H Q E, sp vs H Q E → vs.length = ps.length)
    (body : ∀ (cdv : Value) (A : Around) (outer : List Env) (s : Shared) (H : Hp) (vs : List V) (Q : VK) (E : XK), G0 (A.deeper (envOfC qual (defScope st) s.heap.objs.size f cdv)) → Room k (A.deeper (envOfC qual (defScope st) s.heap.objs.size f cdv)) → sp vs H Q E →
      ∃ t, PSs (cxOf CX P w K mg base N qual (defScope st) f cdv A outer s H E).nox (defBody st) t ∧ t { nx := fun _ H' => Q .non H', rt := Q } (start N vs) H) : FnG P w K mg base CX (k + 1) f fd ps sp :=
  fun_okG F S size fun cdv A outer s H vs Q E hG hr h => let ⟨t, d, q⟩ := body cdv A outer s H vs Q E hG hr h; ⟨t, d.nox, q⟩
theorem Fun.kb {K : PySem.W.Frag} {x qual q : Str} {st : Stmt} {f : Addr} {fd : FuncData} {ps ks : List Str} {a b : Nat} {p : List Nat} (F : Fun K x qual st f fd)
    (h : ∀ (kV doc pm : Value) (an : Option Addr) (cdv ct : Value) (us ws : List Value), us.length = a → ws.length = b → bindArgs (PySem.W.fnOf x qual (defArgs st) (defBody st) (defScope st) .none kV doc pm an cdv ct) ⟨us, ks.zip ws⟩ = pure ((q :: ps).zip (p.map fun i => (us ++ ws).getD i .none))) :
    KBinds K fd (q :: ps) ks (kg .none a b p) (kg .non a b p) := by
  obtain ⟨oc, od, kV, doc, pm, an, cdv, ct, osl, rfl, lk, hcd⟩ := F.ex
  exact kg_mk (h kV doc pm an cdv ct)
section
variable {X : Cx} {CX : CXT} {k : Nat} {f : Addr} {fd : FuncData} {ps ks : List Str} {sp : Sp} {E : XK} {x : Str} {p pos : Pos} {e : Expr} {es : List Expr} {kws : List Keyword} {t tk : TA} {g : List Value → List Value → List Value} {gV : List V → List V → List V}
theorem pe_callK0 (F : FnOk X.prog X.w X.K X.mg X.base CX k f fd ps sp) (hr : Room k X.A) (hg : Gl X x) (hm : X.mg x = some (.ref f)) (hk : PySem.W.keepIn X.K (.ref f) = true) (hb : KBinds X.K fd ps ks g gV) (hx : Passes CX X E)
    (hkw : PK X kws tk) (hall : (backToKw pos (keywordEach kws X.env)).all (·.1.isSome) = true := by rfl) (hks : (backToKw pos (keywordEach kws X.env)).filterMap (·.1) = ks := by rfl)
    (hdb : (x == ("__debug__" : Str)) = false := by decide)
    (hpl : ((backTo pos (starEach [] X.env)).any (·.1) || (backToKw pos (keywordEach kws X.env)).any (·.1.isNone)) = false := by rfl) :
    PE X (.Call (.Name x p) [] kws pos) (tCallK sp gV E tNil tk) := by
  refine ⟨fun pins s σ H Q I h => ?_⟩
  refine wpAny_Call_Name_kw (ld_glob I hg hm ?_ hdb)
  refine PySem.W.callWith_KW0 (h₀ := X.base) I.ok.mod.kin hk hall (thn (hkw.run pos pins s σ H _ I h) fun ws s2 ⟨zs, H2, I2, rz, q2⟩ => ⟨I2.kIn, ?_⟩) hpl
  rw [hks]
  exact run_fnk F hr hb hx I2 .nil rz q2
theorem run_fnkG {pins : List (Addr × Obj)} {σ : L2.St} {H : Hp} {s : Shared} {Q : VK} {us ws : List Value} {vs zs : List V} (F : FnG X.prog X.w X.K X.mg X.base CX k f fd ps sp) (g0 : G0 X.A) (hr : Room k X.A) (hb : KBinds X.K fd ps ks g gV) (hx : Passes CX X E)
    (I : Inv X pins σ H s) (r : Vals vs us) (rz : Vals zs ws) (h : sp (gV vs zs) H Q E) : wpAny (model X.prog X.w) X.A (call (.ref f) us (ks.zip ws)) (EP X pins σ Q) X.xe s := by
  have r2 := hb.rel r rz
  have hl : (g us ws).length = ps.length := by rw [← r2.length]; exact F.size _ _ _ _ h
  refine wpAny_call (codeAny_mono (F.go X.A X.stack s H ⟨us, ks.zip ws⟩ (g us ws) (gV vs zs) Q E g0 hr I.env0 (hb.to s us ws I.kIn hl) r2 h) fun r s' hq => ?_)
  cases r with
  | error e => exact hx pins σ H s e s' I hq
  | ok fl =>
    cases fl with
    | ret u => exact I.after hq
    | next => exact False.elim hq
    | brk => exact False.elim hq
    | cont => exact False.elim hq
theorem pe_callKG (F : FnG X.prog X.w X.K X.mg X.base CX k f fd ps sp) (g0 : G0 X.A) (hr : Room k X.A) (hg : Gl X x) (hm : X.mg x = some (.ref f)) (hk : PySem.W.keepIn X.K (.ref f) = true) (hb : KBinds X.K fd ps ks g gV) (hx : Passes CX X E)
    (ha : PA X (e :: es) t) (hkw : PK X kws tk) (hall : (backToKw pos (keywordEach kws X.env)).all (·.1.isSome) = true := by rfl) (hks : (backToKw pos (keywordEach kws X.env)).filterMap (·.1) = ks := by rfl)
    (hdb : (x == ("__debug__" : Str)) = false := by decide) (he : starEach (e :: es) X.env = (false, eval e X.env) :: starEach es X.env := by rfl)
    (hpl : ((backTo pos (starEach (e :: es) X.env)).any (·.1) || (backToKw pos (keywordEach kws X.env)).any (·.1.isNone)) = false := by rfl) :
    PE X (.Call (.Name x p) (e :: es) kws pos) (tCallK sp gV E t tk) := by
  refine ⟨fun pins s σ H Q I h => ?_⟩
  refine wpAny_Call_Name_kw (ld_glob I hg hm ?_ hdb)
  refine PySem.W.callWith_KW (h₀ := X.base) I.ok.mod.kin hk hall (thn (ha.run pos pins s σ H _ I h) fun us s1 ⟨vs, H1, I1, r, q⟩ => ?_) hpl he
  refine thn (hkw.run pos pins s1 σ H1 _ I1 q) fun ws s2 ⟨zs, H2, I2, rz, q2⟩ => ⟨I2.kIn, ?_⟩
  rw [hks]
  exact run_fnkG F g0 hr hb hx I2 r rz q2
end
end BC

set_option Elab.async false
set_option linter.all false
set_option maxRecDepth 100000
set_option maxHeartbeats 4000000
/-! xs[:] = ys -/
namespace BC
open PySem PySem.Spec PyProof.Rows L2 Evl
theorem bounds_all (n : Nat) : sliceBounds none none none n = (((0 : Nat) : Int), ((n : Nat) : Int), 1) := by
  simp [sliceBounds]
section
variable {prog : Program} {w : World} {A : Around} {s : Shared} {E : Value → Shared → Prop}
theorem setItem_all {l b sl : Addr} {items new : Array Value} {n n2 : Nat} {vl vu : Value} {Q : Unit → Shared → Prop}
    (e : s.heap.get? l = some { cls := .type "list", data := .seq items n }) (e2 : s.heap.get? b = some { cls := .type "list", data := .seq new n2 }) (hne : l ≠ b)
    (hs : s.heap.IsSliceOf sl vl vu .none) (pl : IsPart vl none) (pu : IsPart vu none)
    (hsz : items.size + new.size ≤ sizeLine) (h : Q () { s with heap := s.heap.update l (Obj.mapSeq fun xs => xs.extract 0 0 ++ new ++ xs.extract items.size xs.size) }) :
    wpAny (model prog w) A (setItem (.ref l) (.ref sl) (.ref b)) Q E s := by
  have hl : s.heap.IsList l items := PySem.IsL.isList e
  have hb : s.heap.IsList b new := PySem.IsL.isList e2
  obtain ⟨os, hos, hcs, hds⟩ := id hs
  have hTs : s.TypeIs (.ref sl) "slice" := ⟨os, hos, hcs⟩
  have hstep : ¬ ((rawPart none == rawInt 0) = true) := Bool.false_ne_true
  have hsame : Builtin.List.listSameRef (.ref l) (.ref b) = false := by
    unfold Builtin.List.listSameRef
    exact beq_eq_false_iff_ne.mpr hne
  have hmax : (max ((0 : Nat) : Int) ((items.size : Nat) : Int)).toNat = items.size := by omega
  have hz' : ((fun xs : Array Value => xs.extract 0 0 ++ new ++ xs.extract items.size xs.size) items).size ≤ sizeLine + 1 := by
    simp only [Array.size_append, Array.size_extract]
    omega
  unfold setItem
  try with_reducible refine wpAny_holding ?_
  first | refine wpAny_bind (wpAny_pure ?_) | skip
  refine wpAny_bind (wpAny_sequenceKey hl.typeIs (by decide) ?_)
  refine wpAny_bind (wpAny_callSpecial?_slot (name := Str.ofString "__setitem__") hl.typeIs slot_list_setitem
    (wpAny_call_entry slot_list_setitem hl.typeIs entry_list_setitem ?_ (args_list_setitem _ _ _)))
  show wpAny _ _ (Builtin.List.listSubscript? (.ref sl) >>= _) _ _ s
  refine wpAny_bind ?_
  unfold Builtin.List.listSubscript?
  refine wpAny_bind (wpAny_specialOf hTs slice_no_index ?_)
  simp only [Option.isNone_none, if_true]
  refine wpAny_pure ?_
  show wpAny _ _ (typeOf (.ref sl) >>= _) _ _ s
  refine wpAny_bind (wpAny_typeOf hTs ?_)
  first
    | rw [if_neg (by decide)]
    | refine PySem.W.KFB.if_not (by decide) ?_
  rw [listSliceParts_eq]
  refine wpAny_bind (wpAny_bind (wpAny_field hos hds (x := .none) rfl (wpAny_bind (wpAny_listPart .none ?_))))
  rw [if_neg hstep]
  refine wpAny_bind (wpAny_field hos hds (x := vl) rfl (wpAny_bind (wpAny_listPart pl ?_)))
  refine wpAny_bind (wpAny_field hos hds (x := vu) rfl (wpAny_bind (wpAny_listPart pu (wpAny_pure ?_))))
  first
    | simp only [hsame, Bool.false_eq_true, if_false]
    | refine PySem.W.KFB.if_not hsame ?_
    | (dsimp only
       rw [if_neg (by rw [hsame]; exact Bool.false_ne_true)])
  refine wpAny_bind (m := Builtin.List.listAllItems (.ref b) "must assign iterable to extended slice") ?_
  unfold Builtin.List.listAllItems
  refine wpAny_bind (wpAny_typeOf hb.typeIs ?_)
  first
    | refine PySem.W.KFB.if_so (by decide) ?_
    | rw [if_pos (by decide)]
    | simp only [beq_self_eq_true, Bool.true_or, if_true]
  unfold Builtin.List.listItems
  refine wpAny_bind (wpAny_seqItems e2 rfl (wpAny_pure ?_))
  refine wpAny_bind (wpAny_bind (wpAny_seqItems e rfl (wpAny_pure ?_)))
  refine wpAny_bind (wpAny_of_eq ((sliceIndices_raw none none none items.size (by simp)).trans (congrArg (pure : Int × Int × Int → Sem (Int × Int × Int)) (bounds_all items.size))) ?_)
  show wpAny _ _ (if ((1 : Int) == 1) = true then _ else _) _ _ s
  rw [if_pos (by decide)]
  refine wpAny_bind (wpAny_rule ?_)
  first
    | simp only [notLongL hsz, Bool.false_eq_true, if_false]
    | refine PySem.W.KFB.if_not (notLongL hsz) ?_
  first | refine wpAny_bind (wpAny_pure ?_) | skip
  show wpAny _ _ (updateSeq l (fun xs => xs.extract 0 ((0 : Nat) : Int).toNat ++ new ++ xs.extract (max ((0 : Nat) : Int) ((items.size : Nat) : Int)).toNat xs.size) >>= _) _ _ s
  rw [hmax, Int.toNat_natCast]
  refine wpAny_bind (wpAny_updateSeq (hz := Nat.le_trans (Nat.le_add_right _ _) hsz) (_hz' := hz') e rfl ?_)
  refine wpAny_bind (wpAny_letGo ?_)
  first
    | exact wpAny_bind (wpAny_pure (wpAny_pure ⟨.none, rfl, wpAny_pure h⟩))
    | exact wpAny_pure ⟨.none, rfl, wpAny_pure h⟩
end
section
variable {X : Cx} {o e : Expr} {to : TE} {p2 pos : Pos}
/-- o[:] = v, both lists -/
def gAll (to : TE) : TG := fun v σ H QG => to σ H fun x H1 => ∃ a b xs ys, x = .ref a ∧ v = .ref b ∧ a ≠ b ∧ H1 a = some (.lst xs) ∧ H1 b = some (.lst ys) ∧ xs.length + ys.length ≤ sizeLine ∧ QG σ (upd H1 a (.lst ys))
theorem set_all {pins : List (Addr × Obj)} {s : Shared} {σ : L2.St} {H : Hp} {l b sl : Addr} {xs ys : List V} {vl vu : Value} {Q : Unit → Shared → Prop} (I : Inv X pins σ H s)
    (hH : H l = some (.lst xs)) (hB : H b = some (.lst ys)) (hne : l ≠ b) (hs : s.heap.IsSliceOf sl vl vu .none) (pl : IsPart vl none) (pu : IsPart vu none)
    (hz : xs.length + ys.length ≤ sizeLine) (h : ∀ s', Inv X pins σ (upd H l (.lst ys)) s' → Q () s') :
    wpAny (model X.prog X.w) X.A (setItem (.ref l) (.ref sl) (.ref b)) Q X.xe s := by
  obtain ⟨z, its, n, r, hl, e⟩ := I.lstM hH
  obtain ⟨z2, its2, n2, r2, hl2, e2⟩ := I.lstM hB
  refine setItem_all e e2 hne hs pl pu (by rw [List.size_toArray, List.size_toArray]; omega) (h _ ?_)
  refine I.lset (its' := its2) (t' := s.toks) hH e ?_ r2 (by omega)
  simp
theorem pg_all (ho : PE X o to)
    (ha0 : ∀ v, assign (.Subscript o (.Slice none none none p2) pos) X.env v = (do
      let ov ← holding [v] (eval o X.env)
      let iv ← holding [v, ov] (eval (.Slice none none none p2) X.env)
      standAt pos
      holding [v, ov, iv] (setItem ov iv v)
      release [iv, v, ov] []) := by intro _; rfl) : PG X (.Subscript o (.Slice none none none p2) pos) (gAll to) := by
  refine ⟨fun pins s σ H v u Q I r h => ?_⟩
  rw [ha0]
  refine wpAny_bind (wpAny_holding (thn (ho.run pins s σ H _ I h) fun ov s1 ⟨x, H1, I1, r1, q1⟩ => ?_))
  obtain ⟨a, b, xs, ys, rfl, rfl, hne, ha, hb, hz, q⟩ := q1
  cases r1
  cases r
  refine wpAny_bind (wpAny_holding ?_)
  refine wpAny_Slice ?_
  rw [evalPart_none]
  refine wpAny_pure ?_
  refine wpAny_pure ?_
  refine wpAny_pure ?_
  have I4 : Inv X pins σ H1 { s1 with heap := s1.heap.push { cls := .type "slice", data := .fields #[.none, .none, .none] } } := I1.kept (t' := s1.toks) fun b ob q => Heap.get?_push_of_some _ q
  refine wpAny_bind (wpAny_standAt (wpAny_bind (wpAny_holding ?_)))
  refine set_all I4 ha hb hne (Heap.IsSliceOf.new ..) .none .none hz fun s' I5 => ?_
  exact wpAny_release ⟨σ, _, I5, q⟩
def rDivmod : List V → Hp → VK → Prop := fun xs H Q => ∃ i j, xs = [.int i, .int j] ∧ CDivW i j ∧ ∀ p, H p = none → Q (.ref p) (upd H p (.tup [.int (i / j), .int (i % j)]))
theorem call_dmX : CallR X (.builtin "divmod") rDivmod := by
  intro pins s σ H xs us Q I r h
  obtain ⟨i, j, rfl, hc, q⟩ := h
  obtain ⟨u, u2, rfl, ⟨t, rfl⟩, ⟨t2, rfl⟩⟩ := vals2 r
  have pos : 0 < j := hc.1
  have new := I.hok.fresh (Nat.le_refl s.heap.objs.size)
  refine divmod_int (by omega) ?_ (.inl (PyProof.noPylong_of_log2 hc.2))
  rw [Int.fdiv_eq_ediv_of_nonneg i (by omega), Int.fmod_eq_emod_of_nonneg i (by omega)]
  refine ⟨.ref s.heap.objs.size, _, ?_, rfl, q _ new⟩
  refine I.laid (fun b o e => Heap.get?_push_of_some _ e) (Nat.le_refl _) ⟨?_, [.int (i / j) s.toks, .int (i % j) (s.toks + 1)], .cons ⟨_, rfl⟩ (.cons ⟨_, rfl⟩ .nil), ?_⟩
  · exact Evl.sz_of (by simp)
  · exact ⟨_, Heap.get?_push_size s.heap rfl, rfl, 0, rfl⟩
theorem x_gall {σ : L2.St} {H : Hp} {v : V} {QG : L2.St → Hp → Prop} : gAll to v σ H QG = to σ H fun x H1 => ∃ a b xs ys, x = .ref a ∧ v = .ref b ∧ a ≠ b ∧ H1 a = some (.lst xs) ∧ H1 b = some (.lst ys) ∧ xs.length + ys.length ≤ sizeLine ∧ QG σ (upd H1 a (.lst ys)) := rfl
end
end BC

set_option Elab.async false
set_option linter.all false
set_option maxRecDepth 100000
set_option maxHeartbeats 4000000
/-! comprehensions that change what stands, or whose values are chosen as they come -/
namespace BC
open PySem PySem.Spec PyProof.Rows L2 Evl
section
variable {K : PySem.W.Frag} {σ : L2.St} {H1 : Hp} {g : TG} {te : TE} {vs : List Nat} {Dl : Addr} {Q : VK}
theorem lc_rngE {lo : Int} {n : Nat} (Pv : Nat → Hp → Prop) (h0 : Pv 0 (upd H1 Dl (.lst [])))
    (hs : ∀ i H, i < n → Pv i H → g (.int (lo + i)) (wipe σ vs) H fun σ2 H2 => wipe σ2 vs = wipe σ vs ∧ te σ2 H2 fun y H4 => ∃ acc, H4 Dl = some (.lst acc) ∧ acc.length < sizeLine ∧ Pv (i + 1) (upd H4 Dl (.lst (acc ++ [y]))))
    (hd : ∀ H, Pv n H → Q (.ref Dl) H) : LcG (Itr lo n) g tYes te vs σ Dl H1 Q := by
  refine lc_g n Pv h0 (fun H h => Nat.le_refl _) (fun i H hi h => hi) (fun i H x H' hi h y => ?_) hd
  obtain ⟨rfl, rfl⟩ := y
  have q := hs i _ hi h
  exact q
theorem lc_listE {a : Addr} {xs : List V} (Pv : Nat → Hp → Prop) (h0 : Pv 0 (upd H1 Dl (.lst []))) (hl : ∀ i H, i ≤ xs.length → Pv i H → SqL K H a xs)
    (hs : ∀ i x H, xs[i]? = some x → Pv i H → g x (wipe σ vs) H fun σ2 H2 => wipe σ2 vs = wipe σ vs ∧ te σ2 H2 fun y H4 => ∃ acc, H4 Dl = some (.lst acc) ∧ acc.length < sizeLine ∧ Pv (i + 1) (upd H4 Dl (.lst (acc ++ [y]))))
    (hd : ∀ H, Pv xs.length H → Q (.ref Dl) H) : LcG (Itl K a) g tYes te vs σ Dl H1 Q := by
  refine lc_g xs.length Pv h0 (fun H h => ⟨xs, hl _ H (Nat.le_refl _) h, Nat.le_refl _⟩) (fun i H hi h => ⟨xs, xs[i], hl i H (by omega) h, List.getElem?_eq_getElem hi⟩) (fun i H x H' hi h y => ?_) hd
  obtain ⟨rfl, hf⟩ := y
  exact hs i x _ (hf xs (hl i _ (by omega) h)) h
end
/-- a fourfold tuple unpacked -/
theorem g_four {K : PySem.W.Frag} {σ : L2.St} {H : Hp} {i j l m : Nat} {T : Addr} {x y z u : V} {QG : L2.St → Hp → Prop} (h : H T = some (.tup [x, y, z, u])) (q : QG ((((σ.set i (some x)).set j (some y)).set l (some z)).set m (some u)) H) : gTup K 4 (gCons (gName i) (gCons (gName j) (gCons (gName l) (gCons (gName m) gNil)))) (.ref T) σ H QG :=
  ⟨T, [x, y, z, u], rfl, .inl (.inl h), rfl, x, [y, z, u], rfl, y, [z, u], rfl, z, [u], rfl, u, [], rfl, rfl, q⟩
theorem revL {H : Hp} {Q : VK} {p : Addr} {xs : List V} (h : H p = some (.lst xs)) (q : Q .non (upd H p (.lst xs.reverse))) : rReverse (.ref p) [] H Q := ⟨p, xs, rfl, rfl, h, q⟩
theorem Sh.mono {n m : Nat} {d : PyData} (h : Sh n d) (e : n ≤ m) : Sh m d := by
  induction h generalizing m with
  | non n => exact .non m
  | bl n b => exact .bl m b
  | int n i => exact .int m i
  | str n x => exact .str m x
  | @lst n ds hl h ih =>
    cases m with
    | zero => omega
    | succ m => exact .lst hl fun d hd => ih d hd (by omega)
  | @tup n ds hl h ih =>
    cases m with
    | zero => omega
    | succ m => exact .tup hl fun d hd => ih d hd (by omega)
end BC

set_option Elab.async false
set_option linter.all false
set_option maxRecDepth 100000
set_option maxHeartbeats 4000000
/-! visits and their trails, lists of numbers, their repr -/
namespace BC
open PySem PySem.Spec PyProof.Rows L2 Evl
/-! ### data whose repr is short -/
structure Tm (d : PyData) : Prop where
  s : d.showable = true
  n : d.hasDict = false
  l : d.leavesShort 13 = true
theorem Tm.int {i : Int} (h : i.natAbs < 10 ^ 12) : Tm (.int i) := ⟨by
  show decide (i.natAbs.log2 < 1920) = true
  refine decide_eq_true ?_
  by_cases z : i.natAbs = 0
  · rw [z]; decide
  · exact (Nat.log2_lt z).mpr (Nat.lt_of_lt_of_le h (by decide +kernel)), rfl, by
  show decide (_ ≤ 13) = true
  exact decide_eq_true (PyData.shown_int_le h)⟩
theorem Tm.all {ds : List PyData} (h : ∀ d ∈ ds, Tm d) : PyData.showableAll ds = true ∧ PyData.hasDictAll ds = false ∧ PyData.leavesShortAll 13 ds = true := by
  induction ds with
  | nil => exact ⟨rfl, rfl, rfl⟩
  | cons d ds ih =>
    have a := h d List.mem_cons_self
    obtain ⟨b1, b2, b3⟩ := ih fun e m => h e (List.mem_cons_of_mem _ m)
    refine ⟨?_, ?_, ?_⟩
    · show (d.showable && _) = true
      rw [a.s, b1]; rfl
    · show (d.hasDict || _) = false
      rw [a.n, b2]; rfl
    · show (d.leavesShort 13 && _) = true
      rw [a.l, b3]; rfl
theorem Tm.list {ds : List PyData} (h : ∀ d ∈ ds, Tm d) : Tm (.list ds) := ⟨by simp only [PyData.showable]; exact (Tm.all h).1, by simp only [PyData.hasDict]; exact (Tm.all h).2.1, by simp only [PyData.leavesShort]; exact (Tm.all h).2.2⟩
theorem Tm.tuple {ds : List PyData} (h : ∀ d ∈ ds, Tm d) : Tm (.tuple ds) := ⟨by simp only [PyData.showable]; exact (Tm.all h).1, by simp only [PyData.hasDict]; exact (Tm.all h).2.1, by simp only [PyData.leavesShort]; exact (Tm.all h).2.2⟩
theorem wt_int {i : Int} (h : i.natAbs < 2 ^ 40) : (PyData.int i).weight ≤ 40 := by
  simp only [PyData.weight]
  split
  · omega
  · next z =>
    have z0 : i.natAbs ≠ 0 := fun e => z (by rw [Int.natAbs_eq_zero.mp e]; rfl)
    have := (Nat.log2_lt z0).mpr h
    omega
theorem wt_all {ds : List PyData} {n : Nat} (h : ∀ d ∈ ds, d.weight ≤ n) : PyData.weightAll ds ≤ (n + 1) * ds.length := by
  induction ds with
  | nil => simp [PyData.weightAll]
  | cons d ds ih =>
    have a := h d List.mem_cons_self
    have b := ih fun e m => h e (List.mem_cons_of_mem _ m)
    simp only [PyData.weightAll, List.length_cons, Nat.mul_add]
    omega
theorem dep_all {ds : List PyData} {n : Nat} (h : ∀ d ∈ ds, d.depth ≤ n) : PyData.depthAll ds ≤ n := by
  induction ds with
  | nil => simp [PyData.depthAll]
  | cons d ds ih =>
    have a := h d List.mem_cons_self
    have b := ih fun e m => h e (List.mem_cons_of_mem _ m)
    simp only [PyData.depthAll]
    omega
section
variable {K : PySem.W.Frag} {H : Hp} {Q : VK} {a : Addr}
theorem reprX {d : PyData} (h : Dp K H (.ref a) d) (t : Tm d) (dp : d.depth ≤ 60) (wt : d.weight ≤ 2 ^ 20) (q : Q (.str d.shown) H) : rRepr K [.ref a] H Q :=
  ⟨a, d, rfl, h, t.s, dp, t.n, PyData.shown_fits (B := 13) (by decide) (by decide) t.l wt, q⟩
/-- what repr of a list of numbers says -/
def shInts (ns : List Int) : Str := (PyData.list (ns.map PyData.int)).shown
theorem reprInts {ns : List Int} (h : SqL K H a (ns.map V.int)) (hs : ∀ n ∈ ns, n.natAbs < 10 ^ 12) (hl : ns.length ≤ 20000) (q : Q (.str (shInts ns)) H) : rRepr K [.ref a] H Q := by
  refine reprX (.lst h (dp_ints ns)) (.list fun d m => ?_) ?_ ?_ q
  · obtain ⟨n, hn, rfl⟩ := List.mem_map.mp m
    exact .int (hs n hn)
  · simp only [PyData.depth]
    have := dep_all (ds := ns.map PyData.int) (n := 0) fun d m => by
      obtain ⟨n, hn, rfl⟩ := List.mem_map.mp m
      simp [PyData.depth]
    omega
  · simp only [PyData.weight]
    have := wt_all (ds := ns.map PyData.int) (n := 40) fun d m => by
      obtain ⟨n, hn, rfl⟩ := List.mem_map.mp m
      exact wt_int (Nat.lt_of_lt_of_le (hs n hn) (by decide +kernel))
    rw [List.length_map] at this
    omega
/-! ### in, index, a part of a list of numbers -/
theorem flat_ints (ns : List Int) : (ns.map V.int).all flatV = true := by
  rw [List.all_eq_true]
  intro x hx
  obtain ⟨n, _, rfl⟩ := List.mem_map.mp hx
  rfl
theorem inV_ints (p : Int) (ns : List Int) : inV (.int p) (ns.map V.int) = decide (p ∈ ns) := by
  unfold inV
  rw [List.any_map]
  by_cases h : p ∈ ns
  · rw [decide_eq_true h, List.any_eq_true]
    exact ⟨p, h, by simp [eqV]⟩
  · rw [decide_eq_false h, List.any_eq_false]
    intro x hx
    have : x ≠ p := fun e => h (e ▸ hx)
    simp [eqV, this]
theorem inL {p : Int} {ns : List Int} (h : SqL K H a (ns.map V.int)) (q : Q (.bl (decide (p ∈ ns))) H) : rIn K false (.int p) (.ref a) H Q :=
  ⟨a, _, rfl, .inl h, rfl, flat_ints ns, by rw [inV_ints]; exact q⟩
theorem ninL {p : Int} {ns : List Int} (h : SqL K H a (ns.map V.int)) (q : Q (.bl (!decide (p ∈ ns))) H) : rIn K true (.int p) (.ref a) H Q :=
  ⟨a, _, rfl, .inl h, rfl, flat_ints ns, by rw [inV_ints]; exact q⟩
theorem idxL {p : Int} {ns : List Int} (h : SqL K H a (ns.map V.int)) (hp : p ∈ ns) (q : Q (.int (ns.idxOf p : Nat)) H) : rIndex K (.ref a) [.int p] H Q := by
  have hl := List.idxOf_lt_length_of_mem hp
  refine ⟨a, _, _, ns.idxOf p, .int p, rfl, rfl, h, rfl, flat_ints ns, ?_, by simp [eqV], fun m z hm hz => ?_, q⟩
  · rw [List.getElem?_map, List.getElem?_eq_getElem hl, List.getElem_idxOf hl]
    rfl
  · rw [List.getElem?_map] at hz
    have hml : m < ns.length := by omega
    rw [List.getElem?_eq_getElem hml] at hz
    cases hz
    have ne : ns[m] ≠ p := fun e => by
      have := List.not_of_lt_findIdx (p := fun x => x == p) (xs := ns) hm
      simp [e] at this
    simp [eqV, ne]
/-- numbers that are kept -/
theorem kept_ints (n : Nat) (k : Nat → Bool) (f : Nat → Int) : ∃ fr : List Int, kept n k (fun i => V.int (f i)) = fr.map V.int ∧ (∀ x ∈ fr, ∃ i, i < n ∧ k i = true ∧ x = f i) ∧ (fr = [] → ∀ i, i < n → k i = false) := by
  induction n with
  | zero => exact ⟨[], rfl, fun x h => (List.not_mem_nil h).elim, fun _ i h => by omega⟩
  | succ n ih =>
    obtain ⟨fr, h1, h2, h3⟩ := ih
    cases c : k n with
    | true =>
      refine ⟨fr ++ [f n], by rw [kept_yes c, h1, List.map_append]; rfl, fun x h => ?_, fun e => by simp at e⟩
      rcases List.mem_append.mp h with h | h
      · obtain ⟨i, a, b⟩ := h2 x h
        exact ⟨i, by omega, b⟩
      · exact ⟨n, by omega, c, List.mem_singleton.mp h⟩
    | false =>
      refine ⟨fr, by rw [kept_no c, h1], fun x h => ?_, fun e i hi => ?_⟩
      · obtain ⟨i, a, b⟩ := h2 x h
        exact ⟨i, by omega, b⟩
      · by_cases q : i = n
        · rw [q]; exact c
        · exact h3 e i (by omega)
theorem rgV_ints (a b : Int) : rgV a b = ((List.range (b - a).toNat).map fun i => a + ((i : Nat) : Int)).map V.int := by
  unfold rgV
  rw [List.map_map]
  rfl
theorem shp_ints (ns : List Int) : SeqAt.shaped (.list (ns.map PyData.int)) = true := by
  have h1 : ∀ ns : List Int, PyData.canLayAll0 (ns.map PyData.int) = true := fun ns => by
    induction ns with
    | nil => simp [PyData.canLayAll0]
    | cons n ns ih => simp [PyData.canLayAll0, PyData.canLay0, ih]
  have h2 := dep_all (ds := ns.map PyData.int) (n := 0) fun d m => by
      obtain ⟨n, hn, rfl⟩ := List.mem_map.mp m
      simp [PyData.depth]
  show (PyData.canLay0 _ && decide (PyData.depth _ ≤ 64)) = true
  rw [Bool.and_eq_true]
  refine ⟨?_, decide_eq_true ?_⟩
  · simp only [PyData.canLay0]; exact h1 ns
  · simp only [PyData.depth]; omega
theorem eqv_ints : ∀ ns ms : List Int, PyData.eqv (.list (ns.map PyData.int)) (.list (ms.map PyData.int)) = decide (ns = ms) := fun ns ms => by
  simp only [PyData.eqv]
  induction ns generalizing ms with
  | nil => cases ms <;> simp [PyData.eqvAll]
  | cons n ns ih =>
    cases ms with
    | nil => simp [PyData.eqvAll]
    | cons m ms =>
      simp only [List.map_cons, PyData.eqvAll, PyData.eqv, ih]
      by_cases h : n = m
      · subst h; simp
      · simp [h]
theorem eqInts {b : Addr} {ns ms : List Int} (h : SqL K H a (ns.map V.int)) (g : SqL K H b (ms.map V.int)) (q : Q (.bl (decide (ns = ms))) H) : rEqD K (.ref a) (.ref b) H Q :=
  ⟨_, _, .lst h (dp_ints ns), .lst g (dp_ints ms), shp_ints ns, shp_ints ms, by rw [eqv_ints]; exact q⟩
theorem neInts {b : Addr} {ns ms : List Int} (h : SqL K H a (ns.map V.int)) (g : SqL K H b (ms.map V.int)) (q : Q (.bl (!decide (ns = ms))) H) : rNeD K (.ref a) (.ref b) H Q :=
  ⟨_, _, .lst h (dp_ints ns), .lst g (dp_ints ms), shp_ints ns, shp_ints ms, by rw [eqv_ints]; exact q⟩
theorem pickI {ns : List Int} {r : Int} (h0 : 0 ≤ r) (h1 : r < ns.length) : ∃ n, n ∈ ns ∧ atI (ns.map V.int) r = some (.int n) := by
  obtain ⟨v, hv, e⟩ := pick (xs := ns.map V.int) h0 (by rw [List.length_map]; exact h1)
  obtain ⟨n, hn, rfl⟩ := List.mem_map.mp hv
  exact ⟨n, hn, e⟩
theorem cut_to (xs : List V) {i : Int} {j : Nat} (e : i = (j : Int)) (h : j ≤ xs.length) : cutV xs none (some i) = xs.take j := by
  subst e
  unfold cutV
  have e1 : HT.sIx xs.length 0 none = 0 := rfl
  rw [HT.sIx_nat, e1, List.drop_zero, Nat.sub_zero, Nat.min_eq_left h]
theorem slL {lo hi : Option Int} {xs : List V} (h : SqL K H a xs) (q : ∀ p, H p = none → Q (.ref p) (upd H p (.lst (cutV xs lo hi)))) : rSlL K (.ref a) lo hi H Q := ⟨a, xs, rfl, h, q⟩
theorem tyLL {xs : List V} (h : SqL K H a xs) : tyV K "list" (.ref a) H := Or.inl ⟨rfl, _, h⟩
end
end BC
namespace TR
/-! ### trails -/
def Pg (w : Int) (l : List Int) : Prop := ∀ x ∈ l, 0 ≤ x ∧ x < w
def vis (t : List Int) (p : Int) : List Int := if p ∈ t then t.take (t.idxOf p + 1) else t ++ [p]
def trl (row : List Int) : List Int := row.foldl vis []
/-- the lengths of the trails -/
def lens (row : List Int) : List Int := (List.range row.length).map fun i => ((trl (row.take (i + 1))).length : Int)
theorem vis_mem {t : List Int} {p x : Int} (h : x ∈ vis t p) : x ∈ t ∨ x = p := by
  unfold vis at h
  split at h
  · exact .inl (List.mem_of_mem_take h)
  · simpa using h
theorem vis_nodup {t : List Int} {p : Int} (h : t.Nodup) : (vis t p).Nodup := by
  unfold vis
  split
  · exact h.sublist (List.take_sublist _ _)
  · next n =>
    rw [List.nodup_append]
    exact ⟨h, List.nodup_cons.mpr ⟨List.not_mem_nil, List.nodup_nil⟩, fun a ha b hb e => n (by simp at hb; rw [← hb, ← e]; exact ha)⟩
theorem vis_pos (t : List Int) (p : Int) : 1 ≤ (vis t p).length := by
  unfold vis
  split
  · next h =>
    have := List.idxOf_lt_length_of_mem h
    rw [List.length_take]; omega
  · rw [List.length_append, List.length_singleton]; omega
theorem vis_le (t : List Int) (p : Int) : (vis t p).length ≤ t.length + 1 := by
  unfold vis
  split
  · rw [List.length_take]; omega
  · rw [List.length_append, List.length_singleton]; omega
theorem vis_pg {w : Int} {t : List Int} {p : Int} (h : Pg w t) (h0 : 0 ≤ p) (h1 : p < w) : Pg w (vis t p) := fun x hx => by
  rcases vis_mem hx with h2 | rfl
  · exact h x h2
  · exact ⟨h0, h1⟩
theorem trl_snoc {row : List Int} {i : Nat} {p : Int} (h : row[i]? = some p) : trl (row.take (i + 1)) = vis (trl (row.take i)) p := by
  unfold trl
  rw [List.take_add_one, h, List.foldl_append]
  rfl
theorem fold_ok {w : Int} : ∀ {row t : List Int}, Pg w row → Pg w t → t.Nodup → Pg w (row.foldl vis t) ∧ (row.foldl vis t).Nodup
  | [], _, _, h2, h3 => ⟨h2, h3⟩
  | p :: row, t, h1, h2, h3 => fold_ok (row := row) (t := vis t p) (fun x hx => h1 x (List.mem_cons_of_mem _ hx)) (vis_pg h2 (h1 p List.mem_cons_self).1 (h1 p List.mem_cons_self).2) (vis_nodup h3)
theorem Pg.take {w : Int} {l : List Int} (h : Pg w l) (n : Nat) : Pg w (l.take n) := fun x hx => h x (List.mem_of_mem_take hx)
theorem Pg.mono {w v : Int} {l : List Int} (h : Pg w l) (e : w ≤ v) : Pg v l := fun x hx => ⟨(h x hx).1, by have := (h x hx).2; omega⟩
theorem Pg.at {w : Int} {l : List Int} (h : Pg w l) {i : Nat} {p : Int} (e : l[i]? = some p) : 0 ≤ p ∧ p < w := h p (List.mem_of_getElem? e)
theorem pg_nil (w : Int) : Pg w [] := fun _ m => (List.not_mem_nil m).elim
theorem trl_pg {w : Int} {row : List Int} (h : Pg w row) : Pg w (trl row) := (fold_ok h (pg_nil w) List.nodup_nil).1
theorem trl_nodup {w : Int} {row : List Int} (h : Pg w row) : (trl row).Nodup := (fold_ok h (pg_nil w) List.nodup_nil).2
/-- so many different pages at most -/
theorem nodup_len : ∀ (n : Nat) {l : List Int}, l.Nodup → Pg n l → l.length ≤ n
  | 0, [], _, _ => Nat.le_refl _
  | 0, x :: l, _, h => by have := h x List.mem_cons_self; omega
  | n + 1, l, h1, h2 => by
    by_cases m : ((n : Nat) : Int) ∈ l
    · have h3 := nodup_len n (l := l.erase (n : Int)) (h1.erase _) (fun x hx => by
        have a := h2 x (List.mem_of_mem_erase hx)
        have b : x ≠ (n : Int) := fun e => by
          rw [h1.mem_erase_iff] at hx
          exact hx.1 e
        omega)
      have := List.length_erase_of_mem m
      omega
    · have h3 := nodup_len n h1 (fun x hx => by
        have a := h2 x hx
        have b : x ≠ (n : Int) := fun e => m (e ▸ hx)
        omega)
      omega
theorem trl_len {n : Nat} {row : List Int} (h : Pg n row) : (trl row).length ≤ n := nodup_len n (trl_nodup h) (trl_pg h)
theorem lens_len (row : List Int) : (lens row).length = row.length := by unfold lens; rw [List.length_map, List.length_range]
theorem lens_at {row : List Int} {i : Nat} (h : i < row.length) : (lens row)[i]? = some ((trl (row.take (i + 1))).length : Int) := by
  unfold lens
  rw [List.getElem?_map, List.getElem?_range h]
  rfl
end TR

set_option Elab.async false
set_option linter.all false
set_option maxRecDepth 100000
set_option maxHeartbeats 4000000
/-! defs with one keyword-only parameter that has a default -/
namespace BC
open PySem PySem.Spec PyProof.Rows L2 Evl
theorem kwd1 {K : PySem.W.Frag} {x qual : Str} {st : Stmt} {f D : Addr} {ps : List Str} {nm : Str} {v : V} {u : Value} {n : Nat} {oc : Value} {od : Option Addr} {doc pm : Value} {an : Option Addr} {cdv ct : Value} {osl : Array (Option Value)}
    (lk : K.lookup f = some ⟨oc, od, .func (PySem.W.fnOf x qual (defArgs st) (defBody st) (defScope st) .none (.ref D) doc pm an cdv ct), osl⟩) (hcd : PySem.W.codeIn K cdv qual = true) (kp : PySem.W.keepIn K (.ref f) = true)
    (hq : PySem.W.nsIn K D nm = some (some u)) (hr : RelV v u) (hn : n + 1 = ps.length)
    (h : ∀ (D : Addr) (doc pm : Value) (an : Option Addr) (cdv ct : Value) (us ks : List Value), us.length = n → ks.length = 1 →
      KwChain D ([nm].zip ks) (bindArgs (PySem.W.fnOf x qual (defArgs st) (defBody st) (defScope st) .none (.ref D) doc pm an cdv ct) ⟨us, []⟩) (ps.zip (us ++ ks))) :
    ∃ ds, Vals [v] ds ∧ Binds K (PySem.W.fnOf x qual (defArgs st) (defBody st) (defScope st) .none (.ref D) doc pm an cdv ct) ps ds := by
  have F : FunD K x qual (defArgs st) (defBody st) (defScope st) [] [(nm, v)] f (PySem.W.fnOf x qual (defArgs st) (defBody st) (defScope st) .none (.ref D) doc pm an cdv ct) :=
    ⟨⟨oc, od, _, _, doc, pm, an, cdv, ct, osl, rfl, lk, hcd, .inl ⟨rfl, rfl⟩, .inr ⟨D, rfl, fun q hm => by
      obtain rfl : q = (nm, v) := by simpa using hm
      exact ⟨u, hq, hr⟩⟩⟩, kp⟩
  have z := F.binds0 n (by simp) (by simpa using hn) h
  exact z
/-! ### the bag of draws: a list of three numbers -/
def BagAt (H : Hp) (b : Addr) (c : Nat) : Prop := ∃ x0 x1 x2 : Int, H b = some (.lst [.int x0, .int x1, .int x2]) ∧ 0 ≤ x1 ∧ x1 < 10 ^ 65 ∧ 0 ≤ x2 ∧ x2 ≤ c
theorem BagAt.ex {H H' : Hp} {b : Addr} {c : Nat} (h : BagAt H b c) (e : Ex H H') : BagAt H' b c := by
  obtain ⟨x0, x1, x2, hb, r⟩ := h
  exact ⟨x0, x1, x2, e _ _ hb, r⟩
theorem BagAt.mono {H : Hp} {b : Addr} {c d : Nat} (h : BagAt H b c) (e : c ≤ d) : BagAt H b d := by
  obtain ⟨x0, x1, x2, hb, h1, h2, h3, h4⟩ := h
  exact ⟨x0, x1, x2, hb, h1, h2, h3, by omega⟩
theorem BagAt.some {H : Hp} {b : Addr} {c : Nat} (h : BagAt H b c) : ∃ o, H b = Option.some o := by
  obtain ⟨x0, x1, x2, hb, _⟩ := h
  exact ⟨_, hb⟩
theorem BagAt.apart {H : Hp} {b z : Addr} {c : Nat} (h : BagAt H b c) (nz : H z = none) : z ≠ b := fun e => by
  obtain ⟨o, ho⟩ := h.some
  subst e
  rw [ho] at nz
  cases nz
theorem BagAt.off {H : Hp} {b z : Addr} {c : Nat} {o : HO} (h : BagAt H b c) (nz : z ≠ b) : BagAt (upd H z o) b c := by
  obtain ⟨x0, x1, x2, hb, r⟩ := h
  exact ⟨x0, x1, x2, by rw [upd_ne (Ne.symm nz)]; exact hb, r⟩
theorem BagAt.ne {H : Hp} {b z : Addr} {c : Nat} (h : BagAt H b c) (nb : H z = none) : b ≠ z := fun e => h.apart nb e.symm
/-- the greatest number of ways that is drawn from -/
def BIG : Int := 2 ^ 2000
theorem big_of {m : Int} (h : m ≤ 100000) : m ≤ BIG := Int.le_trans h (by decide +kernel)
theorem big_lt {m : Int} (h : 0 < m) (h2 : m ≤ BIG) : m.natAbs < 2 ^ 2001 := by
  have a : m.natAbs ≤ BIG.natAbs := by omega
  exact Nat.lt_of_le_of_lt a (by decide +kernel)
def spDraw : Sp := fun vs H Q _ => ∃ (b : Addr) (m : Int) (c : Nat), vs = [.ref b, .int m] ∧ 0 < m ∧ m ≤ BIG ∧ BagAt H b c ∧ c ≤ 1000000 ∧ ∀ r H', 0 ≤ r → r < m → Fx b H H' → BagAt H' b (c + 1) → Q (.int r) H'
/-! ### lists of lists of numbers, shown -/
def dLL (ls : List (List Int)) : PyData := .list (ls.map fun l => .list (l.map PyData.int))
theorem tm_ints {l : List Int} (h : ∀ x ∈ l, x.natAbs < 10 ^ 12) : Tm (.list (l.map PyData.int)) := .list fun d m => by
  obtain ⟨x, hx, rfl⟩ := List.mem_map.mp m
  exact .int (h x hx)
theorem wt_ints {l : List Int} (h : ∀ x ∈ l, x.natAbs < 10 ^ 12) : (PyData.list (l.map PyData.int)).weight ≤ 41 * l.length := by
  simp only [PyData.weight]
  have := wt_all (ds := l.map PyData.int) (n := 40) fun d m => by
      obtain ⟨n, hn, rfl⟩ := List.mem_map.mp m
      exact wt_int (Nat.lt_of_lt_of_le (h n hn) (by decide +kernel))
  rw [List.length_map] at this
  exact this
theorem dp_ll {K : PySem.W.Frag} {H : Hp} {ps : List Addr} : ∀ {ls : List (List Int)}, ps.length = ls.length → (∀ (i : Nat) (p : Addr) (l : List Int), ps[i]? = some p → ls[i]? = some l → SqL K H p (l.map V.int)) → DpAll K H (ps.map V.ref) (ls.map fun l => PyData.list (l.map PyData.int)) := fun {ls} => by
  induction ps generalizing ls with
  | nil =>
    intro h _
    cases ls with
    | nil => exact .nil
    | cons l ls => simp at h
  | cons p ps ih =>
    intro h g
    cases ls with
    | nil => simp at h
    | cons l ls => exact .cons (.lst (g 0 p l rfl rfl) (dp_ints l)) (ih (by simpa using h) fun i q m a b => g (i + 1) q m (by rw [List.getElem?_cons_succ]; exact a) (by rw [List.getElem?_cons_succ]; exact b))
theorem reprLL {K : PySem.W.Frag} {H : Hp} {Q : VK} {a : Addr} {ls : List (List Int)} {n : Nat} (h : Dp K H (.ref a) (dLL ls)) (hv : ∀ l ∈ ls, ∀ x ∈ l, x.natAbs < 10 ^ 12) (hl : ∀ l ∈ ls, l.length ≤ n) (hz : (41 * n + 1) * ls.length ≤ 2 ^ 20) (q : Q (.str (dLL ls).shown) H) : rRepr K [.ref a] H Q := by
  refine reprX h (.list fun d m => ?_) ?_ ?_ q
  · obtain ⟨l, hm, rfl⟩ := List.mem_map.mp m
    exact tm_ints (hv l hm)
  · unfold dLL
    simp only [PyData.depth]
    have := dep_all (ds := ls.map fun l => PyData.list (l.map PyData.int)) (n := 1) fun d m => by
      obtain ⟨l, hm, rfl⟩ := List.mem_map.mp m
      simp only [PyData.depth]
      have := dep_all (ds := l.map PyData.int) (n := 0) fun d m => by
        obtain ⟨x, hx, rfl⟩ := List.mem_map.mp m
        simp [PyData.depth]
      omega
    omega
  · unfold dLL
    simp only [PyData.weight]
    have := wt_all (ds := ls.map fun l => PyData.list (l.map PyData.int)) (n := 41 * n) fun d m => by
      obtain ⟨l, hm, rfl⟩ := List.mem_map.mp m
      exact Nat.le_trans (wt_ints (hv l hm)) (Nat.mul_le_mul_left _ (hl l hm))
    rw [List.length_map] at this
    omega
theorem k_lenSet {X : Cx} {K : PySem.W.Frag} {a : Expr} {ta : TE} {p p2 q pos : Pos} (hK : X.K = K) (hg : Gl X "len") (hm : X.mg "len" = none) (hg2 : Gl X "set") (hm2 : X.mg "set" = none) (ha : PE X a ta) (hc : X.calm = true := by rfl)
    (na : starEach [a] X.env = (false, eval a X.env) :: starEach [] X.env := by rfl) : PE X (.Call (.Name "len" p) [.Call (.Name "set" p2) [a] [] q] [] pos) (RZ.tLenSetI K ta) := by subst hK; exact RZ.pe_lenSetI hg hm hg2 hm2 ha hc na
theorem x_lenSet {K : PySem.W.Frag} {ta : TE} {σ : L2.St} {H : Hp} {Q : VK} : RZ.tLenSetI K ta σ H Q = ta σ H fun x H1 => ∃ (l : Addr) (ns : List Int), x = .ref l ∧ SqL K H1 l (ns.map V.int) ∧ ns.Nodup ∧ ns.length ≤ 4000 ∧ Q (.int (ns.length : Nat)) H1 := rfl
end BC

set_option Elab.async false
namespace FM
def cf (m t l : Nat) : Int := if l = 0 then (if t = 0 then 1 else 0) else if t < l then 0 else if t = l then 1 else (l : Int) * (m : Int) ^ (t - l - 1)
def lg (m t l : Nat) : Int := if t < l then 0 else (m : Int) ^ (t - l)
theorem lg_step (m t l : Nat) : cf m t l + ((m : Int) - l) * lg m t (l + 1) = lg m t l := by
  unfold cf lg
  by_cases h0 : l = 0
  · subst h0
    by_cases h1 : t = 0
    · subst h1; simp
    · obtain ⟨s, rfl⟩ : ∃ s, t = s + 1 := ⟨t - 1, by omega⟩
      simp [Int.pow_succ]
      grind
  · rw [if_neg h0]
    by_cases h1 : t < l
    · rw [if_pos h1, if_pos (by omega), if_pos h1]; simp
    · rw [if_neg h1, if_neg h1]
      by_cases h2 : t = l
      · subst h2
        simp
      · rw [if_neg h2, if_neg (by omega)]
        obtain ⟨s, rfl⟩ : ∃ s, t = l + 1 + s := ⟨t - l - 1, by omega⟩
        have e1 : l + 1 + s - l - 1 = s := by omega
        have e2 : l + 1 + s - (l + 1) = s := by omega
        have e3 : l + 1 + s - l = s + 1 := by omega
        rw [e1, e2, e3, Int.pow_succ]
        grind
theorem cf_step (m t l : Nat) (h : 1 ≤ l) : cf m t (l - 1) + lg m t l = cf m (t + 1) l := by
  obtain ⟨k, rfl⟩ : ∃ k, l = k + 1 := ⟨l - 1, by omega⟩
  unfold cf lg
  rw [Nat.add_sub_cancel, if_neg (show ¬ k + 1 = 0 by omega)]
  by_cases h0 : k = 0
  · subst h0
    by_cases h1 : t = 0
    · subst h1; simp
    · rw [if_pos rfl, if_neg h1, if_neg (by omega), if_neg (by omega), if_neg (by omega)]
      simp
  · rw [if_neg h0]
    by_cases h1 : t < k
    · rw [if_pos h1, if_pos (by omega), if_pos (by omega)]; simp
    · rw [if_neg h1]
      by_cases h2 : t = k
      · subst h2
        simp
      · rw [if_neg h2, if_neg (by omega), if_neg (by omega), if_neg (by omega)]
        obtain ⟨s, rfl⟩ : ∃ s, t = k + 1 + s := ⟨t - k - 1, by omega⟩
        have e1 : k + 1 + s - k - 1 = s := by omega
        have e2 : k + 1 + s - (k + 1) = s := by omega
        have e3 : k + 1 + s + 1 - (k + 1) - 1 = s := by omega
        rw [e1, e2, e3]
        grind
def pf (m : Nat) : Nat → Int
  | 0 => 1
  | l + 1 => pf m l * ((m : Int) - l)
def fl (m t l : Nat) : Int := pf m l * cf m t l
def TT (m t k : Nat) : Int := pf m k * lg m t k
theorem fl_TT (m t l : Nat) : fl m t l + TT m t (l + 1) = TT m t l := by
  unfold fl TT
  rw [← lg_step m t l]
  show pf m l * cf m t l + pf m l * ((m : Int) - l) * lg m t (l + 1) = _
  grind
def sumTo (f : Nat → Int) : Nat → Int
  | 0 => 0
  | n + 1 => sumTo f n + f n
theorem sum_fl (m t : Nat) : ∀ k, sumTo (fl m t) k + TT m t k = (m : Int) ^ t
  | 0 => by
    show (0 : Int) + pf m 0 * lg m t 0 = _
    unfold lg
    rw [if_neg (by omega)]
    show (0 : Int) + 1 * (m : Int) ^ (t - 0) = _
    simp
  | k + 1 => by
    have ih := sum_fl m t k
    have e := fl_TT m t k
    show sumTo (fl m t) k + fl m t k + TT m t (k + 1) = _
    omega
theorem pf_zero (m : Nat) : pf m (m + 1) = 0 := by
  show pf m m * ((m : Int) - m) = 0
  simp
theorem TT_zero (m t : Nat) : TT m t (m + 1) = 0 := by
  unfold TT
  rw [pf_zero]
  simp
theorem sum_all (m t : Nat) : sumTo (fl m t) (m + 1) = (m : Int) ^ t := by
  have h := sum_fl m t (m + 1)
  rw [TT_zero] at h
  omega
theorem sum_lfl (m t : Nat) : ∀ k : Nat, sumTo (fun l => (l : Int) * fl m t l) k + (k : Int) * TT m t k = sumTo (fun l => TT m t (l + 1)) k
  | 0 => by simp [sumTo]
  | k + 1 => by
    have ih := sum_lfl m t k
    have e := fl_TT m t k
    show sumTo (fun l => (l : Int) * fl m t l) k + (k : Int) * fl m t k + ((k + 1 : Nat) : Int) * TT m t (k + 1) = sumTo (fun l => TT m t (l + 1)) k + TT m t (k + 1)
    rw [← ih, ← e]
    grind
def top (m t : Nat) : Int := sumTo (fun l => TT m t (l + 1)) m
theorem top_eq (m t : Nat) : sumTo (fun l => (l : Int) * fl m t l) (m + 1) = top m t := by
  have h := sum_lfl m t (m + 1)
  rw [TT_zero] at h
  have e : sumTo (fun l => TT m t (l + 1)) (m + 1) = top m t + TT m t (m + 1) := rfl
  rw [e, TT_zero] at h
  omega
theorem pf_nn (m : Nat) : ∀ k, k ≤ m → 0 ≤ pf m k
  | 0, _ => by show (0 : Int) ≤ 1; omega
  | k + 1, h => by
    have ih := pf_nn m k (by omega)
    exact Int.mul_nonneg ih (by omega)
theorem pow_nn (m n : Nat) : (0 : Int) ≤ (m : Int) ^ n := Int.pow_nonneg (by omega)
theorem lg_nn (m t k : Nat) : 0 ≤ lg m t k := by
  unfold lg
  split
  · omega
  · exact pow_nn _ _
theorem pf_le (m : Nat) : ∀ k, k ≤ m → pf m k ≤ (m : Int) ^ k
  | 0, _ => by show (1 : Int) ≤ _; simp
  | k + 1, h => by
    have ih := pf_le m k (by omega)
    have nn := pf_nn m k (by omega)
    rw [Int.pow_succ]
    show pf m k * ((m : Int) - k) ≤ _
    exact Int.mul_le_mul ih (by omega) (by omega) (pow_nn _ _)
theorem TT_nn (m t k : Nat) (h : k ≤ m) : 0 ≤ TT m t k := Int.mul_nonneg (pf_nn m k h) (lg_nn m t k)
theorem TT_le (m t k : Nat) (h : k ≤ m) : TT m t k ≤ (m : Int) ^ t := by
  unfold TT lg
  split
  · simp; exact pow_nn _ _
  · have e : (m : Int) ^ t = (m : Int) ^ k * (m : Int) ^ (t - k) := by
      rw [← Int.pow_add]
      congr 1
      omega
    rw [e]
    exact Int.mul_le_mul_of_nonneg_right (pf_le m k h) (pow_nn _ _)
theorem TT_mono (m t k : Nat) (h : k ≤ m) : (m : Int) * TT m t k ≤ TT m (t + 1) k := by
  have nn := pf_nn m k h
  have e : (m : Int) * lg m t k ≤ lg m (t + 1) k := by
    by_cases h1 : t < k
    · have : lg m t k = 0 := by unfold lg; rw [if_pos h1]
      rw [this]
      simp
      exact lg_nn _ _ _
    · unfold lg
      rw [if_neg h1, if_neg (by omega)]
      have e : t + 1 - k = (t - k) + 1 := by omega
      rw [e, Int.pow_succ, Int.mul_comm]
      exact Int.le_refl _
  unfold TT
  have := Int.mul_le_mul_of_nonneg_left e nn
  calc (m : Int) * (pf m k * lg m t k) = pf m k * ((m : Int) * lg m t k) := by grind
    _ ≤ _ := this
theorem sumTo_le {f g : Nat → Int} : ∀ n, (∀ i, i < n → f i ≤ g i) → sumTo f n ≤ sumTo g n
  | 0, _ => Int.le_refl _
  | n + 1, h => Int.add_le_add (sumTo_le n fun i hi => h i (by omega)) (h n (by omega))
theorem sumTo_mul (c : Int) (f : Nat → Int) : ∀ n, sumTo (fun i => c * f i) n = c * sumTo f n
  | 0 => by simp [sumTo]
  | n + 1 => by
    show sumTo (fun i => c * f i) n + c * f n = c * (sumTo f n + f n)
    rw [sumTo_mul c f n]
    grind
theorem sumTo_const (c : Int) : ∀ n : Nat, sumTo (fun _ => c) n = n * c
  | 0 => by simp [sumTo]
  | n + 1 => by
    show sumTo (fun _ => c) n + c = _
    rw [sumTo_const c n]
    grind
theorem top_mono (m t : Nat) : (m : Int) * top m t ≤ top m (t + 1) := by
  unfold top
  rw [← sumTo_mul]
  exact sumTo_le _ fun i hi => TT_mono m t (i + 1) (by omega)
theorem top_le (m t : Nat) : top m t ≤ m * (m : Int) ^ t := by
  unfold top
  rw [← sumTo_const]
  exact sumTo_le _ fun i hi => TT_le m t (i + 1) (by omega)
theorem sumTo_nn {f : Nat → Int} : ∀ n, (∀ i, i < n → 0 ≤ f i) → 0 ≤ sumTo f n
  | 0, _ => Int.le_refl _
  | n + 1, h => Int.add_nonneg (sumTo_nn n fun i hi => h i (by omega)) (h n (by omega))
theorem top_nn (m t : Nat) : 0 ≤ top m t := sumTo_nn _ fun i hi => TT_nn m t (i + 1) (by omega)
theorem sumTo_first {f : Nat → Int} : ∀ n, 0 < n → (∀ i, i < n → 0 ≤ f i) → f 0 ≤ sumTo f n
  | 1, _, _ => by show f 0 ≤ 0 + f 0; omega
  | n + 2, _, h => by
    have := sumTo_first (f := f) (n + 1) (by omega) fun i hi => h i (by omega)
    have h2 := h (n + 1) (by omega)
    show f 0 ≤ sumTo f (n + 1) + f (n + 1)
    omega
theorem top_ge (m t : Nat) (hm : 1 ≤ m) (ht : 1 ≤ t) : (m : Int) ^ t ≤ top m t := by
  have h := sumTo_first (f := fun l => TT m t (l + 1)) m hm fun i hi => TT_nn m t (i + 1) (by omega)
  have e : TT m t 1 = (m : Int) ^ t := by
    show pf m 0 * ((m : Int) - (0 : Nat)) * lg m t 1 = _
    unfold lg
    rw [if_neg (by omega)]
    obtain ⟨s, rfl⟩ : ∃ s, t = s + 1 := ⟨t - 1, by omega⟩
    show 1 * ((m : Int) - (0 : Nat)) * (m : Int) ^ (s + 1 - 1) = _
    rw [Nat.add_sub_cancel, Int.pow_succ]
    simp
    exact Int.mul_comm _ _
  unfold top
  show _ ≤ sumTo (fun l => TT m t (l + 1)) m
  rw [← e]
  exact h
theorem cf_nn (m t l : Nat) : 0 ≤ cf m t l := by
  unfold cf
  split
  · split <;> omega
  · split
    · omega
    · split
      · omega
      · exact Int.mul_nonneg (by omega) (pow_nn _ _)
theorem pow_mono {a b : Nat} (h : a ≤ b) : ∀ n : Nat, (a : Int) ^ n ≤ (b : Int) ^ n
  | 0 => by simp
  | n + 1 => by
    rw [Int.pow_succ, Int.pow_succ]
    exact Int.mul_le_mul (pow_mono h n) (by omega) (by omega) (pow_nn _ _)
theorem cf_mono (m t l : Nat) : cf m t l ≤ cf (m + 1) t l := by
  unfold cf
  split
  · exact Int.le_refl _
  · split
    · exact Int.le_refl _
    · split
      · exact Int.le_refl _
      · refine Int.mul_le_mul_of_nonneg_left ?_ (by omega)
        exact pow_mono (by omega) _
theorem cf_full (m t : Nat) (hm : 1 ≤ m) : cf m (t + 1) m = cf m t (m - 1) + cf m t m := by
  have h1 := cf_step m t m hm
  have h2 := lg_step m t m
  have h3 : ((m : Int) - m) = 0 := by omega
  rw [h3] at h2
  omega
theorem fl_one (m t : Nat) : fl m t 1 = if t = 0 then 0 else if t = 1 then (m : Int) else (m : Int) ^ (t - 1) := by
  show pf m 0 * ((m : Int) - (0 : Nat)) * cf m t 1 = _
  show 1 * ((m : Int) - (0 : Nat)) * cf m t 1 = _
  unfold cf
  by_cases h0 : t = 0
  · subst h0; simp
  · rw [if_neg (by omega), if_neg (by omega), if_neg h0]
    by_cases h1 : t = 1
    · subst h1; simp
    · rw [if_neg h1, if_neg h1]
      obtain ⟨s, rfl⟩ : ∃ s, t = s + 2 := ⟨t - 2, by omega⟩
      have e1 : s + 2 - 1 - 1 = s := by omega
      have e2 : s + 2 - 1 = s + 1 := by omega
      rw [e1, e2, Int.pow_succ]
      simp
      exact Int.mul_comm _ _
theorem fl_zero (m t : Nat) : fl m t 0 = if t = 0 then 1 else 0 := by
  show 1 * cf m t 0 = _
  unfold cf
  simp
/-! sizes -/
theorem pow_lt {m n e : Nat} (hm : m ≤ 64) (h : 6 * n < e) : ((m : Int) ^ n).natAbs < 2 ^ e := by
  have h1 : ((m : Int) ^ n) ≤ ((64 : Nat) : Int) ^ n := pow_mono hm n
  have h0 := pow_nn m n
  have h2 : (((64 : Nat) : Int) ^ n) = ((2 ^ (6 * n) : Nat) : Int) := by
    rw [Nat.pow_mul]
    simp
  have h3 : (2 : Nat) ^ (6 * n) < 2 ^ e := Nat.pow_lt_pow_right (by omega) h
  omega
theorem lt_of_le {a b : Int} {e : Nat} (h0 : 0 ≤ a) (h : a ≤ b) (hb : b.natAbs < 2 ^ e) : a.natAbs < 2 ^ e := by omega
theorem cf_le (m t l : Nat) (hm : 1 ≤ m) : cf m t l ≤ ((l + 1 : Nat) : Int) * (m : Int) ^ t := by
  have p1 : (1 : Int) ≤ (m : Int) ^ t := by
    have := pow_mono (a := 1) (b := m) hm t
    rw [show ((1 : Nat) : Int) = 1 from rfl, Int.one_pow] at this
    exact this
  have p2 : ((l + 1 : Nat) : Int) * 1 ≤ ((l + 1 : Nat) : Int) * (m : Int) ^ t := Int.mul_le_mul_of_nonneg_left p1 (by omega)
  unfold cf
  split
  · split <;> omega
  · split
    · omega
    · split
      · omega
      · rename_i h1 h2 h3
        have p3 : (m : Int) ^ (t - l - 1) ≤ (m : Int) ^ t := by
          have e : (m : Int) ^ t = (m : Int) ^ (t - l - 1) * (m : Int) ^ (l + 1) := by
            rw [← Int.pow_add]
            congr 1
            omega
          have q : (1 : Int) ≤ (m : Int) ^ (l + 1) := by
            have := pow_mono (a := 1) (b := m) hm (l + 1)
            rw [show ((1 : Nat) : Int) = 1 from rfl, Int.one_pow] at this
            exact this
          rw [e]
          have := Int.mul_le_mul_of_nonneg_left q (pow_nn m (t - l - 1))
          omega
        exact Int.mul_le_mul (by omega) p3 (pow_nn _ _) (by omega)
theorem cf_lt (m t l : Nat) (hm : 1 ≤ m) (hm2 : m ≤ 40) (ht : t ≤ 201) (hl : l ≤ 40) : (cf m t l).natAbs < 2 ^ 1300 := by
  refine lt_of_le (cf_nn _ _ _) (cf_le m t l hm) ?_
  rw [Int.natAbs_mul]
  have h1 : ((m : Int) ^ t).natAbs < 2 ^ 1250 := pow_lt (by omega) (by omega)
  have h2 : (((l + 1 : Nat) : Int)).natAbs < 2 ^ 50 := by
    have : (2 : Nat) ^ 50 = 1125899906842624 := by decide
    omega
  have := Nat.mul_lt_mul'' h2 h1
  rw [← Nat.pow_add] at this
  exact this
theorem lg_lt (m t l : Nat) (hm2 : m ≤ 40) (ht : t ≤ 201) : (lg m t l).natAbs < 2 ^ 1300 := by
  unfold lg
  split
  · exact Nat.two_pow_pos _
  · exact pow_lt (by omega) (by omega)
theorem pf_lt (m l : Nat) (hm2 : m ≤ 40) (hl : l ≤ m) : (pf m l).natAbs < 2 ^ 300 := by
  refine lt_of_le (pf_nn m l hl) (pf_le m l hl) ?_
  exact pow_lt (by omega) (by omega)
theorem top_lt (m t : Nat) (hm2 : m ≤ 40) (ht : t ≤ 201) : (top m t).natAbs < 2 ^ 1300 := by
  refine lt_of_le (top_nn m t) (top_le m t) ?_
  have e : (m : Int) * (m : Int) ^ t = (m : Int) ^ (t + 1) := by rw [Int.pow_succ, Int.mul_comm]
  rw [e]
  exact pow_lt (by omega) (by omega)
end FM

set_option Elab.async false
set_option linter.all false
set_option maxRecDepth 100000
set_option maxHeartbeats 4000000
/-! sorted(set(xs)) of a list of numbers -/
namespace BC
open PySem PySem.Spec PyProof.Rows L2 Evl RZ
/-- the set that set() starts with -/
abbrev set0 (w : World) : Obj := { cls := .type "set", dict := none, data := .set #[] 0 (.fresh 0 0 (!w.params.followText "set-order")) }
abbrev with0 (w : World) (s : Shared) : Shared := { s with heap := s.heap.push (set0 w) }
section
variable {P : Program} {w : World} {A : Around} {E : Value → Shared → Prop} {s : Shared}
set_option maxHeartbeats 3200000 in
theorem set_of_list {l : Addr} {its : Array Value} (ns : List Int) {Q : Value → Shared → Prop} (hh : A.handled = none) (hl : s.heap.IsList l its) (hit : IntsAre its.toList ns) (hb : ns.length + 1 < scanBound)
    (fin : ∀ (h' : Heap) (tk c : Nat), SetR w h' s.heap.objs.size (fun j => decide (j ∈ ns)) c → c ≤ ns.length → (∀ b o, s.heap.get? b = some o → h'.get? b = some o) → Q (.ref s.heap.objs.size) { s with heap := h', toks := tk }) :
    wpAny (model P w) A (call (.type "set") [.ref l]) Q E s := by
  have many : its.size = ns.length := by rw [← IntsAre.length hit, Array.length_toList]
  obtain ⟨c, tl, hmro⟩ := F.called_set.mro
  have m1 := F.called_set.made
  have m2 := F.called_set.sub
  refine wpAny_call (codeAny_of_tree (wpAny_pure ⟨Code.quiet_builtin _ (by decide +kernel), codeAny_builtin F.entry_type_call ?_⟩))
  rw [Around.under_plain (weight_type_call_type "set" [.ref l] []) rfl]
  have m3 := F.called_set.notType
  have m4 := F.called_set.canCreate
  have m5 := F.typeCall_set_1 (.ref l)
  repeat (any_goals (first | assumption | wp_step))
  refine codeAny_mono (code_set_led1 (.ref l) (E := E) (Q₁ := fun obj s₁ => obj = .ref s.heap.objs.size ∧ s₁ = with0 w s) ⟨rfl, rfl⟩) fun r s₁ hr => ?_
  match r, hr with
  | .error e, hr => exact hr
  | .ok .next, hr => exact hr.elim
  | .ok .brk, hr => exact hr.elim
  | .ok .cont, hr => exact hr.elim
  | .ok (.ret obj), hr =>
    obtain ⟨rfl, rfl⟩ := hr
    have at0 : (s.heap.push (set0 w)).get? s.heap.objs.size = some (set0 w) := Heap.get?_push_size _ rfl
    have ty0 : Shared.TypeIs (with0 w s) (.ref s.heap.objs.size) "set" := ⟨_, at0, rfl⟩
    have i1 := F.called_set.init.lookup
    have i2 := F.called_set.init.bind (.ref s.heap.objs.size)
    repeat (any_goals (first | assumption | wp_step))
    refine codeAny_mono (codeAny_call_builtin (R := wants (fun r s₂ => r = .none ∧ ∃ h' tk c, s₂ = { s with heap := h', toks := tk } ∧ SetR w h' s.heap.objs.size (fun j => decide (j ∈ ns)) c ∧ c ≤ ns.length ∧ (∀ b o, s.heap.get? b = some o → h'.get? b = some o)) E)
      F.called_set.init.plain F.entry_set_init (check_set_init_1 ty0 ?_)) fun r₂ s₂ hr₂ => ?_
    · obtain ⟨⟨oc, od, dt, osl⟩, old, e1, nl, e2⟩ := hl
      obtain rfl : oc = .type "list" := e1
      obtain rfl : dt = .seq its nl := e2
      have pushed := Heap.get?_push_of_some (set0 w) old
      have isl : (s.heap.push (set0 w)).IsList l its := ⟨_, pushed, rfl, nl, rfl⟩
      have k1 := F.sub_list_set
      have k2 := F.sub_list_frozenset
      have k3 : (Value.type "list" == Value.type "dict") = false := by decide
      have hltl : l < s.heap.objs.size := Heap.lt_size old
      unfold Builtin.«set.__init__» noKeywords Builtin.Frozenset.updateFrom
      generalize hPI : pyIter = PI
      wp_walk
      subst hPI
      refine wpAny_pyIter_list isl (wpAny_bind (wpAny_runValue ?_))
      have calm3 : A.in1.in1.in1.handled = none := by simp [hh]
      have psz : (s.heap.push (set0 w)).objs.size = s.heap.objs.size + 1 := Heap.size_push ..
      have apart : l ≠ (s.heap.push (set0 w)).objs.size := fun z => Nat.lt_irrefl l (by rw [psz] at z; exact Nat.lt_of_lt_of_le hltl (by rw [z]; exact Nat.le_succ _))
      have away : s.heap.objs.size ∉ [(s.heap.push (set0 w)).objs.size, l] := by
        rw [psz]
        intro z
        simp only [List.mem_cons, List.mem_nil_iff, or_false] at z
        rcases z with z | z
        · exact absurd z (Nat.ne_of_lt (Nat.lt_succ_self _))
        · exact absurd z (Nat.ne_of_gt hltl)
      have items : ∀ (i : Nat) (v : Value), its[i]? = some v → ∃ k t, ns[i]? = some k ∧ v = .int k t := fun i v hv => by
        have hi : i < ns.length := by rw [← many]; exact (Array.getElem?_eq_some_iff.mp hv).1
        obtain ⟨t, e⟩ := IntsAre.int_at hit i v (by rw [Array.getElem?_toList]; exact hv)
        refine ⟨ns[i], t, List.getElem?_eq_getElem hi, ?_⟩
        rw [e, List.getD_eq_getElem?_getD, List.getElem?_eq_getElem hi]
        rfl
      refine set_update_ints ((Walks.list calm3 _ l apart its).toS) s.heap.objs.size away ns many hb items its.size 0 _ (by omega) (Nat.zero_le _) ⟨⟨_, Heap.get?_push_size _ rfl, rfl, rfl⟩, (isl.push _)⟩ ⟨0, Nat.le_refl 0, ?_⟩ fun s' c' mv hc' hS' => ?_
      · exact setR_new_at (Heap.get?_push_of_some _ at0)
      · obtain ⟨h', g2, d', tk', os'⟩ := s'
        obtain rfl : g2 = s.gens := mv.gens
        obtain rfl : d' = s.drawn := mv.drawn
        obtain rfl : os' = s.os := mv.os
        refine wpAny_pure (wpAny_pure ⟨rfl, h', tk', c', rfl, hS', by rw [many] at hc'; exact hc', fun b o e => ?_⟩)
        have lt := Heap.lt_size e
        refine mv.heap b o ?_ (Heap.get?_push_of_some _ (Heap.get?_push_of_some _ e))
        intro z
        rw [psz] at z
        simp only [List.mem_cons, List.mem_nil_iff, or_false] at z
        rcases z with z | z
        · exact absurd z (Nat.ne_of_lt lt)
        · exact absurd z (Nat.ne_of_lt (Nat.lt_succ_of_lt lt))
    · match r₂, hr₂ with
      | .error e, hr₂ => exact hr₂
      | .ok .next, hr₂ => exact hr₂.elim
      | .ok .brk, hr₂ => exact hr₂.elim
      | .ok .cont, hr₂ => exact hr₂.elim
      | .ok (.ret r), hr₂ =>
        obtain ⟨rfl, h', tk, c', rfl, q1, q2, q3⟩ := hr₂
        repeat (any_goals (first | assumption | wp_step))
        exact fin _ _ _ q1 q2 q3
end
section
variable {X : Cx} {K : PySem.W.Frag} {a : Expr} {ta : TE} {p p2 q pos : Pos}
/-- sorted(set(xs)): the different numbers in order -/
def tSortSet (K : PySem.W.Frag) (ta : TE) : TE := fun σ H Q => ta σ H fun x H1 => ∃ (l : Addr) (ns : List Int), x = .ref l ∧ SqL K H1 l (ns.map V.int) ∧ ns.length < 64 ∧
  ∀ (ms : List Int) r, ms.Pairwise (· < ·) → (∀ k : Int, k ∈ ms ↔ k ∈ ns) → H1 r = none → Q (.ref r) (upd H1 r (.lst (ms.map V.int)))
theorem k_sortSet (hK : X.K = K) (hg : Gl X "sorted") (hm : X.mg "sorted" = none) (hg2 : Gl X "set") (hm2 : X.mg "set" = none) (ha : PE X a ta) (hc : X.calm = true := by rfl)
    (na : starEach [a] X.env = (false, eval a X.env) :: starEach [] X.env := by rfl) : PE X (.Call (.Name "sorted" p) [.Call (.Name "set" p2) [a] [] q] [] pos) (tSortSet K ta) := by
  subst hK
  refine ⟨fun pins s σ H Q I h => ?_⟩
  refine Call_ (ld_blt I hg hm (show bootBuiltins ("sorted" : Str) = some (.builtin "sorted") by decide +kernel) ?_)
  refine callWith_builtin1 (args_cons ?_ rfl) rfl rfl
  refine Call_ (ld_blt I hg2 hm2 boot_set ?_)
  refine callWith_type1 (args_cons (thn (ha.run pins s σ H _ I h) fun v s1 ⟨x, H1, I1, r1, q1⟩ => args_nil ?_) na) na rfl
  obtain ⟨l, ns, rfl, hq, hl, q1⟩ := q1
  cases r1
  obtain ⟨its, r, pl, hz⟩ := I1.list hq
  refine set_of_list ns (I1.ok.hd hc) pl.isList (by simpa using intsAre_vals r) (by unfold scanBound; omega) fun h' tk c hS hcl hk => ?_
  refine args_nil ?_
  have I2 : Inv X pins σ H1 { s1 with heap := h', toks := tk } := I1.kept hk
  refine sorted_set hS (I2.ok.hd hc) (by omega) fun s' p out c2 ms k g o hp hg hi hs hm hlen => ?_
  have few : (ms.map V.int).length ≤ sizeLine := by rw [List.length_map, hlen, sizeLine_eq]; omega
  have hn : H1 p = none := I2.hok.fresh hp
  have J : Inv X pins σ (upd H1 p (.lst (ms.map V.int))) { ({ s1 with heap := h', toks := tk } : Shared) with heap := s'.heap, gens := s'.gens, drawn := s'.drawn, toks := s'.toks } :=
    I2.call (ch := []) (Un.laid k hp hn) (I2.hok.laid k hp ⟨few, out.toList, c2, vals_of_ints hi, hg⟩) (by rw [g]; exact I2.bare) (fun _ z => nomatch z)
  have e : s' = { ({ s1 with heap := h', toks := tk } : Shared) with heap := s'.heap, gens := s'.gens, drawn := s'.drawn, toks := s'.toks } := by
    cases s'
    cases o
    rfl
  rw [e]
  exact ⟨.ref p, _, J, rfl, q1 ms p hs (fun k => by rw [hm k, decide_eq_true_eq]) hn⟩
theorem x_sortSet {σ : L2.St} {H : Hp} {Q : VK} : tSortSet K ta σ H Q = ta σ H fun x H1 => ∃ (l : Addr) (ns : List Int), x = .ref l ∧ SqL K H1 l (ns.map V.int) ∧ ns.length < 64 ∧
  ∀ (ms : List Int) r, ms.Pairwise (· < ·) → (∀ k : Int, k ∈ ms ↔ k ∈ ns) → H1 r = none → Q (.ref r) (upd H1 r (.lst (ms.map V.int))) := rfl
end
/-- two ascending lists of the same numbers are the same -/
theorem asc_same : ∀ {a b : List Int}, a.Pairwise (· < ·) → b.Pairwise (· < ·) → (∀ k : Int, k ∈ a ↔ k ∈ b) → a = b
  | [], [], _, _, _ => rfl
  | [], y :: b, _, _, h => absurd ((h y).mpr List.mem_cons_self) List.not_mem_nil
  | x :: a, [], _, _, h => absurd ((h x).mp List.mem_cons_self) List.not_mem_nil
  | x :: a, y :: b, ha, hb, h => by
    rw [List.pairwise_cons] at ha hb
    have xy : x = y := by
      have h1 := (h x).mp List.mem_cons_self
      have h2 := (h y).mpr List.mem_cons_self
      rcases List.mem_cons.mp h1 with e | e
      · exact e
      · rcases List.mem_cons.mp h2 with e2 | e2
        · exact e2.symm
        · have := ha.1 y e2
          have := hb.1 x e
          omega
    subst xy
    rw [asc_same ha.2 hb.2 fun k => ⟨fun m => by
      rcases List.mem_cons.mp ((h k).mp (List.mem_cons_of_mem _ m)) with e | e
      · subst e; have := ha.1 k m; omega
      · exact e, fun m => by
      rcases List.mem_cons.mp ((h k).mpr (List.mem_cons_of_mem _ m)) with e | e
      · subst e; have := hb.1 k m; omega
      · exact e⟩]
end BC

set_option Elab.async false
set_option linter.all false
set_option maxRecDepth 100000
set_option maxHeartbeats 4000000
/-! sorted(set(xs)), len(set(xs)) of a longer list of numbers, with doubles -/
namespace BC
open PySem PySem.Spec PyProof.Rows L2 Evl RZ
theorem sub_len : ∀ {a b : List Int}, a.Nodup → (∀ x ∈ a, x ∈ b) → a.length ≤ b.length
  | [], _, _, _ => Nat.zero_le _
  | x :: a, b, nd, h => by
    rw [List.nodup_cons] at nd
    have hx := h x List.mem_cons_self
    have ih := sub_len (a := a) (b := b.erase x) nd.2 fun y hy => (List.mem_erase_of_ne (fun e => nd.1 (by rw [← e]; exact hy))).mpr (h y (List.mem_cons_of_mem _ hy))
    rw [List.length_erase_of_mem hx] at ih
    have := List.length_pos_of_mem hx
    rw [List.length_cons]
    omega
theorem dup_len {a b : List Int} (nd : a.Nodup) (h : ∀ x ∈ a, x ∈ b) (g : ∀ x ∈ b, x ∈ a) (e : a.length = b.length) : b.Nodup := by
  induction b generalizing a with
  | nil => exact List.nodup_nil
  | cons y b ih =>
    have hy := g y List.mem_cons_self
    have el := List.length_erase_of_mem hy
    have pos := List.length_pos_of_mem hy
    by_cases q : y ∈ b
    · have : a.length ≤ b.length := sub_len nd fun x hx => by
        rcases List.mem_cons.mp (h x hx) with rfl | m
        · exact q
        · exact m
      rw [List.length_cons] at e
      omega
    · rw [List.nodup_cons]
      refine ⟨q, ih (a := a.erase y) (nd.erase y) (fun x hx => ?_) (fun x hx => ?_) ?_⟩
      · have hne := (List.Nodup.mem_erase_iff nd).mp hx
        rcases List.mem_cons.mp (h x hne.2) with rfl | m
        · exact absurd rfl hne.1
        · exact m
      · exact (List.Nodup.mem_erase_iff nd).mpr ⟨fun z => q (by rw [← z]; exact hx), g x (List.mem_cons_of_mem _ hx)⟩
      · rw [List.length_cons] at e
        omega
theorem range_len {a : List Int} {m : Nat} (nd : a.Nodup) (h : ∀ x ∈ a, 0 ≤ x ∧ x < m) : a.length ≤ m := by
  have := sub_len (b := (List.range m).map fun i : Nat => (i : Int)) nd fun x hx => by
    have := h x hx
    exact List.mem_map.mpr ⟨x.toNat, List.mem_range.mpr (by omega), by show ((x.toNat : Nat) : Int) = x; omega⟩
  rw [List.length_map, List.length_range] at this
  exact this
section
variable {w : World} {h : Heap} {a : Addr} {S : Int → Bool} {n m : Nat}
theorem setR_few (R : SetR w h a S n) (hb : ∀ k, S k = true → 0 ≤ k ∧ k < m) : n ≤ m := by
  obtain ⟨o, es, ep, t, ho, hex, hd, g, nd, hm, hbd, hf, hn, hr, hl⟩ := R
  have := range_len (m := m) nd fun x hx => hb x ((hm x).mpr hx)
  rw [List.length_map, Array.length_toList] at this
  omega
theorem setR_count {ns : List Int} (R : SetR w h a (fun j => decide (j ∈ ns)) n) : n = ns.length ↔ ns.Nodup := by
  obtain ⟨o, es, ep, t, ho, hex, hd, g, nd, hm, hbd, hf, hn, hr, hl⟩ := R
  have sub : ∀ x ∈ es.toList.map keyOf, x ∈ ns := fun x hx => of_decide_eq_true ((hm x).mpr hx)
  have sup : ∀ x ∈ ns, x ∈ es.toList.map keyOf := fun x hx => (hm x).mp (decide_eq_true hx)
  have e1 : (es.toList.map keyOf).length = n := by rw [List.length_map, Array.length_toList]; exact hn
  constructor
  · intro e
    exact dup_len nd sub sup (by rw [e1]; exact e)
  · intro q
    have := sub_len q sup
    have := sub_len nd sub
    omega
end
section
variable {X : Cx} {K : PySem.W.Frag} {a : Expr} {ta : TE} {p p2 q pos : Pos}
/-- sorted(set(xs)): numbers below 60, as many as there are -/
def tSortSetB (K : PySem.W.Frag) (ta : TE) : TE := fun σ H Q => ta σ H fun x H1 => ∃ (l : Addr) (ns : List Int), x = .ref l ∧ SqL K H1 l (ns.map V.int) ∧ ns.length ≤ 4000 ∧ (∀ k ∈ ns, 0 ≤ k ∧ k < (60 : Nat)) ∧
  ∀ (ms : List Int) r, ms.Pairwise (· < ·) → (∀ k : Int, k ∈ ms ↔ k ∈ ns) → H1 r = none → Q (.ref r) (upd H1 r (.lst (ms.map V.int)))
theorem k_sortSetB (hK : X.K = K) (hg : Gl X "sorted") (hm : X.mg "sorted" = none) (hg2 : Gl X "set") (hm2 : X.mg "set" = none) (ha : PE X a ta) (hc : X.calm = true := by rfl)
    (na : starEach [a] X.env = (false, eval a X.env) :: starEach [] X.env := by rfl) : PE X (.Call (.Name "sorted" p) [.Call (.Name "set" p2) [a] [] q] [] pos) (tSortSetB K ta) := by
  subst hK
  refine ⟨fun pins s σ H Q I h => ?_⟩
  refine Call_ (ld_blt I hg hm (show bootBuiltins ("sorted" : Str) = some (.builtin "sorted") by decide +kernel) ?_)
  refine callWith_builtin1 (args_cons ?_ rfl) rfl rfl
  refine Call_ (ld_blt I hg2 hm2 boot_set ?_)
  refine callWith_type1 (args_cons (thn (ha.run pins s σ H _ I h) fun v s1 ⟨x, H1, I1, r1, q1⟩ => args_nil ?_) na) na rfl
  obtain ⟨l, ns, rfl, hq, hl, hb, q1⟩ := q1
  cases r1
  obtain ⟨its, r, pl, hz⟩ := I1.list hq
  refine set_of_list ns (I1.ok.hd hc) pl.isList (by simpa using intsAre_vals r) (by unfold scanBound; omega) fun h' tk c hS hcl hk => ?_
  refine args_nil ?_
  have I2 : Inv X pins σ H1 { s1 with heap := h', toks := tk } := I1.kept hk
  have few60 := setR_few (m := 60) hS fun k hk => hb k (of_decide_eq_true hk)
  refine sorted_set hS (I2.ok.hd hc) (by omega) fun s' p out c2 ms k g o hp hg hi hs hm hlen => ?_
  have few : (ms.map V.int).length ≤ sizeLine := by rw [List.length_map, hlen, sizeLine_eq]; omega
  have hn : H1 p = none := I2.hok.fresh hp
  have J : Inv X pins σ (upd H1 p (.lst (ms.map V.int))) { ({ s1 with heap := h', toks := tk } : Shared) with heap := s'.heap, gens := s'.gens, drawn := s'.drawn, toks := s'.toks } :=
    I2.call (ch := []) (Un.laid k hp hn) (I2.hok.laid k hp ⟨few, out.toList, c2, vals_of_ints hi, hg⟩) (by rw [g]; exact I2.bare) (fun _ z => nomatch z)
  have e : s' = { ({ s1 with heap := h', toks := tk } : Shared) with heap := s'.heap, gens := s'.gens, drawn := s'.drawn, toks := s'.toks } := by
    cases s'
    cases o
    rfl
  rw [e]
  exact ⟨.ref p, _, J, rfl, q1 ms p hs (fun k => by rw [hm k, decide_eq_true_eq]) hn⟩
theorem x_sortSetB {σ : L2.St} {H : Hp} {Q : VK} : tSortSetB K ta σ H Q = ta σ H fun x H1 => ∃ (l : Addr) (ns : List Int), x = .ref l ∧ SqL K H1 l (ns.map V.int) ∧ ns.length ≤ 4000 ∧ (∀ k ∈ ns, 0 ≤ k ∧ k < (60 : Nat)) ∧
  ∀ (ms : List Int) r, ms.Pairwise (· < ·) → (∀ k : Int, k ∈ ms ↔ k ∈ ns) → H1 r = none → Q (.ref r) (upd H1 r (.lst (ms.map V.int))) := rfl
/-- len(set(xs)): as many as the list has just where nothing stands twice -/
def tLenSetA (K : PySem.W.Frag) (ta : TE) : TE := fun σ H Q => ta σ H fun x H1 => ∃ (l : Addr) (ns : List Int), x = .ref l ∧ SqL K H1 l (ns.map V.int) ∧ ns.length ≤ 4000 ∧ ∀ n : Nat, (n = ns.length ↔ ns.Nodup) → n ≤ ns.length → Q (.int (n : Nat)) H1
theorem k_lenSetA (hK : X.K = K) (hg : Gl X "len") (hm : X.mg "len" = none) (hg2 : Gl X "set") (hm2 : X.mg "set" = none) (ha : PE X a ta) (hc : X.calm = true := by rfl)
    (na : starEach [a] X.env = (false, eval a X.env) :: starEach [] X.env := by rfl) : PE X (.Call (.Name "len" p) [.Call (.Name "set" p2) [a] [] q] [] pos) (tLenSetA K ta) := by
  subst hK
  refine ⟨fun pins s σ H Q I h => ?_⟩
  refine Call_ (ld_blt I hg hm boot_len ?_)
  refine callWith_builtin1 (args_cons ?_ rfl) rfl rfl
  refine Call_ (ld_blt I hg2 hm2 boot_set ?_)
  refine callWith_type1 (args_cons (thn (ha.run pins s σ H _ I h) fun v s1 ⟨x, H1, I1, r1, q1⟩ => args_nil ?_) na) na rfl
  obtain ⟨l, ns, rfl, hq, hl, q1⟩ := q1
  cases r1
  obtain ⟨its, r, pl, hz⟩ := I1.list hq
  refine set_of_list ns (I1.ok.hd hc) pl.isList (by simpa using intsAre_vals r) (by unfold scanBound; omega) fun h' tk c hS hcl hk => ?_
  refine args_nil ?_
  have I2 : Inv X pins σ H1 { s1 with heap := h', toks := tk } := I1.kept hk
  have cnt := setR_count hS
  obtain ⟨o, es, ep, t, ho, hex, hd, _, _, _, hbd, hf, hn, _, _⟩ := hS
  exact call_len_set ho hex hd hf (by rw [hn]; omega) ⟨.int c, H1, I2.tok _, ⟨_, by rw [hn]⟩, q1 c cnt hcl⟩
theorem x_lenSetA {σ : L2.St} {H : Hp} {Q : VK} : tLenSetA K ta σ H Q = ta σ H fun x H1 => ∃ (l : Addr) (ns : List Int), x = .ref l ∧ SqL K H1 l (ns.map V.int) ∧ ns.length ≤ 4000 ∧ ∀ n : Nat, (n = ns.length ↔ ns.Nodup) → n ≤ ns.length → Q (.int (n : Nat)) H1 := rfl
end
end BC

set_option Elab.async false
set_option linter.all false
set_option maxRecDepth 100000
set_option maxHeartbeats 4000000
/-! sites: lists of lists of natural numbers, and how they lie in the heap -/
namespace BC
open PySem PySem.Spec PyProof.Rows L2 Evl
/-! ### xs + ys of lists of any origin -/
section
variable {prog : Program} {w : World} {A : Around} {E : Value → Shared → Prop} {s : Shared}
theorem add_plain {l b : Addr} {its its2 : Array Value} {Q : Value → Shared → Prop} (x : PlainL s.heap l its) (y : PlainL s.heap b its2) (fits : its.size + its2.size ≤ sizeLine)
    (q : Q (.ref s.heap.objs.size) { s with heap := s.heap.push { cls := .type "list", data := .seq (its ++ its2) } }) : wpAny (model prog w) A (binaryOp .Add (.ref l) (.ref b)) Q E s := by
  obtain ⟨⟨c1, d1, k1, z1⟩, n1, g1, e1, e2, e3⟩ := x
  obtain ⟨⟨c2, d2, k2, z2⟩, n2, g2, e4, e5, e6⟩ := y
  obtain rfl : c1 = .type "list" := e1
  obtain rfl : c2 = .type "list" := e4
  obtain rfl : k1 = .seq its n1 := e3
  obtain rfl : k2 = .seq its2 n2 := e6
  exact concat_meets ⟨_, g1, rfl⟩ ⟨_, g2, rfl⟩ noFill_list_add seq_list_add F.slot_list_add F.entry_list_add (F.args_list_add_2 _ _) (list_addW l b its its2 n1 n2 d1 d2 z1 z2 fits) ⟨g1, g2, q⟩
end
def rCatS (K : PySem.W.Frag) : R2 := fun x y H Q => ∃ l b xs zs, x = .ref l ∧ y = .ref b ∧ SqL K H l xs ∧ SqL K H b zs ∧ xs.length + zs.length ≤ sizeLine ∧ ∀ p, H p = none → Q (.ref p) (upd H p (.lst (xs ++ zs)))
theorem k_catS {X : Cx} {K : PySem.W.Frag} (hK : X.K = K) : OpR X (binaryOp .Add) (rCatS K) := by
  subst hK
  intro pins s σ H x y v u Q I rx ry h
  obtain ⟨l, b, xs, zs, rfl, rfl, hH, hB, hz, q⟩ := h
  cases rx
  cases ry
  obtain ⟨its, r, p1, _⟩ := I.list hH
  obtain ⟨its2, r2, p2, _⟩ := I.list hB
  have l1 := r.length
  have l2 := r2.length
  refine add_plain p1 p2 (by rw [List.size_toArray, List.size_toArray]; omega) ?_
  have ea : its.toArray ++ its2.toArray = (its ++ its2).toArray := by simp
  rw [ea]
  exact ⟨.ref _, _, I.lnew (t' := s.toks) (r.append r2) (by rw [List.length_append]; omega), rfl, q _ I.fresh⟩
theorem catS {K : PySem.W.Frag} {H : Hp} {Q : VK} {p b : Addr} {xs ys : List V} (h : SqL K H p xs) (hb : SqL K H b ys) (hz : xs.length + ys.length ≤ sizeLine) (q : ∀ l, H l = none → Q (.ref l) (upd H l (.lst (xs ++ ys)))) : rCatS K (.ref p) (.ref b) H Q := ⟨p, b, xs, ys, rfl, rfl, h, hb, hz, q⟩
/-- natural numbers as the program's -/
def nz (L : List Nat) : List Int := L.map fun x : Nat => (x : Int)
theorem nz_len (L : List Nat) : (nz L).length = L.length := List.length_map _
theorem nz_at {L : List Nat} {i x : Nat} (h : L[i]? = some x) : ((nz L).map V.int)[i]? = some (.int (x : Int)) := by
  unfold nz
  rw [List.getElem?_map, List.getElem?_map, h]
  rfl
theorem at_nz {L : List Nat} {i : Nat} {v : V} (h : ((nz L).map V.int)[i]? = some v) : ∃ x, L[i]? = some x ∧ v = .int (x : Int) := by
  unfold nz at h
  rw [List.getElem?_map, List.getElem?_map] at h
  cases e : L[i]? with
  | none => rw [e] at h; cases h
  | some x => rw [e] at h; cases h; exact ⟨x, rfl, rfl⟩
theorem nz_mem {L : List Nat} {x : Nat} : ((x : Nat) : Int) ∈ nz L ↔ x ∈ L := by
  unfold nz
  rw [List.mem_map]
  exact ⟨fun ⟨y, h, e⟩ => by rw [← Int.ofNat.inj e]; exact h, fun h => ⟨x, h, rfl⟩⟩
theorem nz_inj : ∀ {a b : List Nat}, nz a = nz b → a = b
  | [], [], _ => rfl
  | [], y :: b, h => by cases h
  | x :: a, [], h => by cases h
  | x :: a, y :: b, h => by
    have h1 := (List.cons.inj h).1
    have h2 := (List.cons.inj h).2
    rw [nz_inj (show nz a = nz b from h2), Int.ofNat.inj h1]
theorem nz_app (a b : List Nat) : nz (a ++ b) = nz a ++ nz b := List.map_append
theorem nz_v (a : List Nat) (x : Nat) : (nz a).map V.int ++ [V.int (x : Int)] = (nz (a ++ [x])).map V.int := by rw [nz_app, List.map_append]; rfl
theorem lts {l : List Nat} (h : l.Pairwise (· < ·)) : (nz l).Pairwise (· < ·) := by
  unfold nz
  rw [List.pairwise_map]
  exact h.imp fun h => by omega
theorem nz_nodup {l : List Nat} (h : l.Nodup) : (nz l).Nodup := by
  unfold nz List.Nodup
  rw [List.pairwise_map]
  exact h.imp fun h e => h (Int.ofNat.inj e)
theorem nodup_lt : ∀ (n : Nat) {l : List Nat}, l.Nodup → (∀ x ∈ l, x < n) → l.length ≤ n
  | 0, [], _, _ => Nat.le_refl _
  | 0, x :: l, _, h => by have := h x List.mem_cons_self; omega
  | n + 1, l, h1, h2 => by
    by_cases m : n ∈ l
    · have h3 := nodup_lt n (l := l.erase n) (h1.erase _) (fun x hx => by
        have a := h2 x (List.mem_of_mem_erase hx)
        have b : x ≠ n := fun e => by
          rw [h1.mem_erase_iff] at hx
          exact hx.1 e
        omega)
      have := List.length_erase_of_mem m
      omega
    · have h3 := nodup_lt n h1 (fun x hx => by
        have a := h2 x hx
        have b : x ≠ n := fun e => m (e ▸ hx)
        omega)
      omega
theorem asc_nodup {l : List Nat} (h : l.Pairwise (· < ·)) : l.Nodup := h.imp fun h => by omega
/-! ### sites -/
abbrev Grid := List (List Nat)
structure SiteOk (G : Grid) : Prop where
  n1 : 1 ≤ G.length
  n2 : G.length ≤ 12
  asc : ∀ (i : Nat) (r : List Nat), G[i]? = some r → r.Pairwise (· < ·)
  lt : ∀ (i : Nat) (r : List Nat), G[i]? = some r → ∀ x ∈ r, x < G.length
  no : ∀ (i : Nat) (r : List Nat), G[i]? = some r → i ∉ r
theorem SiteOk.len {G : Grid} (h : SiteOk G) {i : Nat} {r : List Nat} (e : G[i]? = some r) : r.length ≤ 12 := Nat.le_trans (nodup_lt _ (asc_nodup (h.asc i r e)) (h.lt i r e)) h.n2
/-- the row of a page -/
def row (G : Grid) (i : Nat) : List Nat := G.getD i []
theorem row_at {G : Grid} {i : Nat} {r : List Nat} (h : G[i]? = some r) : row G i = r := by
  unfold row
  rw [List.getD_eq_getElem?_getD, h]
  rfl
theorem at_row {G : Grid} {i : Nat} (h : i < G.length) : G[i]? = some (row G i) := by
  unfold row
  rw [List.getD_eq_getElem?_getD, List.getElem?_eq_getElem h]
  rfl
theorem SiteOk.rlt {G : Grid} (h : SiteOk G) {i x : Nat} (m : x ∈ row G i) : x < G.length := by
  by_cases q : i < G.length
  · exact h.lt i _ (at_row q) x m
  · unfold row at m
    rw [List.getD_eq_getElem?_getD, List.getElem?_eq_none (by omega)] at m
    exact (List.not_mem_nil m).elim
theorem SiteOk.rlen {G : Grid} (h : SiteOk G) (i : Nat) : (row G i).length ≤ 12 := by
  by_cases q : i < G.length
  · exact h.len (at_row q)
  · unfold row
    rw [List.getD_eq_getElem?_getD, List.getElem?_eq_none (by omega)]
    exact Nat.zero_le _
/-- a list at s of lists of numbers -/
def GridAt (H : Hp) (s : Addr) (G : Grid) : Prop := ∃ ps : List Addr, H s = some (.lst (ps.map V.ref)) ∧ ps.length = G.length ∧ ∀ i p, ps[i]? = some p → H p = some (.lst ((nz (row G i)).map V.int))
theorem GridAt.ex {H H' : Hp} {s : Addr} {G : Grid} (h : GridAt H s G) (e : Ex H H') : GridAt H' s G := by
  obtain ⟨ps, h1, h2, h3⟩ := h
  exact ⟨ps, e _ _ h1, h2, fun i p q => e _ _ (h3 i p q)⟩
theorem GridAt.get {H : Hp} {s : Addr} {G : Grid} (h : GridAt H s G) {i : Nat} (hi : i < G.length) : ∃ p xs, H s = some (.lst xs) ∧ xs.length = G.length ∧ xs[i]? = some (.ref p) ∧ H p = some (.lst ((nz (row G i)).map V.int)) := by
  obtain ⟨ps, h1, h2, h3⟩ := h
  have hx : ps[i]? = some ps[i] := List.getElem?_eq_getElem (by omega)
  exact ⟨ps[i], _, h1, by rw [List.length_map]; exact h2, by rw [List.getElem?_map, hx]; rfl, h3 i _ hx⟩
theorem GridAt.lst {H : Hp} {s : Addr} {G : Grid} (h : GridAt H s G) : ∃ xs, H s = some (.lst xs) ∧ xs.length = G.length ∧ ∀ (i : Nat) (v : V), xs[i]? = some v → i < G.length ∧ ∃ p, v = .ref p ∧ H p = some (.lst ((nz (row G i)).map V.int)) := by
  obtain ⟨ps, h1, h2, h3⟩ := h
  refine ⟨_, h1, by rw [List.length_map]; exact h2, fun i v e => ?_⟩
  rw [List.getElem?_map] at e
  cases q : ps[i]? with
  | none => rw [q] at e; cases e
  | some p =>
    rw [q] at e
    cases e
    exact ⟨by have := (List.getElem?_eq_some_iff.mp q).1; omega, p, rfl, h3 i p q⟩
/-- such a list, all of it new -/
def GridN (H H' : Hp) (s : Addr) (G : Grid) : Prop := H s = none ∧ ∃ ps : List Addr, H' s = some (.lst (ps.map V.ref)) ∧ ps.length = G.length ∧ ps.Nodup ∧ s ∉ ps ∧ ∀ i p, ps[i]? = some p → H p = none ∧ H' p = some (.lst ((nz (row G i)).map V.int))
theorem GridN.at {H H' : Hp} {s : Addr} {G : Grid} (h : GridN H H' s G) : GridAt H' s G := by
  obtain ⟨_, ps, h1, h2, _, _, h3⟩ := h
  exact ⟨ps, h1, h2, fun i p q => (h3 i p q).2⟩
theorem GridN.ex {H H' H2 : Hp} {s : Addr} {G : Grid} (h : GridN H H' s G) (e : Ex H' H2) : GridN H H2 s G := by
  obtain ⟨h0, ps, h1, h2, h4, h5, h3⟩ := h
  exact ⟨h0, ps, e _ _ h1, h2, h4, h5, fun i p q => ⟨(h3 i p q).1, e _ _ (h3 i p q).2⟩⟩
theorem GridN.back {H0 H H' : Hp} {s : Addr} {G : Grid} (h : GridN H H' s G) (e : Ex H0 H) : GridN H0 H' s G := by
  obtain ⟨h0, ps, h1, h2, h4, h5, h3⟩ := h
  exact ⟨fresh_back e h0, ps, h1, h2, h4, h5, fun i p q => ⟨fresh_back e (h3 i p q).1, (h3 i p q).2⟩⟩
/-- what was new after Hc stands -/
def Nw (Hc H H' : Hp) : Prop := ∀ x o, Hc x = none → H x = some o → H' x = some o
theorem Nw.of {Hc H H' : Hp} (e : Ex H H') : Nw Hc H H' := fun x o _ h => e x o h
theorem Nw.trans {Hc H H' H'' : Hp} (e : Nw Hc H H') (f : Nw Hc H' H'') : Nw Hc H H'' := fun x o n h => f x o n (e x o n h)
theorem Nw.fx {Hc H H' : Hp} {b : Addr} {o : HO} (h : Hc b = some o) (f : Fx b H H') : Nw Hc H H' := fun x v n g => f x v (fun e => by subst e; rw [h] at n; cases n) g
theorem Nw.put {Hc H : Hp} {a : Addr} {o u : HO} (h : Hc a = some u) : Nw Hc H (upd H a o) := fun x v n g => by
  rw [upd_ne (fun e => by subst e; rw [h] at n; cases n)]
  exact g
theorem GridN.nw {H H1 H2 : Hp} {s : Addr} {G : Grid} (h : GridN H H1 s G) (e : Nw H H1 H2) : GridN H H2 s G := by
  obtain ⟨h0, ps, h1, h2, h4, h5, h3⟩ := h
  exact ⟨h0, ps, e _ _ h0 h1, h2, h4, h5, fun i p q => ⟨(h3 i p q).1, e _ _ (h3 i p q).1 (h3 i p q).2⟩⟩
/-- one row more, made while the grid stood -/
theorem GridN.push {H H1 H' : Hp} {s p : Addr} {G : Grid} {r : List Nat} (h : GridN H H1 s G) (nH : H p = none) (np : H1 p = none) (e : Nw H H1 H') (hp : H' p = some (.lst ((nz r).map V.int))) :
    ∃ xs, H' s = some (.lst xs) ∧ xs.length = G.length ∧ GridN H (upd H' s (.lst (xs ++ [.ref p]))) s (G ++ [r]) := by
  have q1 := h
  obtain ⟨h0, ps, h1, h2, h4, h5, h3⟩ := h
  have hs : p ≠ s := Ne.symm (ne_of_none h1 np)
  refine ⟨_, e _ _ h0 h1, by rw [List.length_map]; exact h2, h0, ps ++ [p], by rw [upd_same, List.map_append]; rfl, by rw [List.length_append, List.length_append, h2]; rfl, ?_, ?_, fun i q eq => ?_⟩
  · rw [List.nodup_append]
    refine ⟨h4, by simp, fun a ha b hb e => ?_⟩
    rw [List.mem_singleton.mp hb] at e
    subst e
    obtain ⟨j, hj, ej⟩ := List.getElem_of_mem ha
    have := (h3 j a (List.getElem?_eq_some_iff.mpr ⟨hj, ej⟩)).2
    rw [np] at this
    cases this
  · intro m
    rcases List.mem_append.mp m with m | m
    · exact h5 m
    · exact hs (List.mem_singleton.mp m).symm
  · by_cases hi : i < ps.length
    · rw [List.getElem?_append_left hi] at eq
      have := h3 i q eq
      have ns : q ≠ s := fun z => h5 (z ▸ List.mem_of_getElem? eq)
      refine ⟨this.1, ?_⟩
      rw [upd_ne ns, e _ _ this.1 this.2]
      unfold row
      rw [List.getD_eq_getElem?_getD, List.getD_eq_getElem?_getD, List.getElem?_append_left (by omega)]
    · rw [List.getElem?_append_right (by omega)] at eq
      have hi2 : i - ps.length = 0 := by
        have := (List.getElem?_eq_some_iff.mp eq).1
        rw [List.length_singleton] at this
        omega
      rw [hi2] at eq
      obtain rfl : p = q := by simpa using eq
      refine ⟨nH, ?_⟩
      rw [upd_ne hs, hp]
      unfold row
      have : i = G.length := by omega
      rw [this, List.getD_eq_getElem?_getD, List.getElem?_append_right (Nat.le_refl _), Nat.sub_self]
      rfl
theorem GridN.nil {H : Hp} {s : Addr} (h : H s = none) : GridN H (upd H s (.lst [])) s [] := ⟨h, [], upd_same, rfl, List.nodup_nil, List.not_mem_nil, fun i p e => by simp at e⟩
/-- as data -/
def dG (G : Grid) : PyData := .list (G.map fun r => .list ((nz r).map PyData.int))
theorem dG_LL (G : Grid) : dG G = dLL (G.map nz) := by unfold dG dLL; rw [List.map_map]; rfl
theorem GridAt.dp {K : PySem.W.Frag} {H : Hp} {s : Addr} {G : Grid} (h : GridAt H s G) : Dp K H (.ref s) (dG G) := by
  obtain ⟨ps, h1, h2, h3⟩ := h
  rw [dG_LL]
  refine .lst (.inl (.inl h1)) (dp_ll (by rw [List.length_map]; exact h2) fun i p l a b => ?_)
  rw [List.getElem?_map] at b
  cases q : G[i]? with
  | none => rw [q] at b; cases b
  | some r =>
    rw [q] at b
    cases b
    have := h3 i p a
    rw [row_at q] at this
    exact .inl (.inl this)
theorem shp_LL (ls : List (List Int)) : SeqAt.shaped (dLL ls) = true := by
  have h0 : ∀ ns : List Int, PyData.canLayAll0 (ns.map PyData.int) = true := fun ns => by
    induction ns with
    | nil => simp [PyData.canLayAll0]
    | cons n ns ih => simp [PyData.canLayAll0, PyData.canLay0, ih]
  have h1 : ∀ ls : List (List Int), PyData.canLayAll0 (ls.map fun l => PyData.list (l.map PyData.int)) = true := fun ls => by
    induction ls with
    | nil => simp [PyData.canLayAll0]
    | cons l ls ih => simp [PyData.canLayAll0, PyData.canLay0, ih, h0]
  have h2 := dep_all (ds := ls.map fun l => PyData.list (l.map PyData.int)) (n := 1) fun d m => by
      obtain ⟨l, hm, rfl⟩ := List.mem_map.mp m
      simp only [PyData.depth]
      have := dep_all (ds := l.map PyData.int) (n := 0) fun d m => by
        obtain ⟨x, hx, rfl⟩ := List.mem_map.mp m
        simp [PyData.depth]
      omega
  show (PyData.canLay0 _ && decide (PyData.depth _ ≤ 64)) = true
  rw [Bool.and_eq_true]
  refine ⟨?_, decide_eq_true ?_⟩
  · unfold dLL; simp only [PyData.canLay0]; exact h1 ls
  · unfold dLL; simp only [PyData.depth]; omega
theorem eqv_LL : ∀ as bs : List (List Int), PyData.eqv (dLL as) (dLL bs) = decide (as = bs) := fun as bs => by
  unfold dLL
  simp only [PyData.eqv]
  induction as generalizing bs with
  | nil => cases bs <;> simp [PyData.eqvAll]
  | cons a as ih =>
    cases bs with
    | nil => simp [PyData.eqvAll]
    | cons b bs =>
      simp only [List.map_cons, PyData.eqvAll, eqv_ints, ih]
      by_cases h : a = b
      · subst h; simp
      · simp [h]
theorem nzs_inj : ∀ {a b : Grid}, a.map nz = b.map nz → a = b
  | [], [], _ => rfl
  | [], y :: b, h => by cases h
  | x :: a, [], h => by cases h
  | x :: a, y :: b, h => by
    rw [List.map_cons, List.map_cons] at h
    rw [nz_inj (List.cons.inj h).1, nzs_inj (List.cons.inj h).2]
theorem eqGrid {K : PySem.W.Frag} {H : Hp} {Q : VK} {a b : Addr} {F G : Grid} (h : GridAt H a F) (g : GridAt H b G) (q : Q (.bl (decide (F = G))) H) : rEqD K (.ref a) (.ref b) H Q := by
  have e : decide (F.map nz = G.map nz) = decide (F = G) := by
    by_cases z : F = G
    · rw [z, decide_eq_true rfl, decide_eq_true rfl]
    · rw [decide_eq_false z, decide_eq_false fun y => z (nzs_inj y)]
  refine ⟨_, _, h.dp, g.dp, by rw [dG_LL]; exact shp_LL _, by rw [dG_LL]; exact shp_LL _, ?_⟩
  rw [dG_LL, dG_LL, eqv_LL, e]
  exact q
theorem neGrid {K : PySem.W.Frag} {H : Hp} {Q : VK} {a b : Addr} {F G : Grid} (h : GridAt H a F) (g : GridAt H b G) (q : Q (.bl (!decide (F = G))) H) : rNeD K (.ref a) (.ref b) H Q := by
  have e : decide (F.map nz = G.map nz) = decide (F = G) := by
    by_cases z : F = G
    · rw [z, decide_eq_true rfl, decide_eq_true rfl]
    · rw [decide_eq_false z, decide_eq_false fun y => z (nzs_inj y)]
  refine ⟨_, _, h.dp, g.dp, by rw [dG_LL]; exact shp_LL _, by rw [dG_LL]; exact shp_LL _, ?_⟩
  rw [dG_LL, dG_LL, eqv_LL, e]
  exact q
theorem at_ints {ns : List Int} {i : Nat} {n : Int} (h : ns[i]? = some n) : (ns.map V.int)[i]? = some (.int n) := by rw [List.getElem?_map, h]; rfl
theorem atI_last {xs : List V} {v : V} (h : xs[xs.length - 1]? = some v) : atI xs (-1) = some v := by
  have hl : xs.length - 1 < xs.length := (List.getElem?_eq_some_iff.mp h).1
  have e : ixN xs.length (-1) = some (xs.length - 1) := by
    unfold ixN
    rw [if_neg (by omega), if_pos (by omega)]
    congr 1
    omega
  unfold atI
  rw [e]
  exact h
theorem cutV_from1 (xs : List V) : cutV xs (some 1) none = xs.drop 1 := by
  unfold cutV
  have e2 : HT.sIx xs.length xs.length none = xs.length := rfl
  have e1 : HT.sIx xs.length 0 (some 1) = min 1 xs.length := HT.sIx_nat ..
  rw [e1, e2]
  by_cases h : 1 ≤ xs.length
  · rw [Nat.min_eq_left h, List.take_of_length_le (by rw [List.length_drop]; omega)]
  · have : xs = [] := List.length_eq_zero_iff.mp (by omega)
    rw [this]
    rfl
theorem cut_take (xs : List V) (j : Nat) : cutV xs none (some (j : Int)) = xs.take j := by
  by_cases h : j ≤ xs.length
  · exact BC.cut_to xs rfl h
  · unfold cutV
    have e1 : HT.sIx xs.length 0 none = 0 := rfl
    rw [HT.sIx_nat, e1, List.drop_zero, Nat.sub_zero, Nat.min_eq_right (by omega), List.take_length, List.take_of_length_le (by omega)]
theorem GridN.get {H H' : Hp} {s : Addr} {G : Grid} (h : GridN H H' s G) {i : Nat} (hi : i < G.length) : ∃ p xs, H' s = some (.lst xs) ∧ xs.length = G.length ∧ xs[i]? = some (.ref p) ∧ H' p = some (.lst ((nz (row G i)).map V.int)) ∧ H p = none := by
  obtain ⟨_, ps, h1, h2, _, _, h3⟩ := h
  have hx : ps[i]? = some ps[i] := List.getElem?_eq_getElem (by omega)
  exact ⟨ps[i], _, h1, by rw [List.length_map]; exact h2, by rw [List.getElem?_map, hx]; rfl, (h3 i _ hx).2, (h3 i _ hx).1⟩
theorem GridN.lower {Hl H H' : Hp} {b s : Addr} {G : Grid} (h : GridN H H' s G) (f : Fx b Hl H) (hb : ∃ o, H b = some o) : GridN Hl H' s G := by
  obtain ⟨o, ho⟩ := hb
  obtain ⟨h0, ps, h1, h2, h4, h5, h3⟩ := h
  have nb : ∀ {x : Addr}, H x = none → x ≠ b := fun n e => by subst e; rw [ho] at n; cases n
  exact ⟨fx_none f h0 (nb h0), ps, h1, h2, h4, h5, fun i p q => ⟨fx_none f (h3 i p q).1 (nb (h3 i p q).1), (h3 i p q).2⟩⟩
theorem nd_at {l : List Addr} (h : l.Nodup) {i j : Nat} {x : Addr} (a : l[i]? = some x) (b : l[j]? = some x) : i = j := by
  obtain ⟨h1, h2⟩ := List.getElem?_eq_some_iff.mp a
  obtain ⟨h3, h4⟩ := List.getElem?_eq_some_iff.mp b
  have e1 := h.idxOf_getElem i h1
  have e2 := h.idxOf_getElem j h3
  rw [h2] at e1
  rw [h4] at e2
  exact e1.symm.trans e2
/-- kept of a list -/
theorem kept_nz (s : List Nat) (k : Nat → Bool) : kept s.length (fun i => k (s.getD i 0)) (fun i => V.int ((s.getD i 0 : Nat) : Int)) = (nz (s.filter k)).map V.int := by
  unfold kept nz
  have e : (List.range s.length).map (fun i => s.getD i 0) = s := by
    apply List.ext_getElem?
    intro j
    by_cases h : j < s.length
    · rw [List.getElem?_map, List.getElem?_range h, List.getElem?_eq_getElem h]
      show some (s.getD j 0) = _
      rw [List.getD_eq_getElem?_getD, List.getElem?_eq_getElem h]
      rfl
    · rw [List.getElem?_eq_none (by rw [List.length_map, List.length_range]; omega), List.getElem?_eq_none (by omega)]
  conv => rhs; rw [← e]
  rw [List.filter_map, List.map_map, List.map_map]
  rfl
theorem kept_rng (n : Nat) (k : Nat → Bool) : kept n k (fun i => V.int ((i : Nat) : Int)) = (nz ((List.range n).filter k)).map V.int := by
  unfold kept nz
  rw [List.map_map]
  rfl
/-- zip of lists of different lengths -/
theorem lc_zipM {K : PySem.W.Frag} {σ : L2.St} {H1 : Hp} {tt : TT} {te : TE} {vs : List Nat} {Dl : Addr} {Q : VK} {a b : Addr} {xs ys : List V} {j k : Nat} (n : Nat) (keep : Nat → Bool) (f : Nat → V) (hx : SqL K H1 a xs) (hy : SqL K H1 b ys) (h1 : n ≤ xs.length) (h2 : n ≤ ys.length) (h3 : n = xs.length ∨ n = ys.length) (hD : H1 Dl = none) (hn : n ≤ 100000)
    (hw : ∀ u v : V, wipe (((wipe σ vs).set j (some u)).set k (some v)) vs = wipe σ vs)
    (ht : ∀ i x y, xs[i]? = some x → ys[i]? = some y → Evl.EvT tt (((wipe σ vs).set j (some x)).set k (some y)) H1 (keep i))
    (he : ∀ i x y, xs[i]? = some x → ys[i]? = some y → keep i = true → Evl.Ev te (((wipe σ vs).set j (some x)).set k (some y)) H1 (f i))
    (hd : ∀ H', Evl.Ex H1 H' → H' Dl = some (.lst (kept n keep f)) → Q (.ref Dl) H') : LcG (Itz K a b) (gTup K 2 (gCons (gName j) (gCons (gName k) gNil))) tt te vs σ Dl H1 Q := by
  have gx : ∀ i, i < n → xs[i]? = some (xs.getD i .non) := fun i hi => by rw [List.getD_eq_getElem?_getD, List.getElem?_eq_getElem (by omega)]; rfl
  have gy : ∀ i, i < n → ys[i]? = some (ys.getD i .non) := fun i hi => by rw [List.getD_eq_getElem?_getD, List.getElem?_eq_getElem (by omega)]; rfl
  refine lc_pure n (fun i => ((wipe σ vs).set j (some (xs.getD i .non))).set k (some (ys.getD i .non))) keep f hD hn (fun H' e => ⟨xs, ys, Evl.ex_l e hx, Evl.ex_l e hy, by omega⟩)
    (fun i H' hi e => ⟨xs, ys, _, _, Evl.ex_l e hx, Evl.ex_l e hy, gx i hi, gy i hi⟩)
    (fun i H' x H'' QG hi e y q => ?_) (fun i hi => hw _ _) (fun i hi => ht i _ _ (gx i hi) (gy i hi)) (fun i hi => he i _ _ (gx i hi) (gy i hi)) hd
  obtain ⟨T, u, v, rfl, hT, rfl, hf, hf2⟩ := y
  have hu := hf xs (Evl.ex_l e hx)
  have hv := hf2 ys (Evl.ex_l e hy)
  have e1 : xs.getD i .non = u := by rw [List.getD_eq_getElem?_getD, hu]; rfl
  have e2 : ys.getD i .non = v := by rw [List.getD_eq_getElem?_getD, hv]; rfl
  refine g_two upd_same ?_
  have q2 := q (Evl.Ex.new hT)
  rw [e1, e2] at q2
  exact q2
end BC

set_option Elab.async false
set_option linter.all false
set_option maxRecDepth 100000
set_option maxHeartbeats 4000000
/-! walks on a site, by number and one by one -/
namespace BC
section
open PySem PySem.Spec PyProof.Rows L2 Evl
/-- xs[i] of xs[i] += e -/
def rGetL (K : PySem.W.Frag) : V → V → Hp → VK → Prop := fun x y H Q => ∃ p xs, ∃ i : Nat, ∃ v, x = .ref p ∧ y = .int i ∧ SqL K H p xs ∧ xs[i]? = some v ∧ Q v H
theorem k_get {X : Cx} {K : PySem.W.Frag} (hK : X.K = K) : PGet X (rGetL K) := by
  subst hK
  intro pins s σ H o i ov iv Q I ro ri h
  obtain ⟨p, xs, j, v, rfl, rfl, hq, hv, q⟩ := h
  cases ro
  obtain ⟨t, rfl⟩ := ri
  obtain ⟨its, r, pl, hz⟩ := I.list hq
  obtain ⟨u, eu, ru⟩ := r.get hv
  have hl := r.length
  have hn := line63
  have hj := (List.getElem?_eq_some_iff.mp hv).1
  refine wpAny_getItem_list (x := u) pl.isList (by omega) (by omega) (by simpa using eu) ⟨v, H, I, ru, q⟩
theorem getL {K : PySem.W.Frag} {H : Hp} {Q : VK} {p : Addr} {xs : List V} {k : Int} {i : Nat} {v : V} (h : SqL K H p xs) (e : k = (i : Int)) (hv : xs[i]? = some v) (q : Q v H) : rGetL K (.ref p) (.int k) H Q := by subst e; exact ⟨p, xs, i, v, rfl, rfl, h, hv, q⟩
theorem x_augS {to ti te : TE} {tget : V → V → Hp → VK → Prop} {tip : TIp} {tset : TSet} {D : Ends} {σ : L2.St} {H : Hp} : tAugS to ti te tget tip tset D σ H = to σ H fun o H1 => ti σ H1 fun i H2 => tget o i H2 fun x H3 => te σ H3 fun y H4 => tip x y H4 fun z H5 => tset o i z H5 fun H6 => D.nx σ H6 := rfl
end
/-- the walks of t steps from v -/
def wf (G : Grid) : Nat → Nat → List (List Nat)
  | 0, v => [[v]]
  | t + 1, v => ((row G v).map fun u => (wf G t u).map (v :: ·)).flatten
def lst (r : List Nat) : Nat := r.getLast?.getD 0
def grow (G : Grid) (r : List Nat) : List (List Nat) := (row G (lst r)).map fun u => r ++ [u]
theorem wf_ne {G : Grid} : ∀ (t v : Nat), ∀ r ∈ wf G t v, r ≠ []
  | 0, v, r, h => by
    obtain rfl : r = [v] := by simpa [wf] using h
    simp
  | t + 1, v, r, h => by
    unfold wf at h
    obtain ⟨a, ha, hr⟩ := List.mem_flatten.mp h
    obtain ⟨u, _, rfl⟩ := List.mem_map.mp ha
    obtain ⟨q, _, rfl⟩ := List.mem_map.mp hr
    simp
theorem grow_cons (G : Grid) (v : Nat) {r : List Nat} (h : r ≠ []) : grow G (v :: r) = (grow G r).map (v :: ·) := by
  unfold grow lst
  rw [List.map_map, List.getLast?_cons_of_ne_nil h]
  rfl
theorem sum_zeros {α : Type} : ∀ l : List α, (l.map fun _ => 0).sum = 0
  | [] => rfl
  | x :: l => by rw [List.map_cons, List.sum_cons, sum_zeros l]
theorem map_flatten' {α β : Type} (f : α → β) : ∀ l : List (List α), l.flatten.map f = (l.map (·.map f)).flatten
  | [] => rfl
  | a :: l => by rw [List.flatten_cons, List.map_append, map_flatten' f l]; rfl
theorem flatten_flatten' {α : Type} : ∀ l : List (List (List α)), l.flatten.flatten = (l.map (·.flatten)).flatten
  | [] => rfl
  | a :: l => by rw [List.flatten_cons, List.flatten_append, flatten_flatten' l]; rfl
theorem wf_snoc (G : Grid) : ∀ (t v : Nat), wf G (t + 1) v = ((wf G t v).map (grow G)).flatten
  | 0, v => by
    show ((row G v).map fun u => [[v, u]]).flatten = (grow G [v]) ++ []
    rw [List.append_nil]
    show ((row G v).map fun u => [[v, u]]).flatten = (row G v).map fun u => [v, u]
    generalize row G v = l
    induction l with
    | nil => rfl
    | cons x l ih =>
      rw [List.map_cons, List.flatten_cons, ih]
      rfl
  | t + 1, v => by
    have ih := fun u => wf_snoc G t u
    show ((row G v).map fun u => (wf G (t + 1) u).map (v :: ·)).flatten = ((((row G v).map fun u => (wf G t u).map (v :: ·)).flatten).map (grow G)).flatten
    rw [map_flatten', flatten_flatten', List.map_map, List.map_map]
    congr 1
    apply List.map_congr_left
    intro u _
    show (wf G (t + 1) u).map (v :: ·) = ((wf G t u |>.map (v :: ·)).map (grow G)).flatten
    rw [ih u, map_flatten', List.map_map, List.map_map]
    congr 1
    apply List.map_congr_left
    intro r hr
    show (grow G r).map (v :: ·) = grow G (v :: r)
    rw [grow_cons G v (wf_ne t u r hr)]
/-- the number of walks of t steps from v to the page that keep out -/
def fw (G : Grid) (out : List Nat) (p : Nat) : Nat → Nat → Nat
  | 0, v => if v = p ∧ v ∉ out then 1 else 0
  | t + 1, v => if v ∉ out then ((row G v).map fun u => fw G out p t u).sum else 0
/-- a walk to the page that keeps out -/
def good (out : List Nat) (p : Nat) (r : List Nat) : Bool := decide (lst r = p) && decide (r.filter (fun x => decide (x ∈ out)) = [])
theorem good_cons {out : List Nat} {p v : Nat} {r : List Nat} (h : r ≠ []) : good out p (v :: r) = (decide (v ∉ out) && good out p r) := by
  unfold good lst
  rw [List.getLast?_cons_of_ne_nil h]
  by_cases c : v ∈ out
  · simp [c]
  · simp [c]
theorem len_flat {α : Type} (P : α → Bool) : ∀ l : List (List α), (l.flatten.filter P).length = (l.map fun a => (a.filter P).length).sum
  | [] => rfl
  | a :: l => by rw [List.flatten_cons, List.filter_append, List.length_append, len_flat P l]; rfl
theorem fw_count (G : Grid) (out : List Nat) (p : Nat) : ∀ (t v : Nat), ((wf G t v).filter (good out p)).length = fw G out p t v
  | 0, v => by
    show ([[v]].filter (good out p)).length = if v = p ∧ v ∉ out then 1 else 0
    have e : good out p [v] = (decide (v = p) && decide (v ∉ out)) := by
      show (decide (v = p) && decide ([v].filter (fun x => decide (x ∈ out)) = [])) = _
      congr 1
      by_cases c : v ∈ out <;> simp [c]
    by_cases a : v = p <;> by_cases c : v ∈ out <;> simp [e, a, c]
    all_goals (subst a; simp_all)
  | t + 1, v => by
    show ((((row G v).map fun u => (wf G t u).map (v :: ·)).flatten).filter (good out p)).length = if v ∉ out then ((row G v).map fun u => fw G out p t u).sum else 0
    rw [len_flat, List.map_map]
    have key : ∀ u, (((wf G t u).map (v :: ·)).filter (good out p)).length = if v ∉ out then fw G out p t u else 0 := fun u => by
      rw [List.filter_map, List.length_map]
      have e : (wf G t u).filter (good out p ∘ fun x => v :: x) = (wf G t u).filter fun r => decide (v ∉ out) && good out p r := by
        apply List.filter_congr
        intro r hr
        show good out p (v :: r) = _
        rw [good_cons (wf_ne t u r hr)]
      rw [e]
      by_cases c : v ∈ out
      · simp [c]
      · rw [if_pos c]
        simp only [c, not_false_eq_true, decide_true, Bool.true_and]
        exact fw_count G out p t u
    by_cases c : v ∈ out
    · rw [if_neg (by simpa using c)]
      have : (row G v).map ((fun a => (List.filter (good out p) a).length) ∘ fun u => (wf G t u).map (v :: ·)) = (row G v).map fun _ => 0 := List.map_congr_left fun u _ => by
        show (((wf G t u).map (v :: ·)).filter (good out p)).length = 0
        rw [key u, if_neg (by simpa using c)]
      rw [this, sum_zeros]
    · rw [if_pos c]
      congr 1
      apply List.map_congr_left
      intro u _
      show (((wf G t u).map (v :: ·)).filter (good out p)).length = _
      rw [key u, if_pos c]
theorem wf_lt {G : Grid} (h : SiteOk G) : ∀ (t v : Nat), v < G.length → ∀ r ∈ wf G t v, (∀ x ∈ r, x < G.length) ∧ r.length = t + 1
  | 0, v, hv, r, hr => by
    obtain rfl : r = [v] := by simpa [wf] using hr
    exact ⟨fun x hx => by rw [List.mem_singleton.mp hx]; exact hv, rfl⟩
  | t + 1, v, hv, r, hr => by
    unfold wf at hr
    obtain ⟨a, ha, hr⟩ := List.mem_flatten.mp hr
    obtain ⟨u, hu, rfl⟩ := List.mem_map.mp ha
    obtain ⟨q, hq, rfl⟩ := List.mem_map.mp hr
    obtain ⟨h1, h2⟩ := wf_lt h t u (h.rlt hu) q hq
    refine ⟨fun x hx => ?_, by rw [List.length_cons, h2]⟩
    rcases List.mem_cons.mp hx with rfl | hx
    · exact hv
    · exact h1 x hx
theorem sum_le {f : Nat → Nat} {b : Nat} : ∀ {l : List Nat}, (∀ x ∈ l, f x ≤ b) → (l.map f).sum ≤ l.length * b
  | [], _ => by simp
  | x :: l, h => by
    have a := h x List.mem_cons_self
    have b := sum_le (l := l) fun y hy => h y (List.mem_cons_of_mem _ hy)
    rw [List.map_cons, List.sum_cons, List.length_cons, Nat.succ_mul]
    omega
theorem fw_le {G : Grid} (h : SiteOk G) (out : List Nat) (p : Nat) : ∀ t v, fw G out p t v ≤ 12 ^ t
  | 0, v => by
    unfold fw
    split <;> simp
  | t + 1, v => by
    unfold fw
    split
    · have a := sum_le (f := fun u => fw G out p t u) (b := 12 ^ t) (l := row G v) fun u _ => fw_le h out p t u
      have b := Nat.mul_le_mul_right (12 ^ t) (h.rlen v)
      rw [Nat.pow_succ, Nat.mul_comm]
      omega
    · exact Nat.zero_le _
theorem wf_len {G : Grid} (h : SiteOk G) : ∀ (t v : Nat), (wf G t v).length ≤ G.length ^ t
  | 0, v => by simp [wf]
  | t + 1, v => by
    show (((row G v).map fun u => (wf G t u).map (v :: ·)).flatten).length ≤ _
    have e : (((row G v).map fun u => (wf G t u).map (v :: ·)).flatten).length = ((row G v).map fun u => (wf G t u).length).sum := by
      rw [List.length_flatten, List.map_map]
      congr 1
      apply List.map_congr_left
      intro u _
      show ((wf G t u).map _).length = _
      rw [List.length_map]
    rw [e]
    have a := sum_le (f := fun u => (wf G t u).length) (b := G.length ^ t) (l := row G v) fun u _ => wf_len h t u
    have rl : (row G v).length ≤ G.length := by
      by_cases q : v < G.length
      · exact nodup_lt _ (asc_nodup (h.asc v _ (at_row q))) (h.lt v _ (at_row q))
      · unfold row
        rw [List.getD_eq_getElem?_getD, List.getElem?_eq_none (by omega)]
        exact Nat.zero_le _
    have b := Nat.mul_le_mul_right (G.length ^ t) rl
    rw [Nat.pow_succ, Nat.mul_comm]
    omega
theorem flat_le {α β : Type} {f : α → List β} {b : Nat} : ∀ {l : List α}, (∀ x ∈ l, (f x).length ≤ b) → (l.map f).flatten.length ≤ l.length * b
  | [], _ => by simp
  | x :: l, h => by
    have a := h x List.mem_cons_self
    have c := flat_le (l := l) fun y hy => h y (List.mem_cons_of_mem _ hy)
    rw [List.map_cons, List.flatten_cons, List.length_append, List.length_cons, Nat.succ_mul]
    omega
/-! ### products of lists of numbers -/
def cnv (a b : List Nat) (k : Nat) : Nat := ((List.range (k + 1)).map fun i => a.getD i 0 * b.getD (k - i) 0).sum
def conv (a b : List Nat) (n : Nat) : List Nat := (List.range (n + 1)).map fun k => cnv a b k
theorem conv_len (a b : List Nat) (n : Nat) : (conv a b n).length = n + 1 := by unfold conv; rw [List.length_map, List.length_range]
theorem conv_at {a b : List Nat} {n k : Nat} (h : k ≤ n) : (conv a b n)[k]? = some (cnv a b k) := by
  unfold conv
  rw [List.getElem?_map, List.getElem?_range (by omega)]
  rfl
/-- what is added up while the first i of a are done, and j of b at the next one -/
def part (a b : List Nat) (i j k : Nat) : Nat := ((List.range (k + 1)).map fun u => if u < i ∨ (u = i ∧ k - u < j) then a.getD u 0 * b.getD (k - u) 0 else 0).sum
theorem part_zero (a b : List Nat) (k : Nat) : part a b 0 0 k = 0 := by
  unfold part
  have : (List.range (k + 1)).map (fun u => if u < 0 ∨ (u = 0 ∧ k - u < 0) then a.getD u 0 * b.getD (k - u) 0 else 0) = (List.range (k + 1)).map fun _ => 0 := List.map_congr_left fun u _ => by rw [if_neg (by omega)]
  rw [this, sum_zeros]
theorem sum_one (n i : Nat) (f g : Nat → Nat) (c : Nat) (hi : i < n) (h1 : ∀ u, u < n → u ≠ i → g u = f u) (h2 : g i = f i + c) : ((List.range n).map g).sum = ((List.range n).map f).sum + c := by
  induction n with
  | zero => omega
  | succ n ih =>
    rw [List.range_succ, List.map_append, List.map_append, List.sum_append, List.sum_append]
    simp only [List.map_cons, List.map_nil, List.sum_cons, List.sum_nil]
    by_cases e : i = n
    · subst e
      have : (List.range i).map g = (List.range i).map f := List.map_congr_left fun u hu => h1 u (by rw [List.mem_range] at hu; omega) (by rw [List.mem_range] at hu; omega)
      rw [this, h2]
      omega
    · rw [ih (by omega) (fun u hu ne => h1 u (by omega) ne), h1 n (by omega) (Ne.symm e)]
      omega
theorem part_step {a b : List Nat} {i j k : Nat} : part a b i (j + 1) k = part a b i j k + if k = i + j then a.getD i 0 * b.getD j 0 else 0 := by
  unfold part
  by_cases c : k = i + j
  · rw [if_pos c]
    refine sum_one (k + 1) i _ _ _ (by omega) (fun u hu ne => ?_) ?_
    · have : (u < i ∨ (u = i ∧ k - u < j + 1)) ↔ (u < i ∨ (u = i ∧ k - u < j)) := by omega
      simp only [this]
    · have e : k - i = j := by omega
      rw [if_pos (by omega), if_neg (by omega), e, Nat.zero_add]
  · rw [if_neg c, Nat.add_zero]
    congr 1
    apply List.map_congr_left
    intro u hu
    rw [List.mem_range] at hu
    have : (u < i ∨ (u = i ∧ k - u < j + 1)) ↔ (u < i ∨ (u = i ∧ k - u < j)) := by omega
    simp only [this]
theorem part_next {a b : List Nat} {i j k : Nat} (h : k < i + j ∨ b.length ≤ j ∨ a.getD i 0 = 0) : part a b i j k = part a b (i + 1) 0 k := by
  unfold part
  congr 1
  apply List.map_congr_left
  intro u hu
  rw [List.mem_range] at hu
  by_cases c1 : u < i
  · rw [if_pos (.inl c1), if_pos (by omega)]
  · by_cases c2 : u = i
    · subst c2
      rw [if_pos (show u < u + 1 ∨ _ by omega)]
      by_cases c3 : k - u < j
      · rw [if_pos (by omega)]
      · rw [if_neg (by omega)]
        rcases h with h | h | h
        · omega
        · rw [show b.getD (k - u) 0 = 0 by rw [List.getD_eq_getElem?_getD, List.getElem?_eq_none (by omega)]; rfl, Nat.mul_zero]
        · rw [h, Nat.zero_mul]
    · rw [if_neg (by omega), if_neg (by omega)]
theorem part_full {a b : List Nat} {i k : Nat} (h : k < i ∨ a.length ≤ i) : part a b i 0 k = cnv a b k := by
  unfold part cnv
  congr 1
  apply List.map_congr_left
  intro u hu
  rw [List.mem_range] at hu
  by_cases c : u < i
  · rw [if_pos (.inl c)]
  · rw [if_neg (by omega)]
    rw [show a.getD u 0 = 0 by rw [List.getD_eq_getElem?_getD, List.getElem?_eq_none (by omega)]; rfl, Nat.zero_mul]
theorem part_le {a b : List Nat} {i j k B C : Nat} (ha : ∀ x ∈ a, x ≤ B) (hb : ∀ x ∈ b, x ≤ C) : part a b i j k ≤ (k + 1) * (B * C) := by
  unfold part
  have ga : ∀ u, a.getD u 0 ≤ B := fun u => by
    by_cases q : u < a.length
    · rw [List.getD_eq_getElem?_getD, List.getElem?_eq_getElem q]
      exact ha _ (List.getElem_mem q)
    · rw [List.getD_eq_getElem?_getD, List.getElem?_eq_none (by omega)]
      exact Nat.zero_le _
  have gb : ∀ u, b.getD u 0 ≤ C := fun u => by
    by_cases q : u < b.length
    · rw [List.getD_eq_getElem?_getD, List.getElem?_eq_getElem q]
      exact hb _ (List.getElem_mem q)
    · rw [List.getD_eq_getElem?_getD, List.getElem?_eq_none (by omega)]
      exact Nat.zero_le _
  have := sum_le (f := fun u => if u < i ∨ (u = i ∧ k - u < j) then a.getD u 0 * b.getD (k - u) 0 else 0) (b := B * C) (l := List.range (k + 1)) fun u _ => by
    split
    · exact Nat.mul_le_mul (ga u) (gb _)
    · exact Nat.zero_le _
  rw [List.length_range] at this
  exact this
/-- the list of the sums -/
def parts (a b : List Nat) (n i j : Nat) : List Nat := (List.range (n + 1)).map fun k => part a b i j k
theorem parts_len (a b : List Nat) (n i j : Nat) : (parts a b n i j).length = n + 1 := by unfold parts; rw [List.length_map, List.length_range]
theorem parts_at {a b : List Nat} {n i j k : Nat} (h : k ≤ n) : (parts a b n i j)[k]? = some (part a b i j k) := by
  unfold parts
  rw [List.getElem?_map, List.getElem?_range (by omega)]
  rfl
theorem parts_zero (a b : List Nat) (n : Nat) : parts a b n 0 0 = List.replicate (n + 1) 0 := by
  apply List.ext_getElem?
  intro k
  by_cases h : k < n + 1
  · rw [parts_at (by omega), part_zero, List.getElem?_replicate, if_pos h]
  · rw [List.getElem?_eq_none (by rw [parts_len]; omega), List.getElem?_eq_none (by rw [List.length_replicate]; omega)]
theorem parts_step {a b : List Nat} {n i j : Nat} (h : i + j ≤ n) : (parts a b n i j).set (i + j) (part a b i j (i + j) + a.getD i 0 * b.getD j 0) = parts a b n i (j + 1) := by
  apply List.ext_getElem?
  intro k
  by_cases hk : k < n + 1
  · rw [parts_at (by omega), part_step, List.getElem?_set]
    by_cases e : i + j = k
    · subst e
      rw [if_pos rfl, if_pos (by rw [parts_len]; omega), if_pos rfl]
    · rw [if_neg e, parts_at (by omega), if_neg (Ne.symm e), Nat.add_zero]
  · rw [List.getElem?_eq_none (by rw [List.length_set, parts_len]; omega), List.getElem?_eq_none (by rw [parts_len]; omega)]
theorem parts_over {a b : List Nat} {n i j : Nat} (h : n < i + j) : parts a b n i (j + 1) = parts a b n i j := by
  unfold parts
  apply List.map_congr_left
  intro k hk
  rw [List.mem_range] at hk
  rw [part_step, if_neg (by omega), Nat.add_zero]
theorem parts_next {a b : List Nat} {n i j : Nat} (h : n < i + j ∨ b.length ≤ j ∨ a.getD i 0 = 0) : parts a b n i j = parts a b n (i + 1) 0 := by
  unfold parts
  apply List.map_congr_left
  intro k hk
  rw [List.mem_range] at hk
  exact part_next (by omega)
theorem parts_full {a b : List Nat} {n i : Nat} (h : n < i ∨ a.length ≤ i) : parts a b n i 0 = conv a b n := by
  unfold parts conv
  apply List.map_congr_left
  intro k hk
  rw [List.mem_range] at hk
  exact part_full (by omega)
section
open PySem PySem.Spec PyProof.Rows L2 Evl
theorem lc_enumE {K : PySem.W.Frag} {σ : L2.St} {H1 : Hp} {g : TG} {te : TE} {vs : List Nat} {Dl : Addr} {Q : VK} {a : Addr} {xs : List V} (Pv : Nat → Hp → Prop) (h0 : Pv 0 (upd H1 Dl (.lst []))) (hl : ∀ i H, i ≤ xs.length → Pv i H → SqL K H a xs)
    (hs : ∀ i x H T, xs[i]? = some x → Pv i H → H T = none → g (.ref T) (wipe σ vs) (upd H T (.tup [.int (i : Nat), x])) fun σ2 H2 => wipe σ2 vs = wipe σ vs ∧ te σ2 H2 fun y H4 => ∃ acc, H4 Dl = some (.lst acc) ∧ acc.length < sizeLine ∧ Pv (i + 1) (upd H4 Dl (.lst (acc ++ [y]))))
    (hd : ∀ H, Pv xs.length H → Q (.ref Dl) H) : LcG (Ite K a) g tYes te vs σ Dl H1 Q := by
  refine lc_g xs.length Pv h0 (fun H h => ⟨xs, hl _ H (Nat.le_refl _) h, Nat.le_refl _⟩) (fun i H hi h => ⟨xs, xs[i], hl i H (by omega) h, List.getElem?_eq_getElem hi⟩) (fun i H x H' hi h y => ?_) hd
  obtain ⟨T, v, rfl, hT, rfl, hf⟩ := y
  exact hs i v H T (hf xs (hl i _ (by omega) h)) h hT
/-- a row of a new grid changed -/
theorem GridN.chg {H H1 : Hp} {s : Addr} {G : Grid} (h : GridN H H1 s G) {j : Nat} (hj : j < G.length) : ∃ p xs, H1 s = some (.lst xs) ∧ xs.length = G.length ∧ xs[j]? = some (.ref p) ∧ H1 p = some (.lst ((nz (row G j)).map V.int)) ∧ H p = none ∧
    ∀ r : List Nat, GridN H (upd H1 p (.lst ((nz r).map V.int))) s (G.set j r) := by
  obtain ⟨h0, ps, h1, h2, h4, h5, h3⟩ := h
  have hx : ps[j]? = some ps[j] := List.getElem?_eq_getElem (by omega)
  have hp := h3 j _ hx
  refine ⟨ps[j], _, h1, by rw [List.length_map]; exact h2, by rw [List.getElem?_map, hx]; rfl, hp.2, hp.1, fun r => ?_⟩
  have ns : s ≠ ps[j] := fun e => h5 (by rw [e]; exact List.getElem_mem _)
  refine ⟨h0, ps, by rw [upd_ne ns]; exact h1, by rw [List.length_set]; exact h2, h4, h5, fun i q e => ⟨(h3 i q e).1, ?_⟩⟩
  by_cases c : i = j
  · subst c
    rw [hx] at e
    obtain rfl := Option.some.inj e
    rw [upd_same]
    unfold row
    rw [List.getD_eq_getElem?_getD, List.getElem?_set, if_pos rfl, if_pos hj]
    rfl
  · have nq : q ≠ ps[j] := fun z => by
      subst z
      exact c (nd_at h4 e hx)
    rw [upd_ne nq, (h3 i q e).2]
    unfold row
    rw [List.getD_eq_getElem?_getD, List.getD_eq_getElem?_getD, List.getElem?_set, if_neg (Ne.symm c)]
/-! ### what the functions of loops.py give -/
def cl (G : Grid) (out : List Nat) (p n : Nat) : List Nat := (List.range (n + 1)).map fun t => fw G out p t p
def stg (G : Grid) (out : List Nat) (p k j : Nat) : Grid := (List.range G.length).map fun v => (List.range (if v < j then k + 2 else k + 1)).map fun t => fw G out p t v
theorem stg_len (G : Grid) (out : List Nat) (p k j : Nat) : (stg G out p k j).length = G.length := by unfold stg; rw [List.length_map, List.length_range]
theorem stg_row {G : Grid} {out : List Nat} {p k j v : Nat} (h : v < G.length) : row (stg G out p k j) v = (List.range (if v < j then k + 2 else k + 1)).map fun t => fw G out p t v := by
  unfold row stg
  rw [List.getD_eq_getElem?_getD, List.getElem?_map, List.getElem?_range h]
  rfl
theorem stg_set {G : Grid} {out : List Nat} {p k j : Nat} (h : j < G.length) : (stg G out p k j).set j (row (stg G out p k j) j ++ [fw G out p (k + 1) j]) = stg G out p k (j + 1) := by
  apply List.ext_getElem?
  intro v
  by_cases hv : v < G.length
  · rw [List.getElem?_set, stg_row h, if_neg (Nat.lt_irrefl j)]
    have rhs : (stg G out p k (j + 1))[v]? = some (row (stg G out p k (j + 1)) v) := at_row (by rw [stg_len]; exact hv)
    rw [rhs, stg_row hv]
    by_cases e : j = v
    · subst e
      rw [if_pos rfl, if_pos (by rw [stg_len]; exact hv), if_pos (Nat.lt_succ_self j), List.range_succ (n := k + 1), List.map_append]
      rfl
    · rw [if_neg e, at_row (by rw [stg_len]; exact hv), stg_row hv]
      by_cases c : v < j
      · rw [if_pos c, if_pos (by omega)]
      · rw [if_neg c, if_neg (by omega)]
  · rw [List.getElem?_eq_none (by rw [List.length_set, stg_len]; omega), List.getElem?_eq_none (by rw [stg_len]; omega)]
theorem stg_next (G : Grid) (out : List Nat) (p k : Nat) : stg G out p k G.length = stg G out p (k + 1) 0 := by
  unfold stg
  apply List.map_congr_left
  intro v hv
  rw [List.mem_range] at hv
  rw [if_pos hv, if_neg (by omega)]
theorem stg_cl {G : Grid} {out : List Nat} {p n : Nat} (h : p < G.length) : row (stg G out p n 0) p = cl G out p n := by
  rw [stg_row h, if_neg (by omega)]
  rfl
def prs (G : Grid) (L : List Nat) (n : Nat) : Grid := (List.range L.length).map fun i => cl G (L.take i) (L.getD i 0) n
theorem prs_len (G : Grid) (L : List Nat) (n : Nat) : (prs G L n).length = L.length := by unfold prs; rw [List.length_map, List.length_range]
theorem prs_row {G : Grid} {L : List Nat} {n i : Nat} (h : i < L.length) : row (prs G L n) i = cl G (L.take i) (L.getD i 0) n := by
  unfold row prs
  rw [List.getD_eq_getElem?_getD, List.getElem?_map, List.getElem?_range h]
  rfl
def fold (n : Nat) (P : Grid) : List Nat := P.foldl (fun f q => conv f q n) (1 :: List.replicate n 0)
theorem fold_len (n : Nat) (P : Grid) : (fold n P).length = n + 1 := by
  unfold fold
  have : ∀ (P : Grid) (f : List Nat), f.length = n + 1 → (P.foldl (fun f q => conv f q n) f).length = n + 1 := fun P => by
    induction P with
    | nil => exact fun f h => h
    | cons q P ih => exact fun f _ => ih _ (conv_len _ _ _)
  exact this P _ (by simp)
theorem fold_snoc {n : Nat} {P : Grid} {i : Nat} {q : List Nat} (h : P[i]? = some q) : fold n (P.take (i + 1)) = conv (fold n (P.take i)) q n := by
  unfold fold
  rw [List.take_add_one, h, List.foldl_append]
  rfl
theorem cl_le {G : Grid} (h : SiteOk G) (out : List Nat) (p n : Nat) : ∀ x ∈ cl G out p n, x ≤ 12 ^ n := fun x hx => by
  unfold cl at hx
  obtain ⟨t, ht, rfl⟩ := List.mem_map.mp hx
  rw [List.mem_range] at ht
  exact Nat.le_trans (fw_le h out p t p) (Nat.pow_le_pow_right (by omega) (by omega))
theorem cl_len (G : Grid) (out : List Nat) (p n : Nat) : (cl G out p n).length = n + 1 := by unfold cl; rw [List.length_map, List.length_range]
theorem cnv_le {a b : List Nat} {k B C : Nat} (ha : ∀ x ∈ a, x ≤ B) (hb : ∀ x ∈ b, x ≤ C) : cnv a b k ≤ (k + 1) * (B * C) := by
  rw [← part_full (a := a) (b := b) (i := k + 1) (k := k) (.inl (by omega))]
  exact part_le ha hb
theorem fold_le {n : Nat} {P : Grid} (hP : ∀ q ∈ P, ∀ x ∈ q, x ≤ 12 ^ n) : ∀ i, ∀ x ∈ fold n (P.take i), x ≤ ((n + 1) * 12 ^ n) ^ i := fun i => by
  induction i with
  | zero =>
    intro x hx
    rw [List.take_zero] at hx
    have : x ∈ 1 :: List.replicate n 0 := hx
    rcases List.mem_cons.mp this with rfl | h
    · simp
    · rw [List.eq_of_mem_replicate h]; exact Nat.zero_le _
  | succ i ih =>
    intro x hx
    by_cases c : i < P.length
    · have e : P[i]? = some P[i] := List.getElem?_eq_getElem c
      rw [fold_snoc e] at hx
      unfold conv at hx
      obtain ⟨k, hk, rfl⟩ := List.mem_map.mp hx
      rw [List.mem_range] at hk
      have a := cnv_le (k := k) ih (hP P[i] (List.getElem_mem c))
      have b : (k + 1) * (((n + 1) * 12 ^ n) ^ i * 12 ^ n) ≤ (n + 1) * (((n + 1) * 12 ^ n) ^ i * 12 ^ n) := Nat.mul_le_mul_right _ (by omega)
      have d : (n + 1) * (((n + 1) * 12 ^ n) ^ i * 12 ^ n) = ((n + 1) * 12 ^ n) ^ (i + 1) := by
        rw [Nat.pow_succ, Nat.mul_left_comm]
      omega
    · rw [List.take_of_length_le (by omega)] at hx
      rw [List.take_of_length_le (by omega)] at ih
      have a := ih x hx
      have b : ((n + 1) * 12 ^ n) ^ i ≤ ((n + 1) * 12 ^ n) ^ (i + 1) := Nat.pow_le_pow_right (Nat.mul_pos (by omega) (Nat.pow_pos (by omega))) (by omega)
      omega
theorem big_fold {n i : Nat} (hn : n ≤ 60) (hi : i ≤ 12) : ((n + 1) * 12 ^ n) ^ i < 2 ^ 4000 := by
  have a : (n + 1) * 12 ^ n ≤ 61 * 12 ^ 60 := Nat.mul_le_mul (by omega) (Nat.pow_le_pow_right (by omega) hn)
  have b : ((n + 1) * 12 ^ n) ^ i ≤ (61 * 12 ^ 60) ^ i := Nat.pow_le_pow_left a i
  have c : (61 * 12 ^ 60) ^ i ≤ (61 * 12 ^ 60) ^ 12 := Nat.pow_le_pow_right (by decide) hi
  have d : (61 * 12 ^ 60) ^ 12 < 2 ^ 4000 := by decide +kernel
  omega
theorem big_cl {n : Nat} (hn : n ≤ 60) : 12 ^ n < 2 ^ 4000 := by
  have a : 12 ^ n ≤ 12 ^ 60 := Nat.pow_le_pow_right (by omega) hn
  have d : 12 ^ 60 < 2 ^ 4000 := by decide +kernel
  omega
/-- a new grid behind a new grid -/
theorem GridN.ext {H H1 H2 : Hp} {s d : Addr} {G F : Grid} (h : GridN H H1 s G) (g : GridN H1 H2 d F) (e : Ex H1 H2) (low : ∀ x, H1 x = none → H x = none) : ∃ xs zs, H2 s = some (.lst xs) ∧ H2 d = some (.lst zs) ∧ xs.length = G.length ∧ zs.length = F.length ∧ GridN H (upd H2 s (.lst (xs ++ zs))) s (G ++ F) := by
  obtain ⟨h0, ps, h1, h2, h4, h5, h3⟩ := h
  obtain ⟨g0, qs, g1, g2, g4, g5, g3⟩ := g
  refine ⟨_, _, e _ _ h1, g1, by rw [List.length_map, h2], by rw [List.length_map, g2], h0, ps ++ qs, by rw [upd_same, List.map_append], by rw [List.length_append, List.length_append, h2, g2], ?_, ?_, fun i p q => ?_⟩
  · rw [List.nodup_append]
    refine ⟨h4, g4, fun a ha b hb z => ?_⟩
    subst z
    obtain ⟨i, hi, ei⟩ := List.getElem_of_mem ha
    obtain ⟨j, hj, ej⟩ := List.getElem_of_mem hb
    have a1 := (h3 i a (List.getElem?_eq_some_iff.mpr ⟨hi, ei⟩)).2
    have a2 := (g3 j a (List.getElem?_eq_some_iff.mpr ⟨hj, ej⟩)).1
    rw [a2] at a1
    cases a1
  · intro m
    rcases List.mem_append.mp m with m | m
    · exact h5 m
    · obtain ⟨j, hj, ej⟩ := List.getElem_of_mem m
      have a2 := (g3 j s (List.getElem?_eq_some_iff.mpr ⟨hj, ej⟩)).1
      rw [a2] at h1
      cases h1
  · by_cases hi : i < ps.length
    · rw [List.getElem?_append_left hi] at q
      have := h3 i p q
      have ns : p ≠ s := fun z => h5 (z ▸ List.mem_of_getElem? q)
      refine ⟨this.1, ?_⟩
      rw [upd_ne ns, e _ _ this.2]
      unfold row
      rw [List.getD_eq_getElem?_getD, List.getD_eq_getElem?_getD, List.getElem?_append_left (by omega)]
    · rw [List.getElem?_append_right (by omega)] at q
      have := g3 _ p q
      have ns : p ≠ s := fun z => by
        have a := this.1
        rw [z, h1] at a
        cases a
      refine ⟨low p this.1, ?_⟩
      rw [upd_ne ns, this.2]
      unfold row
      rw [List.getD_eq_getElem?_getD, List.getD_eq_getElem?_getD, List.getElem?_append_right (by omega), h2]
theorem kept_ones (s : List Nat) (k : Nat → Bool) : kept s.length (fun i => k (s.getD i 0)) (fun _ => V.int 1) = (nz ((s.filter k).map fun _ => 1)).map V.int := by
  unfold kept nz
  have e : (List.range s.length).map (fun i => s.getD i 0) = s := by
    apply List.ext_getElem?
    intro j
    by_cases h : j < s.length
    · rw [List.getElem?_map, List.getElem?_range h, List.getElem?_eq_getElem h]
      show some (s.getD j 0) = _
      rw [List.getD_eq_getElem?_getD, List.getElem?_eq_getElem h]
      rfl
    · rw [List.getElem?_eq_none (by rw [List.length_map, List.length_range]; omega), List.getElem?_eq_none (by omega)]
  conv => rhs; rw [← e]
  rw [List.filter_map, List.map_map, List.map_map, List.map_map]
  rfl
/-- the rows that are kept -/
theorem GridAt.keep {H' : Hp} {D : Addr} {ps : List Addr} {G : Grid} (P : List Nat → Bool) (k : Nat → Bool) (hl : ps.length = G.length) (hr : ∀ i p, ps[i]? = some p → H' p = some (.lst ((nz (row G i)).map V.int))) (hk : ∀ i, i < G.length → k i = P (row G i))
    (hD : H' D = some (.lst (kept G.length k fun i => .ref (ps.getD i 0)))) : GridAt H' D (G.filter P) := by
  have eG : G = (List.range G.length).map (row G) := by
    apply List.ext_getElem?
    intro j
    by_cases h : j < G.length
    · rw [List.getElem?_map, List.getElem?_range h, at_row h]
      rfl
    · rw [List.getElem?_eq_none (by omega), List.getElem?_eq_none (by rw [List.length_map, List.length_range]; omega)]
  have eF : G.filter P = ((List.range G.length).filter k).map (row G) := by
    conv => lhs; rw [eG]
    rw [List.filter_map]
    congr 1
    apply List.filter_congr
    intro i hi
    rw [List.mem_range] at hi
    exact (hk i hi).symm
  refine ⟨((List.range G.length).filter k).map fun i => ps.getD i 0, ?_, ?_, fun i p e => ?_⟩
  · rw [hD]
    unfold kept
    rw [List.map_map]
    rfl
  · rw [eF, List.length_map, List.length_map]
  · rw [List.getElem?_map] at e
    cases q : ((List.range G.length).filter k)[i]? with
    | none => rw [q] at e; cases e
    | some j =>
      rw [q] at e
      have hj : j < G.length := List.mem_range.mp (List.mem_filter.mp (List.mem_of_getElem? q)).1
      have hx : ps[j]? = some ps[j] := List.getElem?_eq_getElem (by omega)
      have ep : ps.getD j 0 = p := Option.some.inj e
      rw [List.getD_eq_getElem?_getD, hx] at ep
      obtain rfl : ps[j] = p := ep
      rw [hr j _ hx]
      have : row (G.filter P) i = row G j := by
        rw [eF]
        unfold row
        rw [List.getD_eq_getElem?_getD, List.getElem?_map, q]
        rfl
      rw [this]
end
end BC

set_option Elab.async false
set_option linter.all false
set_option maxRecDepth 100000
set_option maxHeartbeats 4000000
/-! dicts: readings, loops over keys, keys that are texts of lists of digits -/
namespace BC
open PySem PySem.Spec PyProof.Rows L2 Evl
section
variable {K : PySem.W.Frag} {σ : L2.St} {H : Hp} {Q : VK} {QT : Bool → Hp → Prop} {td ty tv tx : TE} {D : Ends} {g : TG} {tb : TS} {c : TE}
theorem x_dnewK : tDNewK σ H Q = ∀ p, H p = none → Q (.ref p) (upd H p (.dK [])) := rfl
theorem x_dnewT : tDNewT σ H Q = ∀ p, H p = none → Q (.ref p) (upd H p (.dT [])) := rfl
theorem x_dget : tDGet td ty σ H Q = td σ H (fun x H1 => ty σ H1 fun y H2 => ∃ a v, x = .ref a ∧ DGet H2 a y (some v) ∧ Q v H2) := rfl
theorem x_dget1 : tDGet1 td ty σ H Q = td σ H (fun x H1 => ∃ a, x = .ref a ∧ IsD H1 a ∧ ty σ H1 fun y H2 => ∃ o, DGet H2 a y o ∧ Q (o.getD .non) H2) := rfl
theorem x_dget2 : tDGet2 td ty tx σ H Q = td σ H (fun x H1 => ∃ a, x = .ref a ∧ IsD H1 a ∧ ty σ H1 fun y H2 => tx σ H2 fun z H3 => ∃ o, DGet H3 a y o ∧ Q (o.getD z) H3) := rfl
theorem x_din : tDIn ty td σ H Q = ty σ H (fun y H1 => td σ H1 fun x H2 => ∃ a o, x = .ref a ∧ DGet H2 a y o ∧ Q (.bl o.isSome) H2) := rfl
theorem x_dnotin : tDNotIn ty td σ H Q = ty σ H (fun y H1 => td σ H1 fun x H2 => ∃ a o, x = .ref a ∧ DGet H2 a y o ∧ Q (.bl (!o.isSome)) H2) := rfl
theorem x_dput : sDPut td ty tv D σ H = tv σ H (fun v H1 => td σ H1 fun x H2 => ty σ H2 fun y H3 => ∃ a H4, x = .ref a ∧ DPut H3 a y v H4 ∧ D.nx σ H4) := rfl
theorem x_ikeys {R : It → Hp → Prop} : iKeys td σ H R = td σ H (fun x H1 => ∃ d o, x = .ref d ∧ ((∃ kvs, H1 d = some (.frz o (.dK kvs)) ∧ R (Itk d o kvs) H1) ∨ ∃ kvs, H1 d = some (.frz o (.dT kvs)) ∧ R (Itkt d o kvs) H1)) := rfl
/-- the keys of a locked dict -/
theorem lg_keys {d : Addr} {o : Obj} {kvs : List (Key × V)} (Pv : Nat → L2.St → Hp → Prop) (h0 : Pv 0 σ H) (hl : ∀ i σ H, i ≤ kvs.length → Pv i σ H → H d = some (.frz o (.dK kvs)))
    (hs : ∀ i k v σ H, kvs[i]? = some (k, v) → Pv i σ H → g (kV k) σ H fun σ2 H2 => tb { D with nx := Pv (i + 1), ct := Pv (i + 1), bk := D.nx } σ2 H2) (hd : ∀ σ H, Pv kvs.length σ H → D.nx σ H) : LoopG (Itk d o kvs) g tb D σ H := by
  refine ⟨fun i m σ H => m = kvs.length - i ∧ i ≤ kvs.length ∧ Pv i σ H, ⟨kvs.length, by simp, Nat.zero_le _, h0⟩, ?_⟩
  rintro i m σ H ⟨rfl, hi, p⟩
  have q := hl i σ H hi p
  by_cases hlt : i < kvs.length
  · refine .inr ⟨⟨q, hlt⟩, Pv (i + 1), fun σ' H' p' => ⟨kvs.length - (i + 1), by omega, rfl, hlt, p'⟩, fun x H' y => ?_⟩
    obtain ⟨rfl, k, v, e, rfl⟩ := y
    exact hs i k v σ _ e p
  · have e : i = kvs.length := by omega
    subst e
    exact .inl ⟨⟨q, Nat.le_refl _⟩, hd σ H p⟩
end
theorem frz_ex {H H' : Hp} {d : Addr} {u x : HO} (h : H d = some u) (e : Ex (upd H d x) H') : Ex H (upd H' d u) := fun a o ho => by
  by_cases q : a = d
  · subst q
    rw [upd_same]
    rw [h] at ho
    exact ho
  · rw [upd_ne q]
    exact e a o (by rw [upd_ne q]; exact ho)
theorem ex_frz {H H' : Hp} {d a : Addr} {o : HO} {x : HO} (q : a ≠ d) (ho : H a = some o) (e : Ex (upd H d x) H') : H' a = some o := e a o (by rw [upd_ne q]; exact ho)
/-! ### lists of digits, shown -/
def Dg (t : List Int) : Prop := ∀ n ∈ t, 0 ≤ n ∧ n < 10
def digL (cs : List Nat) : List Int := (cs.filter fun c => decide (48 ≤ c) && decide (c < 58)).map fun c : Nat => (c : Int) - 48
theorem digL_append (a b : List Nat) : digL (a ++ b) = digL a ++ digL b := by
  unfold digL
  rw [List.filter_append, List.map_append]
theorem digL_one : ∀ k : Fin 10, digL (Str.ofString (toString ((k.val : Nat) : Int))).cps.toList = [((k.val : Nat) : Int)] := by decide +kernel
theorem digL_int {n : Int} (h0 : 0 ≤ n) (h1 : n < 10) : digL (Str.ofString (toString n)).cps.toList = [n] := by
  have h := digL_one ⟨n.toNat, by omega⟩
  rw [show ((n.toNat : Nat) : Int) = n by omega] at h
  exact h
theorem digL_join : ∀ ns : List Int, Dg ns → digL (Str.join ", " (ns.map fun n => ((toString n : String) : Str))).cps.toList = ns
  | [], _ => by decide +kernel
  | [n], h => by
    obtain ⟨h0, h1⟩ := h n List.mem_cons_self
    exact digL_int h0 h1
  | n :: m :: ns, h => by
    obtain ⟨h0, h1⟩ := h n List.mem_cons_self
    have ih := digL_join (m :: ns) fun x hx => h x (List.mem_cons_of_mem _ hx)
    show digL ((((toString n : String) : Str) ++ ", " ++ Str.join ", " ((m :: ns).map fun n => ((toString n : String) : Str))).cps.toList) = _
    rw [cps_toList_append, cps_toList_append, digL_append, digL_append, ih, digL_int h0 h1, signs_sep]
    rfl
theorem digL_shown {ns : List Int} (h : Dg ns) : digL (shInts ns).cps.toList = ns := by
  unfold shInts
  rw [PyData.shown_list, PyData.shownAll_ints, cps_toList_append, cps_toList_append, digL_append, digL_append, digL_join ns h, signs_lbrack, signs_rbrack]
  show [] ++ ns ++ [] = ns
  simp
theorem shInts_inj {a b : List Int} (ha : Dg a) (hb : Dg b) (e : shInts a = shInts b) : a = b := by
  rw [← digL_shown ha, ← digL_shown hb, e]
/-! ### dicts by such texts -/
section
variable {α : Type} {f : α → V}
def kx (t : List Int) : Key := Sum.inr (shInts t)
theorem kx_inj {a b : List Int} (ha : Dg a) (hb : Dg b) : kx a = kx b ↔ a = b := ⟨fun e => shInts_inj ha hb (Sum.inr.inj e), fun e => by rw [e]⟩
def ren (f : α → V) (L : List (List Int × α)) : List (Key × V) := L.map fun p => (kx p.1, f p.2)
def getA (L : List (List Int × α)) (t : List Int) : Option α := (L.find? fun p => decide (p.1 = t)).map (·.2)
def putA (L : List (List Int × α)) (t : List Int) (a : α) : List (List Int × α) := if (L.any fun p => decide (p.1 = t)) = true then L.map (fun p => if p.1 = t then (p.1, a) else p) else L ++ [(t, a)]
theorem ren_val (t : List Int) (ht : Dg t) : ∀ L : List (List Int × α), (∀ p ∈ L, Dg p.1) → valV (ren f L) (kx t) = (getA L t).map f
  | [], _ => rfl
  | p :: L, h => by
    have ih := ren_val t ht L fun q hq => h q (List.mem_cons_of_mem _ hq)
    have hp := h p List.mem_cons_self
    show valV ((kx p.1, f p.2) :: ren f L) (kx t) = _
    by_cases e : p.1 = t
    · rw [valV_pos (by show kx p.1 = kx t; rw [e])]
      simp [getA, e]
    · rw [valV_neg (by show ¬ kx p.1 = kx t; rw [kx_inj hp ht]; exact e), ih]
      simp [getA, e]
theorem ren_any (t : List Int) (ht : Dg t) : ∀ L : List (List Int × α), (∀ p ∈ L, Dg p.1) → ((ren f L).any fun kv => decide (kv.1 = kx t)) = L.any fun p => decide (p.1 = t)
  | [], _ => rfl
  | p :: L, h => by
    have ih := ren_any t ht L fun q hq => h q (List.mem_cons_of_mem _ hq)
    have hp := h p List.mem_cons_self
    show (decide (kx p.1 = kx t) || (ren f L).any fun kv => decide (kv.1 = kx t)) = _
    rw [ih, List.any_cons]
    congr 1
    exact decide_eq_decide.mpr (kx_inj hp ht)
theorem ren_put (t : List Int) (ht : Dg t) (a : α) (L : List (List Int × α)) (h : ∀ p ∈ L, Dg p.1) : putK (ren f L) (kx t) (f a) = ren f (putA L t a) := by
  unfold putK putA
  rw [ren_any t ht L h]
  by_cases c : (L.any fun p => decide (p.1 = t)) = true
  · rw [if_pos c, if_pos c]
    unfold ren
    rw [List.map_map, List.map_map]
    refine List.map_congr_left fun p hp => ?_
    show (if kx p.1 = kx t then (kx p.1, f a) else (kx p.1, f p.2)) = _
    by_cases e : p.1 = t
    · rw [if_pos (by rw [e])]
      show _ = (kx (if p.1 = t then (p.1, a) else p).1, f (if p.1 = t then (p.1, a) else p).2)
      rw [if_pos e]
    · rw [if_neg (by rw [kx_inj (h p hp) ht]; exact e)]
      show _ = (kx (if p.1 = t then (p.1, a) else p).1, f (if p.1 = t then (p.1, a) else p).2)
      rw [if_neg e]
  · rw [if_neg c, if_neg c]
    unfold ren
    rw [List.map_append]
    rfl
theorem putA_key {L : List (List Int × α)} {t : List Int} {a : α} {p : List Int × α} (h : p ∈ putA L t a) : p.1 = t ∨ ∃ q ∈ L, q.1 = p.1 := by
  unfold putA at h
  split at h
  · obtain ⟨q, hq, rfl⟩ := List.mem_map.mp h
    refine .inr ⟨q, hq, ?_⟩
    split <;> rfl
  · rcases List.mem_append.mp h with h | h
    · exact .inr ⟨p, h, rfl⟩
    · rw [List.mem_singleton.mp h]
      exact .inl rfl
theorem putA_len (L : List (List Int × α)) (t : List Int) (a : α) : (putA L t a).length ≤ L.length + 1 := by
  unfold putA
  split
  · rw [List.length_map]; omega
  · rw [List.length_append, List.length_singleton]; omega
theorem ren_len (L : List (List Int × α)) : (ren f L).length = L.length := by unfold ren; rw [List.length_map]
theorem ren_at {L : List (List Int × α)} {i : Nat} {k : Key} {v : V} (h : (ren f L)[i]? = some (k, v)) : ∃ t a, L[i]? = some (t, a) ∧ k = kx t ∧ v = f a := by
  unfold ren at h
  rw [List.getElem?_map] at h
  cases e : L[i]? with
  | none => rw [e] at h; cases h
  | some p => rw [e] at h; cases h; exact ⟨p.1, p.2, rfl, rfl, rfl⟩
end
end BC
namespace BC
open PySem PySem.Spec PyProof.Rows L2 Evl
section
variable {α : Type} {f : α → V}
theorem putA_nodup {L : List (List Int × α)} {t : List Int} {a : α} (h : (L.map (·.1)).Nodup) : ((putA L t a).map (·.1)).Nodup := by
  unfold putA
  split
  · rw [List.map_map]
    have e : ((fun p : List Int × α => p.1) ∘ fun p : List Int × α => if p.1 = t then (p.1, a) else p) = fun p => p.1 := funext fun p => by
      show (if p.1 = t then (p.1, a) else p).1 = p.1
      split <;> rfl
    rw [e]
    exact h
  · next c =>
    rw [List.map_append, List.nodup_append]
    refine ⟨h, by simp, fun x hx y hy e => ?_⟩
    obtain ⟨p, hp, rfl⟩ := List.mem_map.mp hx
    have hy' : y = t := by simpa using hy
    refine c (List.any_eq_true.mpr ⟨p, hp, decide_eq_true ?_⟩)
    rw [e, hy']
theorem getA_at : ∀ {L : List (List Int × α)} {i : Nat} {t : List Int} {a : α}, (L.map (·.1)).Nodup → L[i]? = some (t, a) → getA L t = some a
  | [], _, _, _, _, h => by simp at h
  | p :: L, 0, t, a, _, h => by
    have : p = (t, a) := by simpa using h
    subst this
    simp [getA]
  | p :: L, i + 1, t, a, nd, h => by
    rw [List.map_cons, List.nodup_cons] at nd
    have h' : L[i]? = some (t, a) := by simpa using h
    have ih := getA_at nd.2 h'
    have ne : p.1 ≠ t := fun e => nd.1 (List.mem_map.mpr ⟨(t, a), List.mem_of_getElem? h', e.symm⟩)
    unfold getA at ih ⊢
    rw [List.find?_cons, decide_eq_false ne]
    exact ih
end
/-- what stands at a text's key, counted -/
theorem ren_get {L : List (List Int × Int)} {t : List Int} (ht : Dg t) (h : ∀ p ∈ L, Dg p.1) : (valV (ren V.int L) (kx t)).getD (.int 0) = .int ((getA L t).getD 0) := by
  rw [ren_val t ht L h]
  cases getA L t <;> rfl
theorem ints_at {ns : List Int} {i : Nat} {v : V} (h : (ns.map V.int)[i]? = some v) : ∃ n, ns[i]? = some n ∧ v = .int n := by
  rw [List.getElem?_map] at h
  cases e : ns[i]? with
  | none => rw [e] at h; cases h
  | some n => rw [e] at h; cases h; exact ⟨n, rfl, rfl⟩
theorem refs_at {ps : List Addr} {i : Nat} {v : V} (h : (ps.map V.ref)[i]? = some v) : ∃ q, ps[i]? = some q ∧ v = .ref q := by
  rw [List.getElem?_map] at h
  cases e : ps[i]? with
  | none => rw [e] at h; cases h
  | some n => rw [e] at h; cases h; exact ⟨n, rfl, rfl⟩
theorem tyS {K : PySem.W.Frag} {H : Hp} {x : Str} : tyV K "str" (.str x) H := rfl
end BC

set_option Elab.async false
set_option linter.all false
set_option maxRecDepth 100000
set_option maxHeartbeats 4000000
/-! texts: str * int, fields of a width, f-strings of many parts -/
namespace BC
open PySem PySem.Spec PyProof.Rows L2 Evl
/-! ### a text so many times -/
def rMulS : V → V → Hp → VK → Prop := fun x y H Q => ∃ (a : Str) (n : Int), x = .str a ∧ y = .int n ∧ MulOk a n ∧ Q (.str (Txt.mul a n)) H
theorem op_mulS {X : Cx} : OpR X (binaryOp .Mult) rMulS := by
  intro pins s σ H x y v u Q I rx ry h
  obtain ⟨a, n, rfl, rfl, hz, q⟩ := h
  obtain ⟨t, rfl⟩ := rx
  obtain ⟨t', rfl⟩ := ry
  exact SB.mul hz fun t' tk => ⟨.str _, H, I.tok _, ⟨_, rfl⟩, q⟩
theorem x_mulS {a : Str} {n : Int} {H : Hp} {Q : VK} : rMulS (.str a) (.int n) H Q ↔ MulOk a n ∧ Q (.str (Txt.mul a n)) H := ⟨fun ⟨i, j, e1, e2, q⟩ => by cases e1; cases e2; exact q, fun q => ⟨a, n, rfl, rfl, q⟩⟩
theorem mul_sp {n : Int} (h0 : -1000 ≤ n) (h1 : n ≤ 1000) : MulOk ((" " : String) : Str) n := by
  refine ⟨?_, fun h2 _ => ?_, fun h2 _ => ?_⟩
  · rw [decide_eq_false (by omega), decide_eq_false (by omega)]
    rfl
  · have e : (((" " : String) : Str).length : Int) = 1 := by decide
    rw [e]
    have : n ≤ (2 ^ 63 - 1) / 1000 := by omega
    have h3 : (1 : Int) ≤ (2 ^ 63 - 1) / n := (Int.le_ediv_iff_mul_le (by omega)).mpr (by omega)
    omega
  · have e : ((" " : String) : Str).length = 1 := by decide
    rw [e, Nat.one_mul]
    show decide (_ > sizeLine) = false
    exact decide_eq_false (by unfold sizeLine; omega)
/-! ### a field of a width -/
theorem cs_none {K : PySem.W.Frag} {h : Heap} {mc : Str → Option Value} {n : Str} (X : K.In h) (G : h.Ns cStatics mc) (e : PySem.W.nsIn K cStatics n = some none) : mc n = none := by
  obtain ⟨o, es, ep, ho, hd, _, hf⟩ := G
  unfold PySem.W.nsIn at e
  split at e
  · next c d es' n' sl q =>
    have z := X _ _ q
    rw [ho] at z
    cases z
    cases hd
    split at e
    · cases e
    · next he =>
      rw [← hf]
      unfold nsFind findBy
      rw [← Array.find?_toList, he]
      rfl
  · cases e
theorem no_digits {K : PySem.W.Frag} {h : Heap} (X : K.In h) (nl : h.NoLimit) (e : PySem.W.nsIn K cStatics "sys.int_max_str_digits" = some none) : h.NoDigits := by
  obtain ⟨mc, g, _⟩ := nl
  exact ⟨mc, g, cs_none X g e⟩
def tFmtS (sp : Str) (te : TE) : TE := fun σ H Q => te σ H fun x H1 => ∃ i : Int, x = .int i ∧ 0 ≤ i ∧ i < 10 ^ 10 ∧ Q (.str (intSpecTextOf sp i)) H1
theorem x_fmtS {sp : Str} {te : TE} {σ : L2.St} {H : Hp} {Q : VK} : tFmtS sp te σ H Q = te σ H (fun x H1 => ∃ i : Int, x = .int i ∧ 0 ≤ i ∧ i < 10 ^ 10 ∧ Q (.str (intSpecTextOf sp i)) H1) := rfl
theorem k_fmtS {X : Cx} {K : PySem.W.Frag} {e es : Expr} {te : TE} {sp : Str} {pos : Pos} (hK : X.K = K) (hq : PySem.W.nsIn K cStatics "sys.int_max_str_digits" = some none) (he : PE X e te) (hs : PE X es (tC (.str sp))) (hok : intSpecOk sp = true) (hsz : sp.length ≤ sizeLine) : PE X (.FormattedValue e (-1) (some es) pos) (tFmtS sp te) := by
  subst hK
  refine ⟨fun pins s σ H Q I h => ?_⟩
  refine wpAny_FormattedValue_spec (thn (he.run pins s σ H _ I h) fun v s1 hv => ?_)
  obtain ⟨x, H1, I1, r1, i, rfl, h0, h1, q⟩ := hv
  obtain ⟨t, rfl⟩ := r1
  refine thn (hs.run pins s1 σ H1 (fun y H2 => y = .str sp ∧ H2 = H1) I1 ⟨rfl, rfl⟩) fun u s2 hu => ?_
  obtain ⟨y, H2, I2, r2, rfl, rfl⟩ := hu
  obtain ⟨t2, rfl⟩ := r2
  exact ⟨sp, t2, rfl, formatField_int_specOf (no_digits I2.kIn I2.nolimit hq) (lt_digitLimit_of_lt (by omega)) hok (fun W _ _ => ⟨.str _, H2, I2.tok _, ⟨_, rfl⟩, q⟩) hsz⟩
theorem fmt3 : ∀ i : Fin 300, intSpecTextOf ((">3" : String) : Str) ((i.val : Nat) : Int) = Txt.mul ((" " : String) : Str) (3 - ((((toString ((i.val : Nat) : Int) : String) : Str).length : Nat) : Int)) ++ ((toString ((i.val : Nat) : Int) : String) : Str) := by decide +kernel
theorem fmt4 : ∀ i : Fin 40, intSpecTextOf ((">4" : String) : Str) ((i.val : Nat) : Int) = Txt.mul ((" " : String) : Str) (4 - ((((toString ((i.val : Nat) : Int) : String) : Str).length : Nat) : Int)) ++ ((toString ((i.val : Nat) : Int) : String) : Str) := by decide +kernel
theorem len3 : ∀ i : Fin 1000, 1 ≤ ((toString ((i.val : Nat) : Int) : String) : Str).length ∧ ((toString ((i.val : Nat) : Int) : String) : Str).length ≤ 3 := by decide +kernel
/-! ### f-strings -/
theorem x_js0 {acc : Str} {σ : L2.St} {H : Hp} {Q : Str → Hp → Prop} : tJs [] acc σ H Q = Q acc H := rfl
theorem x_js {t : TE} {ts : List TE} {acc : Str} {σ : L2.St} {H : Hp} {Q : Str → Hp → Prop} : tJs (t :: ts) acc σ H Q = t σ H (fun x H1 => ∃ y : Str, x = .str y ∧ (acc ++ y).length ≤ sizeLine ∧ tJs ts (acc ++ y) σ H1 Q) := rfl
def tJn (ts : List TE) : TE := fun σ H Q => tJs ts Str.empty σ H fun out H1 => Q (.str out) H1
theorem x_jn {ts : List TE} {σ : L2.St} {H : Hp} {Q : VK} : tJn ts σ H Q = tJs ts Str.empty σ H (fun out H1 => Q (.str out) H1) := rfl
theorem k_joined {X : Cx} {v1 v2 : Expr} {rest : List Expr} {ts : List TE} {pos : Pos} (h : PJ X (v1 :: v2 :: rest) ts) : PE X (.JoinedStr (v1 :: v2 :: rest) pos) (tJn ts) := pe_joined h
theorem x_fmt {te : TE} {σ : L2.St} {H : Hp} {Q : VK} : tFmt te σ H Q = te σ H (fun x H1 => (∃ y : Str, x = .str y ∧ y.length ≤ sizeLine ∧ Q (.str y) H1) ∨ ∃ i : Int, x = .int i ∧ i.natAbs.log2 < 1920 ∧ Q (.str (toString i)) H1) := rfl
/-! ### join -/
def rJoin (K : PySem.W.Frag) : V → List V → Hp → VK → Prop := fun x xs H Q => ∃ a p, ∃ ys : List Str, x = .str a ∧ xs = [.ref p] ∧ (SqL K H p (ys.map V.str) ∨ SqT K H p (ys.map V.str)) ∧ (ys.map (·.length)).sum + ys.length * a.length ≤ 16777216 ∧ Q (.str (Txt.join a ys)) H
theorem k_join {X : Cx} {K : PySem.W.Frag} (hK : X.K = K) : MtR X "str.join" (rJoin K) := by subst hK; exact mt_join
theorem joinL {K : PySem.W.Frag} {H : Hp} {Q : VK} {a : Str} {p : Addr} {ys : List Str} (h : SqL K H p (ys.map V.str)) (hz : (ys.map (·.length)).sum + ys.length * a.length ≤ 16777216) (q : Q (.str (Txt.join a ys)) H) : rJoin K (.str a) [.ref p] H Q := ⟨a, p, ys, rfl, rfl, .inl h, hz, q⟩
def toStrs (t : List Int) : List Str := t.map fun n => ((toString n : String) : Str)
theorem len3' {n : Int} (h0 : 0 ≤ n) (h1 : n < 1000) : 1 ≤ ((toString n : String) : Str).length ∧ ((toString n : String) : Str).length ≤ 3 := by
  have h := len3 ⟨n.toNat, by omega⟩
  rw [show ((n.toNat : Nat) : Int) = n by omega] at h
  exact h
theorem strs_sum : ∀ {t : List Int}, (∀ x ∈ t, 0 ≤ x ∧ x < 1000) → ((toStrs t).map (·.length)).sum ≤ 3 * t.length
  | [], _ => Nat.le_refl _
  | x :: t, h => by
    have a := strs_sum (t := t) fun y hy => h y (List.mem_cons_of_mem _ hy)
    have b := (len3' (h x List.mem_cons_self).1 (h x List.mem_cons_self).2).2
    show ((toString x : String) : Str).length + ((toStrs t).map (·.length)).sum ≤ _
    rw [List.length_cons]
    omega
/-- a line of the list -/
def lineOf (i : Nat) (p : Int) (t : List Int) : Str := Txt.mul ((" " : String) : Str) (3 - ((((toString ((i : Nat) : Int) : String) : Str).length : Nat) : Int)) ++ ((toString ((i : Nat) : Int) : String) : Str) ++ Txt.mul ((" " : String) : Str) (4 - ((((toString p : String) : Str).length : Nat) : Int)) ++ ((toString p : String) : Str) ++ (("  " : String) : Str) ++ Txt.join ((" > " : String) : Str) (toStrs t)
theorem line_prog {i : Nat} {p : Int} {t : List Int} (hi : i < 300) (h0 : 0 ≤ p) (h1 : p < 40) : Str.empty ++ intSpecTextOf ((">3" : String) : Str) ((i : Nat) : Int) ++ intSpecTextOf ((">4" : String) : Str) p ++ (("  " : String) : Str) ++ Txt.join ((" > " : String) : Str) (toStrs t) = lineOf i p t := by
  have a := fmt3 ⟨i, hi⟩
  have b := fmt4 ⟨p.toNat, by omega⟩
  rw [show ((p.toNat : Nat) : Int) = p by omega] at b
  have a : intSpecTextOf ((">3" : String) : Str) ((i : Nat) : Int) = _ := a
  rw [a, b]
  unfold lineOf
  refine Str.ext' ?_
  have e : Str.empty.cps = #[] := rfl
  apply Array.toList_inj.mp
  simp only [cps_toList_append, e, List.append_assoc]
  rfl
theorem fl3 : ∀ i : Fin 300, (intSpecTextOf ((">3" : String) : Str) ((i.val : Nat) : Int)).length ≤ 3 := by decide +kernel
theorem fl4 : ∀ i : Fin 40, (intSpecTextOf ((">4" : String) : Str) ((i.val : Nat) : Int)).length ≤ 4 := by decide +kernel
theorem join_len {t : List Int} (h : ∀ x ∈ t, 0 ≤ x ∧ x < 1000) : (Txt.join ((" > " : String) : Str) (toStrs t)).length ≤ 6 * t.length := by
  have a := strs_sum h
  have e : ((" > " : String) : Str).length = 3 := by decide
  have b := StrLaws.join_length_le ((" > " : String) : Str) (toStrs t)
  rw [e] at b
  have l : (toStrs t).length = t.length := List.length_map _
  rw [l] at b
  have g : Txt.join ((" > " : String) : Str) (toStrs t) = Str.join ((" > " : String) : Str) (toStrs t) := StrLaws.glued_eq_join _ _
  rw [g]
  omega
end BC

set_option Elab.async false
set_option linter.all false
set_option maxRecDepth 100000
set_option maxHeartbeats 4000000
/-! repr of anything that is shown: numbers, texts, None, lists, tuples, empty dicts, at any depth -/
namespace BC
open PySem PySem.Spec PyProof.Rows L2 Evl
mutual
inductive De (K : PySem.W.Frag) (H : Hp) : V → PyData → Prop
  | non : De K H .non .none
  | bl (b : Bool) : De K H (.bl b) (.bool b)
  | int (i : Int) : De K H (.int i) (.int i)
  | str (x : Str) : De K H (.str x) (.str x)
  | lst {a : Addr} {xs : List V} {ds : List PyData} : SqL K H a xs → DeAll K H xs ds → De K H (.ref a) (.list ds)
  | tup {a : Addr} {xs : List V} {ds : List PyData} : SqT K H a xs → DeAll K H xs ds → De K H (.ref a) (.tuple ds)
  | dic {a : Addr} : H a = some (.dK []) → De K H (.ref a) (.dict [])
inductive DeAll (K : PySem.W.Frag) (H : Hp) : List V → List PyData → Prop
  | nil : DeAll K H [] []
  | cons {v : V} {vs : List V} {d : PyData} {ds : List PyData} : De K H v d → DeAll K H vs ds → DeAll K H (v :: vs) (d :: ds)
end
section
variable {X : Cx} {pins : List (Addr × Obj)} {σ : L2.St} {H : Hp} {s : Shared}
/-- what is known of a value that is shown -/
def Shows (X : Cx) (s : Shared) (u : Value) (d : PyData) : Prop :=
  (∃ as, Reads s.heap u d as) ∧ ∃ bs, ReadAtMost s.heap d.depth bs ∧ ReprK X.prog X.w bs s.heap d.depth u d.shown
def ShowsAll (X : Cx) (s : Shared) (us : List Value) (ds : List PyData) : Prop :=
  (∃ as, ReadsAll s.heap us ds as) ∧ ∃ bs, ReadAtMost s.heap (PyData.depthAll ds) bs ∧ ReprAllK X.prog X.w bs s.heap (PyData.depthAll ds) us (PyData.shownAll ds)
theorem empty_dict (I : Inv X pins σ H s) {a : Addr} (e : H a = some (.dK [])) : (a == sysModules) = false ∧ ∃ o n, s.heap.get? a = some o ∧ o.cls = .type "dict" ∧ o.data = .dict #[] n := by
  obtain ⟨_, hs, vs, kv, o, es, ep, ho, hx, hd, _, hm, _⟩ := dk_of I.hok e
  cases kv
  have he : es = #[] := by
    obtain ⟨l⟩ := es
    cases l with
    | nil => rfl
    | cons y l => cases hm
  subst he
  exact ⟨hs, o, ep, ho, hx.1, hd⟩
mutual
theorem De.shows (I : Inv X pins σ H s) : ∀ (d : PyData) (v : V) (u : Value), De X.K H v d → RelV v u → d.showable = true → d.shown.length ≤ sizeLine → Shows X s u d
  | .none, _, _, h, r, _, _ => by
    cases h; cases r
    exact ⟨⟨_, .none⟩, [], (fun _ m => nomatch m), by rw [show PyData.shown .none = ("None" : Str) by simp only [PyData.shown]]; exact .of_is ReprIs.none _ _ _⟩
  | .bool b, _, _, h, r, _, _ => by
    cases h; cases r
    exact ⟨⟨_, .bool b⟩, [], (fun _ m => nomatch m), by simp only [PyData.shown]; exact .of_is (ReprIs.bool b) _ _ _⟩
  | .int i, _, _, h, r, hs, _ => by
    cases h
    obtain ⟨t, rfl⟩ := r
    have h1 : i.natAbs.log2 < 1920 := by simpa [PyData.showable] using hs
    exact ⟨⟨_, .int i t⟩, [], (fun _ m => nomatch m), by simp only [PyData.shown]; exact .of_is (ReprIs.int t h1) _ _ _⟩
  | .str x, _, _, h, r, _, hz => by
    cases h
    obtain ⟨t, rfl⟩ := r
    simp only [PyData.shown] at hz
    exact ⟨⟨_, .str x t⟩, [], (fun _ m => nomatch m), by simp only [PyData.shown]; exact .of_is (ReprIs.str x t hz) _ _ _⟩
  | .list ds, _, _, h, r, hs, hz => by
    cases h with
    | lst hl ha =>
      cases r
      obtain ⟨its, rv, ⟨o, n, ho, hc, _, hd⟩, _⟩ := I.list hl
      simp only [PyData.shown] at hz
      simp only [PyData.showable] at hs
      obtain ⟨⟨as, hr⟩, bs, hb, hk⟩ := DeAll.shows I ds _ its ha rv hs fun t ht => Nat.le_trans (listText_mem_le ht) hz
      have r1 : Reads s.heap _ (.list ds) _ := .list ho hc hd hr
      have na := not_mem_of_deeper r1 (show PyData.depthAll ds < PyData.depth (.list ds) by simp only [PyData.depth]; omega) hb
      refine ⟨⟨_, r1⟩, _ :: bs, ReadAtMost.cons r1 (by simp only [PyData.depth]; omega) hb, ?_⟩
      simp only [PyData.depth, PyData.shown]
      cases its with
      | nil =>
        cases hr
        simp only [PyData.shownAll, listText_nil]
        exact ReprK.listEmpty ho hc hd
      | cons y l => exact ReprK.list ho hc hd na (by simpa using hk.length_eq) (fun i y e => hk.item i y (by simpa using e))
  | .tuple ds, _, _, h, r, hs, hz => by
    cases h with
    | tup hl ha =>
      cases r
      obtain ⟨its, rv, ⟨o, ho, hc, n, hd⟩, _⟩ := I.tuple hl
      simp only [PyData.shown] at hz
      simp only [PyData.showable] at hs
      obtain ⟨⟨as, hr⟩, bs, hb, hk⟩ := DeAll.shows I ds _ its ha rv hs fun t ht => Nat.le_trans (tupleText_mem_le ht) hz
      have r1 : Reads s.heap _ (.tuple ds) _ := .tuple ho hc hd hr
      have na := not_mem_of_deeper r1 (show PyData.depthAll ds < PyData.depth (.tuple ds) by simp only [PyData.depth]; omega) hb
      refine ⟨⟨_, r1⟩, _ :: bs, ReadAtMost.cons r1 (by simp only [PyData.depth]; omega) hb, ?_⟩
      simp only [PyData.depth, PyData.shown]
      exact ReprK.tuple ho hc hd na hk
  | .dict kvs, _, _, h, r, hs, hz => by
    cases h with
    | dic e =>
      cases r
      obtain ⟨hsys, o, n, ho, hc, hd⟩ := empty_dict I e
      have r1 : Reads s.heap _ (.dict []) _ := .dict (kvs := []) ho hc hd .nil .nil
      refine ⟨⟨_, r1⟩, [_], ReadAtMost.cons r1 (Nat.zero_le _) (fun _ m => nomatch m), ?_⟩
      simp only [PyData.depth, PyData.shown, PyData.shownKv, PyData.depthKv]
      exact ReprK.dict ho hc hd hsys List.not_mem_nil .nil
theorem DeAll.shows (I : Inv X pins σ H s) : ∀ (ds : List PyData) (vs : List V) (us : List Value), DeAll X.K H vs ds → Vals vs us → PyData.showableAll ds = true → (∀ t ∈ PyData.shownAll ds, t.length ≤ sizeLine) → ShowsAll X s us ds
  | [], _, _, h, r, _, _ => by
    cases h; cases r
    exact ⟨⟨_, .nil⟩, [], (fun _ m => nomatch m), by simp only [PyData.shownAll]; exact .nil⟩
  | d :: ds, _, _, h, r, hs, hz => by
    cases h with
    | cons h1 h2 =>
      cases r with
      | cons r1 r2 =>
        have hs2 : d.showable = true ∧ PyData.showableAll ds = true := by simpa [PyData.showableAll] using hs
        obtain ⟨⟨as, q1⟩, b1, c1, k1⟩ := De.shows I d _ _ h1 r1 hs2.1 (hz _ (by simp only [PyData.shownAll]; exact List.mem_cons_self))
        obtain ⟨⟨as2, q2⟩, b2, c2, k2⟩ := DeAll.shows I ds _ _ h2 r2 hs2.2 (fun t ht => hz t (by simp only [PyData.shownAll]; exact List.mem_cons_of_mem _ ht))
        refine ⟨⟨_, .cons q1 q2⟩, b1 ++ b2, ReadAtMost.append (c1.mono ?_) (c2.mono ?_), ?_⟩
        · simp only [PyData.depthAll]; omega
        · simp only [PyData.depthAll]; omega
        · simp only [PyData.depthAll, PyData.shownAll]
          exact .cons ((k1.more fun b m => List.mem_append_left _ m).level_le (by omega)) (k2.more_le (fun b m => List.mem_append_right _ m) (by omega))
end
def rReprA (K : PySem.W.Frag) : List V → Hp → VK → Prop := fun xs H Q => ∃ v d, xs = [v] ∧ De K H v d ∧ d.showable = true ∧ d.depth ≤ 60 ∧ d.shown.length ≤ sizeLine ∧ Q (.str d.shown) H
theorem k_reprA {K : PySem.W.Frag} (hK : X.K = K) (g : G0 X.A) (hu : X.A.units + 64 < cLine) : CallR X (.builtin "repr") (rReprA K) := by
  subst hK
  intro pins s σ H xs us Q I r h
  obtain ⟨v, d, rfl, hd, h1, h2, h4, q⟩ := h
  obtain ⟨u, rfl, ru⟩ := vals1 r
  have fin : ∀ (h' : Heap) (t tk : Nat), (∀ b o, s.heap.get? b = some o → h'.get? b = some o) → EP X pins σ Q (.str d.shown t) { s with heap := h', toks := tk } := fun h' t tk hk => ⟨.str _, H, I.kept hk, ⟨_, rfl⟩, q⟩
  cases hd with
  | non =>
    cases ru
    simp only [PyData.shown] at fin
    exact P.repr_of_none (fin s.heap _ _ fun _ _ e => e)
  | bl b =>
    cases ru
    simp only [PyData.shown] at fin
    exact P.repr_of_bool (fin s.heap _ _ fun _ _ e => e)
  | int i =>
    obtain ⟨t, rfl⟩ := ru
    simp only [PyData.shown] at fin
    exact P.repr_of_int (by simpa [PyData.showable] using h1) (fin s.heap _ _ fun _ _ e => e)
  | str x =>
    obtain ⟨t, rfl⟩ := ru
    simp only [PyData.shown] at fin h4
    exact P.repr_of_str (fin s.heap _ _ fun _ _ e => e) h4
  | @lst a ys ds hl ha =>
    cases ru
    obtain ⟨its, rv, ⟨o, n, ho, hc, _, hd⟩, _⟩ := I.list hl
    simp only [PyData.shown] at h4 fin
    simp only [PyData.showable] at h1
    simp only [PyData.depth] at h2
    obtain ⟨⟨as, hr⟩, bs, hb, hk⟩ := DeAll.shows I ds _ its ha rv h1 fun t ht => Nat.le_trans (listText_mem_le ht) h4
    have r1 : Reads s.heap _ (.list ds) _ := .list ho hc hd hr
    have na := not_mem_of_deeper r1 (show PyData.depthAll ds < PyData.depth (.list ds) by simp only [PyData.depth]; omega) hb
    refine call_repr_slot (by omega) ⟨o, ho, hc⟩ PySem.F.slot_list_repr.toG ?_
    cases its with
    | nil =>
      cases hr
      simp only [PyData.shownAll, listText_nil] at fin
      exact call_list_repr_empty ⟨o, ho, hc⟩ ho hd ⟨_, _, rfl, fin s.heap _ _ fun _ _ e => e⟩
    | cons y l => exact call_list_reprK ho hc hd na (by simpa using hk.length_eq) (fun i y e => hk.item i y (by simpa using e)) g (fun b _ => Clear.nil b) (by show X.A.units + 1 + _ < cLine; omega) (fun _ _ e => e) (fun h' u tk k => ⟨_, _, rfl, fin h' u tk k⟩) h4
  | @tup a ys ds hl ha =>
    cases ru
    obtain ⟨its, rv, ⟨o, ho, hc, n, hd⟩, _⟩ := I.tuple hl
    simp only [PyData.shown] at h4 fin
    simp only [PyData.showable] at h1
    simp only [PyData.depth] at h2
    obtain ⟨⟨as, hr⟩, bs, hb, hk⟩ := DeAll.shows I ds _ its ha rv h1 fun t ht => Nat.le_trans (tupleText_mem_le ht) h4
    have r1 : Reads s.heap _ (.tuple ds) _ := .tuple ho hc hd hr
    have na := not_mem_of_deeper r1 (show PyData.depthAll ds < PyData.depth (.tuple ds) by simp only [PyData.depth]; omega) hb
    refine call_repr_slot (by omega) ⟨o, ho, hc⟩ PySem.F.slot_tuple_repr ?_
    exact call_tuple_reprK ho hc hd na hk g (fun b _ => Clear.nil b) (by show X.A.units + 1 + _ < cLine; omega) (fun _ _ e => e) (fun h' u tk k => ⟨_, _, rfl, fin h' u tk k⟩) h4
  | dic e =>
    cases ru
    obtain ⟨hsys, o, n, ho, hc, hd⟩ := empty_dict I e
    simp only [PyData.shown, PyData.shownKv] at h4 fin
    refine call_repr_slot (by omega) ⟨o, ho, hc⟩ PySem.F.slot_dict_repr ?_
    exact call_dict_reprK (as := []) (d := 0) ho hc hd hsys List.not_mem_nil .nil g (fun b _ => Clear.nil b) (by show X.A.units + 1 + _ < cLine; omega) (fun _ _ e => e) (fun h' u tk k => ⟨_, _, rfl, fin h' u tk k⟩) h4
end
/-! ### what is shown stays so, its type, its size -/
section
variable {K : PySem.W.Frag} {H H' : Hp} {Q : VK}
mutual
theorem De.ex (e : Ex H H') : ∀ (d : PyData) (v : V), De K H v d → De K H' v d
  | .none, _, h => by cases h; exact .non
  | .bool _, _, h => by cases h; exact .bl _
  | .int _, _, h => by cases h; exact .int _
  | .str _, _, h => by cases h; exact .str _
  | .dict _, _, h => by
    cases h with
    | dic h1 => exact .dic (e _ _ h1)
  | .list ds, _, h => by
    cases h with
    | lst h1 h2 => exact .lst (ex_l e h1) (DeAll.ex e ds _ h2)
  | .tuple ds, _, h => by
    cases h with
    | tup h1 h2 => exact .tup (ex_t e h1) (DeAll.ex e ds _ h2)
theorem DeAll.ex (e : Ex H H') : ∀ (ds : List PyData) (vs : List V), DeAll K H vs ds → DeAll K H' vs ds
  | [], _, h => by cases h; exact .nil
  | d :: ds, _, h => by
    cases h with
    | cons h1 h2 => exact .cons (De.ex e d _ h1) (DeAll.ex e ds _ h2)
end
theorem De.ty {v : V} {d : PyData} (h : De K H v d) : TyX K H v (.type (tyn d)) := by
  cases h with
  | non => exact .base .non
  | bl b => exact .base (.bl b)
  | int i => exact .base (.int i)
  | str x => exact .base (.str x)
  | lst h _ => exact tyx_l h
  | tup h _ => exact tyx_t h
  | dic h => exact .base (.dK h)
theorem de_ints (ns : List Int) : DeAll K H (ns.map V.int) (ns.map PyData.int) := by
  induction ns with
  | nil => exact .nil
  | cons n ns ih => exact .cons (.int n) ih
theorem DeAll.len {vs : List V} {ds : List PyData} (h : DeAll K H vs ds) : vs.length = ds.length := by
  induction ds generalizing vs with
  | nil => cases h; rfl
  | cons d ds ih =>
    cases h with
    | cons _ h2 => simp [ih h2]
theorem DeAll.at {vs : List V} {ds : List PyData} (h : DeAll K H vs ds) {i : Nat} {v : V} (hv : vs[i]? = some v) : ∃ d, ds[i]? = some d ∧ De K H v d := by
  induction ds generalizing vs i with
  | nil => cases h; simp at hv
  | cons d ds ih =>
    cases h with
    | cons h1 h2 =>
      cases i with
      | zero => cases hv; exact ⟨d, rfl, h1⟩
      | succ i => exact ih h2 (by simpa using hv)
theorem DeAll.app {vs ws : List V} {ds es : List PyData} (h : DeAll K H vs ds) (g : DeAll K H ws es) : DeAll K H (vs ++ ws) (ds ++ es) := by
  induction ds generalizing vs with
  | nil => cases h; exact g
  | cons d ds ih =>
    cases h with
    | cons h1 h2 => exact .cons h1 (ih h2)
/-- shown in few signs -/
structure Gd (n W : Nat) (d : PyData) : Prop where
  s : d.showable = true
  l : d.leavesShort 40 = true
  dp : d.depth ≤ n
  w : d.weight ≤ W
theorem Gd.mono {n W n2 W2 : Nat} {d : PyData} (h : Gd n W d) (a : n ≤ n2) (b : W ≤ W2) : Gd n2 W2 d := ⟨h.s, h.l, Nat.le_trans h.dp a, Nat.le_trans h.w b⟩
theorem Gd.non : Gd 0 0 .none := ⟨rfl, rfl, Nat.le_refl _, Nat.le_refl _⟩
theorem Gd.bl (b : Bool) : Gd 0 0 (.bool b) := ⟨rfl, rfl, Nat.le_refl _, Nat.le_refl _⟩
theorem Gd.dic : Gd 1 0 (.dict []) := ⟨by simp [PyData.showable, PyData.showableKv], by simp [PyData.leavesShort, PyData.leavesShortKv], by simp [PyData.depth, PyData.depthKv], by simp [PyData.weight, PyData.weightKv]⟩
theorem Gd.int {i : Int} (h : i.natAbs < 10 ^ 38) : Gd 0 130 (.int i) := by
  have h2 : i.natAbs < 2 ^ 130 := Nat.lt_trans h (by decide +kernel)
  have hl : i.natAbs.log2 < 130 := log2_small (by decide) h2
  refine ⟨?_, ?_, Nat.le_refl _, ?_⟩
  · show decide (i.natAbs.log2 < 1920) = true
    exact decide_eq_true (by omega)
  · show decide ((PyData.shown (.int i)).length ≤ 40) = true
    refine decide_eq_true ?_
    have e := int_text_length_le10 (k := 38) (by decide) h
    simp only [PyData.shown]
    rw [show ((toString i : String) : Str).length = (toString i).length from PySem.ofString_length _]
    omega
  · simp only [PyData.weight]
    split
    · omega
    · omega
theorem Gd.str {x : Str} (h : (PyData.str x).leavesShort 40 = true) : Gd 0 x.cps.size (.str x) := ⟨rfl, h, Nat.le_refl _, by simp only [PyData.weight]; exact Nat.le_refl _⟩
theorem gd_all {ds : List PyData} {n W : Nat} (h : ∀ d ∈ ds, Gd n W d) : PyData.showableAll ds = true ∧ PyData.leavesShortAll 40 ds = true ∧ PyData.depthAll ds ≤ n ∧ PyData.weightAll ds ≤ (W + 1) * ds.length := by
  induction ds with
  | nil => exact ⟨rfl, rfl, Nat.zero_le _, Nat.zero_le _⟩
  | cons d ds ih =>
    have a := h d List.mem_cons_self
    obtain ⟨b1, b2, b3, b4⟩ := ih fun e m => h e (List.mem_cons_of_mem _ m)
    have := a.dp
    have := a.w
    simp only [PyData.showableAll, PyData.leavesShortAll, PyData.depthAll, PyData.weightAll, List.length_cons, Nat.mul_add, a.s, a.l, b1, b2, Bool.and_self]
    exact ⟨trivial, trivial, by omega, by omega⟩
theorem Gd.list {ds : List PyData} {n W : Nat} (h : ∀ d ∈ ds, Gd n W d) : Gd (n + 1) ((W + 1) * ds.length) (.list ds) := by
  obtain ⟨b1, b2, b3, b4⟩ := gd_all h
  exact ⟨by simp only [PyData.showable]; exact b1, by simp only [PyData.leavesShort]; exact b2, by simp only [PyData.depth]; omega, by simp only [PyData.weight]; exact b4⟩
theorem Gd.tuple {ds : List PyData} {n W : Nat} (h : ∀ d ∈ ds, Gd n W d) : Gd (n + 1) ((W + 1) * ds.length) (.tuple ds) := by
  obtain ⟨b1, b2, b3, b4⟩ := gd_all h
  exact ⟨by simp only [PyData.showable]; exact b1, by simp only [PyData.leavesShort]; exact b2, by simp only [PyData.depth]; omega, by simp only [PyData.weight]; exact b4⟩
theorem Gd.fits {n W : Nat} {d : PyData} (h : Gd n W d) (hW : W ≤ 370000) : d.shown.length ≤ sizeLine := by
  have a := PyData.shown_le 40 (by decide) d h.l
  have b := h.w
  rw [sizeLine_eq]
  omega
theorem reprA {v : V} {d : PyData} {n W : Nat} (h : De K H v d) (g : Gd n W d) (hn : n ≤ 60) (hW : W ≤ 370000) (q : Q (.str d.shown) H) : rReprA K [v] H Q :=
  ⟨v, d, rfl, h, g.s, Nat.le_trans g.dp hn, g.fits hW, q⟩
end
/-! ### values that are shown in few signs; one address hidden -/
def hidB (b : Addr) (H : Hp) : Hp := fun a => if a = b then none else H a
theorem hid_ex {b : Addr} {H : Hp} : Ex (hidB b H) H := fun a o h => by
  unfold hidB at h
  split at h
  · cases h
  · exact h
theorem hid_ne {b a : Addr} {H : Hp} (n : a ≠ b) : hidB b H a = H a := by
  unfold hidB
  rw [if_neg n]
theorem hid_fx {b : Addr} {H H' : Hp} (f : Fx b H H') : Ex (hidB b H) (hidB b H') := fun a o h => by
  unfold hidB at h ⊢
  by_cases e : a = b
  · rw [if_pos e] at h; cases h
  · rw [if_neg e] at h ⊢
    exact f a o e h
theorem hid_of {b : Addr} {H H' : Hp} (e : Ex H H') : Ex (hidB b H) (hidB b H') := hid_fx (fun a o _ h => e a o h)
def Sv (K : PySem.W.Frag) (H : Hp) (n W : Nat) (v : V) : Prop := ∃ d, De K H v d ∧ Gd n W d
section
variable {K : PySem.W.Frag} {H H' : Hp} {Q : VK} {n W : Nat} {v : V}
theorem Sv.ex (h : Sv K H n W v) (e : Ex H H') : Sv K H' n W v := by
  obtain ⟨d, a, g⟩ := h
  exact ⟨d, De.ex e d v a, g⟩
theorem Sv.mono {n2 W2 : Nat} (h : Sv K H n W v) (a : n ≤ n2) (b : W ≤ W2) : Sv K H n2 W2 v := by
  obtain ⟨d, x, g⟩ := h
  exact ⟨d, x, g.mono a b⟩
theorem Sv.non : Sv K H n W .non := ⟨_, .non, Gd.non.mono (Nat.zero_le _) (Nat.zero_le _)⟩
theorem Sv.bl (b : Bool) : Sv K H n W (.bl b) := ⟨_, .bl b, (Gd.bl b).mono (Nat.zero_le _) (Nat.zero_le _)⟩
theorem Sv.int {i : Int} (h : i.natAbs < 10 ^ 38) (hW : 130 ≤ W) : Sv K H n W (.int i) := ⟨_, .int i, (Gd.int h).mono (Nat.zero_le _) hW⟩
theorem Sv.str {x : Str} (h : (PyData.str x).leavesShort 40 = true) (hW : x.cps.size ≤ W) : Sv K H n W (.str x) := ⟨_, .str x, (Gd.str h).mono (Nat.zero_le _) hW⟩
theorem Sv.dic {a : Addr} (h : H a = some (.dK [])) (hn : 1 ≤ n) : Sv K H n W (.ref a) := ⟨_, .dic h, Gd.dic.mono hn (Nat.zero_le _)⟩
theorem sv_all {xs : List V} (h : ∀ x ∈ xs, Sv K H n W x) : ∃ ds, DeAll K H xs ds ∧ (∀ d ∈ ds, Gd n W d) ∧ ds.length = xs.length := by
  induction xs with
  | nil => exact ⟨[], .nil, (fun _ m => nomatch m), rfl⟩
  | cons x xs ih =>
    obtain ⟨d, a, g⟩ := h x List.mem_cons_self
    obtain ⟨ds, b, c, l⟩ := ih fun y m => h y (List.mem_cons_of_mem _ m)
    refine ⟨d :: ds, .cons a b, fun e m => ?_, by simp [l]⟩
    rcases List.mem_cons.mp m with rfl | m
    · exact g
    · exact c e m
theorem Sv.lst {a : Addr} {xs : List V} {W2 n2 : Nat} (h : SqL K H a xs) (hx : ∀ x ∈ xs, Sv K H n W x) (hn : n + 1 ≤ n2) (hW : (W + 1) * xs.length ≤ W2) : Sv K H n2 W2 (.ref a) := by
  obtain ⟨ds, b, c, l⟩ := sv_all hx
  exact ⟨.list ds, .lst h b, (Gd.list c).mono hn (by rw [l]; exact hW)⟩
theorem Sv.tup {a : Addr} {xs : List V} {W2 n2 : Nat} (h : SqT K H a xs) (hx : ∀ x ∈ xs, Sv K H n W x) (hn : n + 1 ≤ n2) (hW : (W + 1) * xs.length ≤ W2) : Sv K H n2 W2 (.ref a) := by
  obtain ⟨ds, b, c, l⟩ := sv_all hx
  exact ⟨.tuple ds, .tup h b, (Gd.tuple c).mono hn (by rw [l]; exact hW)⟩
theorem sv_ints {ns : List Int} (h : ∀ i ∈ ns, i.natAbs < 10 ^ 38) (hW : 130 ≤ W) : ∀ x ∈ ns.map V.int, Sv K H n W x := fun x m => by
  obtain ⟨i, hi, rfl⟩ := List.mem_map.mp m
  exact .int (h i hi) hW
end
/-- a part of a list of numbers is one -/
theorem cut_ints (ns : List Int) (lo hi : Option Int) : ∃ ms : List Int, cutV (ns.map V.int) lo hi = ms.map V.int ∧ ms.length ≤ ns.length ∧ ∀ m ∈ ms, m ∈ ns := by
  have h : ∀ xs : List V, (∀ x ∈ xs, x ∈ ns.map V.int) → ∃ ms : List Int, xs = ms.map V.int ∧ ∀ m ∈ ms, m ∈ ns := fun xs => by
    induction xs with
    | nil => exact fun _ => ⟨[], rfl, fun _ m => nomatch m⟩
    | cons x xs ih =>
      intro hx
      obtain ⟨i, hi, rfl⟩ := List.mem_map.mp (hx x List.mem_cons_self)
      obtain ⟨ms, rfl, hm⟩ := ih fun y m => hx y (List.mem_cons_of_mem _ m)
      refine ⟨i :: ms, rfl, fun m e => ?_⟩
      rcases List.mem_cons.mp e with rfl | e
      · exact hi
      · exact hm m e
  obtain ⟨ms, e, hm⟩ := h _ fun x m => cutV_mem m
  refine ⟨ms, e, ?_, hm⟩
  have := cutV_len (ns.map V.int) lo hi
  rw [e, List.length_map, List.length_map] at this
  exact this
/-! ### new things with the heap left closed -/
section
variable {K : PySem.W.Frag} {H : Hp} {Q : VK}
theorem newE {o : HO} (q : ∀ (p : Addr) (H' : Hp), H p = none → Ex H H' → H' p = some o → Q (.ref p) H') : ∀ p, H p = none → Q (.ref p) (upd H p o) := fun p np => q p _ np (Ex.new np) upd_same
theorem slE {a : Addr} {lo hi : Option Int} {row : List Int} (h : SqL K H a (row.map V.int)) (q : ∀ (p : Addr) (H' : Hp) (ms : List Int), H p = none → Ex H H' → H' p = some (.lst (ms.map V.int)) → ms.length ≤ row.length → (∀ m ∈ ms, m ∈ row) → Q (.ref p) H') : rSlL K (.ref a) lo hi H Q := by
  obtain ⟨ms, e, l, i⟩ := cut_ints row lo hi
  refine slL h fun z nz => ?_
  rw [e]
  exact q z _ ms nz (Ex.new nz) upd_same l i
theorem slXE {a : Addr} {lo hi : Option Int} {xs : List V} (h : SqL K H a xs) (q : ∀ (p : Addr) (H' : Hp) (ys : List V), H p = none → Ex H H' → H' p = some (.lst ys) → ys = cutV xs lo hi → ys.length ≤ xs.length → (∀ m ∈ ys, m ∈ xs) → Q (.ref p) H') : rSlL K (.ref a) lo hi H Q :=
  slL h fun z nz => q z _ _ nz (Ex.new nz) upd_same rfl (cutV_len _ _ _) fun m hm => cutV_mem hm
theorem catE {a b : Addr} {xs ys : List V} (h : H a = some (.lst xs)) (hb : H b = some (.lst ys)) (hz : xs.length + ys.length ≤ 100000) (q : ∀ (p : Addr) (H' : Hp), H p = none → Ex H H' → H' p = some (.lst (xs ++ ys)) → Q (.ref p) H') : rCat (.ref a) (.ref b) H Q :=
  catL h hb (sz_ok hz) (newE q)
theorem repE {a : Addr} {xs : List V} {k : Nat} (h : H a = some (.lst xs)) (hk : k ≤ 100000) (hz : xs.length * k ≤ 100000) (q : ∀ (p : Addr) (H' : Hp), H p = none → Ex H H' → H' p = some (.lst (List.replicate k xs).flatten) → Q (.ref p) H') : rRep (.ref a) (.int k) H Q :=
  repL h (by omega) (by omega) (sz_ok (by simpa using hz)) (by simpa using newE q)
theorem lstE {xs : List V} (hz : xs.length ≤ 100000) (q : ∀ (p : Addr) (H' : Hp), H p = none → Ex H H' → H' p = some (.lst xs) → Q (.ref p) H') : xs.length ≤ sizeLine ∧ ∀ p, H p = none → Q (.ref p) (upd H p (.lst xs)) := ⟨sz_ok hz, newE q⟩
theorem tupE {xs : List V} (hz : xs.length ≤ 100000) (q : ∀ (p : Addr) (H' : Hp), H p = none → Ex H H' → H' p = some (.tup xs) → Q (.ref p) H') : xs.length ≤ sizeLine ∧ ∀ p, H p = none → Q (.ref p) (upd H p (.tup xs)) := ⟨sz_ok hz, newE q⟩
end
end BC

set_option Elab.async false
set_option linter.all false
set_option maxRecDepth 100000
set_option maxHeartbeats 4000000
/-! a caught exception as a tracked object: in its suite, behind it, and handed to defs -/
namespace BC
open PySem PySem.Spec PyProof.Rows L2
/-- an exception's object: its class, its dict -/
def ExT (cls : Value) (d : Option Addr) (a : Addr) : HO := .ext fun h => ∃ (ob : Obj) (fs : Array Value), h.get? a = some ob ∧ Zc cls d ob ∧ ob.data = .fields fs
theorem exT_ok {P : Program} {w : World} {H : Hp} {h : Heap} {a : Addr} {cls : Value} {d : Option Addr} {ob : Obj} {fs : Array Value} (e : h.get? a = some ob) (z : Zc cls d ob) (f : ob.data = .fields fs) : ObjOk P w H h a (ExT cls d a) := by
  refine ⟨⟨ob, fs, e, z, f⟩, ⟨ob, e⟩, ?_⟩
  rintro h1 h2 ⟨o2, f2, e2, z2, q2⟩ k
  exact ⟨o2, f2, k _ e2, z2, q2⟩
/-- at a stands an exception of this class, without a dict -/
def IsEx (H : Hp) (a : Addr) (cls : Value) : Prop := ∃ φ : Heap → Prop, H a = some (.ext φ) ∧ ∀ h, φ h → ∃ (ob : Obj) (fs : Array Value), h.get? a = some ob ∧ Zc cls none ob ∧ ob.data = .fields fs
theorem isEx_T {H : Hp} {a : Addr} {cls : Value} (h : H a = some (ExT cls none a)) : IsEx H a cls := ⟨_, h, fun _ q => q⟩
theorem isEx_O {H : Hp} {a : Addr} {cls : Value} (h : H a = some (ExO cls a)) : IsEx H a cls := ⟨_, h, fun _ q => by
  obtain ⟨ob, fs, e, z, d, _⟩ := q
  exact ⟨ob, fs, e, z, d⟩⟩
theorem IsEx.at {H H' : Hp} {a : Addr} {cls : Value} (x : IsEx H a cls) (h : ∀ o, H a = some o → H' a = some o) : IsEx H' a cls := by
  obtain ⟨φ, e, q⟩ := x
  exact ⟨φ, h _ e, q⟩
section
variable {X : Cx} {pins : List (Addr × Obj)} {σ : L2.St} {H : Hp} {s : Shared}
/-- an object that stands untracked, younger than the frame, is tracked -/
theorem inv_track {a : Addr} {φ : Heap → Prop} (I : Inv X pins σ H s) (n0 : X.s_0.heap.get? a = none) (na : H a = none) (nL : a ≠ X.env.locals) (nC : ∀ x c, X.env.cells.lookup x = some c → c ≠ a) (nP : ∀ p ∈ X.pn ++ pins, p.1 ≠ a)
    (new : ObjOk X.prog X.w (upd H a (.ext φ)) s.heap a (.ext φ)) : Inv X pins σ (upd H a (.ext φ)) s := by
  have old : ∀ b o, X.s_0.heap.get? b = some o → b ≠ a := by
    rintro b o e rfl
    rw [n0] at e
    cases e
  have trk : ∀ {b : Addr} {o : HO}, H b = some o → b ≠ a := by
    rintro b o e rfl
    rw [na] at e
    cases e
  have frame : upd H a (.ext φ) X.env.locals = none := by rw [upd_ne (Ne.symm nL)]; exact I.free
  have un : Un X.fs X.ex X.H_0 (upd H a (.ext φ)) X.s_0.heap s.heap :=
    { keep := I.base.keep
      slot := I.base.slot
      free := fun b o e n x => by rw [upd_ne (old b o e)]; exact I.base.free b o e n x
      there := I.base.there
      tups := fun b xs e => by have q := I.base.tups b xs e; rw [upd_ne (trk q)]; exact q
      frzs := fun b o xs e => by have q := I.base.frzs b o xs e; rw [upd_ne (trk q)]; exact q
      tbls := fun b ps e => by obtain ⟨m, q⟩ := I.base.tbls b ps e; exact ⟨m, by rw [upd_ne (trk q)]; exact q⟩ }
  have held : HOk X.prog X.w (upd H a (.ext φ)) s.heap := by
    intro b u e
    by_cases q : b = a
    · subst q
      rw [upd_same] at e
      cases e
      exact new
    · rw [upd_ne q] at e
      exact (I.hok b u e).stay (fun _ _ _ z => z) (fun c z => by rw [upd_ne (trk z)]; exact z) fun c xs z => by rw [upd_ne (trk z)]; exact z
  exact { ok := I.ok, os := I.os, bare := I.bare, base := un, loc := I.loc, cell := I.cell, free := frame, hok := held, len := I.len
          freeC := fun x c e => by rw [upd_ne (nC x c e)]; exact I.freeC x c e
          pin := fun p hp => by obtain ⟨h1, h2, h3⟩ := I.pin p hp; exact ⟨h1, by rw [upd_ne (nP p hp)]; exact h2, h3⟩ }
/-- into the suite, the exception tracked -/
theorem inv_intoT (I : Inv X pins σ H s) (a : Addr) : Inv (X.suite a (X.pn ++ pins)) [] σ H s :=
  ⟨I.ok.suite a (X.pn ++ pins), I.os, I.bare, I.base, I.loc, I.cell, I.free, I.freeC, fun p hp => I.pin p (by rwa [List.append_nil] at hp), I.hok, I.len⟩
theorem inv_outT {a : Addr} {pn' : List (Addr × Obj)} (I : Inv (X.suite a (X.pn ++ pins)) pn' σ H s) (ok : X.Ok) : Inv X pins σ H s :=
  ⟨ok, I.os, I.bare, I.base, I.loc, I.cell, I.free, I.freeC, fun p hp => I.pin p (List.mem_append_left _ hp), I.hok, I.len⟩
end
/-- the wish of 'except x as n' where the exception is tracked from then on -/
def wTrk (K : PySem.W.Frag) (c : Value) (i : Nat) (ts : Addr → Value → Option Addr → TS) (Wout : WX) (D : Ends) : WX := fun cls d σ H =>
  ∃ b, PySem.W.exmOne K cls c = some b ∧ (b = true → ∀ a, H a = none → ts a cls d { nx := fun σ' H' => D.nx (σ'.set i none) H', rt := D.rt, bk := fun σ' H' => D.bk (σ'.set i none) H', ct := fun σ' H' => D.ct (σ'.set i none) H' } (σ.set i (some (.ref a))) (upd H a (ExT cls d a))) ∧
    (b = false → Wout cls d σ H)
section
variable {X : Cx} {x n : Str} {c : Value} {i : Nat} {body suite : List Stmt} {b0 : Stmt} {np pos hpos : Pos} {tb : WX → TS} {ts : Addr → Value → Option Addr → TS} {Wout : WX}
theorem ps_try_trk (hs : X.stack = X.env :: X.outer) (hf : X.env.frame = some X.env.locals) (hx : X.ex = []) (hN : X.N.Nodup) (hi : X.N[i]? = some n) (hln : X.env.kindOf n = some .local) (hc : Names X x c) (tk : Takes X Wout)
    (hb : ∀ (W : WX) (pn : List (Addr × Obj)) (xe : Value → Shared → Prop), Takes (X.tr pn xe) W → PassesOwn (model X.prog X.w) X.A X.env xe → PSs (X.tr pn xe) body (tb W))
    (hsu : ∀ (a : Addr) (cls : Value) (d : Option Addr) (pn : List (Addr × Obj)), PSs (X.suite a pn) (b0 :: suite) (ts a cls d)) :
    PS X (.Try body [.ExceptHandler (some (.Name x np)) (some n) (b0 :: suite) hpos] [] [] pos) (fun D σ H => tb (wTrk X.K c i ts Wout D) D σ H) := by
  constructor
  intro pins s σ H D I h
  have ok := I.ok
  have frames : X.A.frames = some (X.env :: X.outer) := hs ▸ ok.frames
  let W0 := wTrk X.K c i ts Wout D
  let after := fun (e : Value) (s1 : Shared) => wpAny (model X.prog X.w) X.A (noteFrame e X.env) (fun _ s2 => wpAny (model X.prog X.w) X.A (setFlight e none) (fun _ s3 =>
    wpAny (model X.prog X.w) X.A (handleBy e X.env [.ExceptHandler (some (.Name x np)) (some n) (b0 :: suite) hpos]) (SP X pins D) X.xe s3) X.xe s2) X.xe s1
  have take : Takes (X.tr (X.pn ++ pins) after) W0 := by
    rintro u s' ⟨a, B, sI, pins1, σ1, H1, cls, d, rfl, J0, nb, up, sky, na, os, ag, b, eb, yes, no⟩
    have J : Inv X pins σ1 H1 sI := J0.ofTry ok
    rw [show (X.tr (X.pn ++ pins) after).stack = X.env :: X.outer from hs] at sky
    refine Sky.land (Z := Zc cls d) Zc.steady frames hf sky fun h3 fly3 up3 => ?_
    have J3 : Inv X pins σ1 H1 { s' with heap := h3 } := J.landed nb fly3.1 (up.trans up3) os ag
    obtain ⟨o3, f3, e3, z3, d3⟩ := fly3.there
    have outside : a ∉ frs (X.env :: X.outer) := by
      intro hm
      obtain ⟨_, o', e', no'⟩ := fly3.2.2.1.mem hm
      rw [e3] at e'
      cases e'
      exact no' _ d3
    have gone : sI.heap.get? a = none := by
      cases q : sI.heap.get? a with
      | none => rfl
      | some o =>
        have z := nb a o q (by rw [show (X.tr (X.pn ++ pins) after).stack = X.env :: X.outer from hs]; exact outside)
        rw [fly3.2.1] at z
        cases z
    have n0 : X.s_0.heap.get? a = none := by
      cases q : X.s_0.heap.get? a with
      | none => rfl
      | some o =>
        obtain ⟨o', z⟩ := J.base.there a o q (by rw [hx]; exact List.not_mem_nil)
        rw [gone] at z
        cases z
    have nL : a ≠ X.env.locals := fun z => outside (List.mem_filterMap.mpr ⟨X.env, List.mem_cons_self, by rw [hf, z]⟩)
    have nF : a ∉ X.fs := by
      intro hm
      obtain ⟨e, he, q⟩ := List.mem_filterMap.mp hm
      exact outside (List.mem_filterMap.mpr ⟨e, List.mem_cons_of_mem _ he, q⟩)
    have nC : ∀ y k, X.env.cells.lookup y = some k → k ≠ a := by
      rintro y k e rfl
      obtain ⟨v, o, z, _⟩ := J.cell y k e
      rw [gone] at z
      cases z
    have nP : ∀ p ∈ X.pn ++ pins, p.1 ≠ a := by
      intro p hp q
      have z := (J.pin p hp).1
      rw [q, gone] at z
      cases z
    have S3 := J3.suite e3 d3 na nL nF
    refine wpAny_handleBy_cons (codeAny_handlers_test ?_) (fun q => nomatch q)
    have LT : PySem.W.Looks (model X.prog X.w) h3 (typeOf (.ref a)) cls := fun A Q E s2 k q => wpAny_typeOf_ref (k _ _ e3) (by rw [z3.1]; exact q)
    have LM := PySem.W.exm_one (M := model X.prog X.w) (J3.kIn) LT eb
    have asked : ∀ {Q : Value → Shared → Prop} {E : Value → Shared → Prop}, Q c { s' with heap := h3 } → wpAny (model X.prog X.w) (X.A.mark (some (.ref a))) (eval (.Name x np) X.env) Q E { s' with heap := h3 } := by
      intro Q E q
      obtain ⟨hg, hdb, hm | ⟨hm, hv, hnn⟩⟩ := hc
      · exact ld_glob (X := X.suite a ((a, o3) :: (X.pn ++ pins))) S3 hg hm q hdb
      · exact ld_blt (X := X.suite a ((a, o3) :: (X.pn ++ pins))) S3 hg hm hv q hnn hdb
    refine asked (LM.here ?_)
    cases b with
    | false =>
      show wpAny _ X.A (handleBy (.ref a) X.env []) _ _ _
      refine wpAny_handleBy_nil ?_
      obtain ⟨_, _, _, ob, vs, T, oT, tt, he, hz, hd, h1, hr⟩ := id fly3
      have fin : wpAny (model X.prog X.w) X.A (setFlight (.ref a) X.env.frame) (fun _ s4 => wpAny (model X.prog X.w) X.A (throw (.ref a) : Sem Flow) (SP X pins D) X.xe s4) X.xe { s' with heap := h3 } := by
        rw [hf]
        refine HandSPX.setFlight_upZ fly3 fun h4 held up4 => wpAny_throw (tk _ _ ?_)
        exact ⟨a, B, sI, pins, σ1, H1, cls, d, rfl, J, by rw [hs]; rw [show (X.tr (X.pn ++ pins) after).stack = X.env :: X.outer from hs] at nb; exact nb, (up.trans up3).trans up4, .inr (.inr (by rw [hs]; exact held)), na, os, ag, no rfl⟩
      unfold PySem.passOn
      refine wpAny_bind (wpAny_field he hd h1 ?_)
      rw [if_neg (by simp : ¬ ((Value.ref T == Value.none) = true))]
      first
        | exact wpAny_bind fin
        | exact wpAny_bind (wpAny_pure (wpAny_bind fin))
    | true =>
      refine codeAny_handlers_suite_as ?_
      refine HandSPX.lands_againZ fly3 fun h4 fly4 up4 => ?_
      have J4 : Inv X pins σ1 H1 { s' with heap := h4 } := J.landed nb fly4.1 ((up.trans up3).trans up4) os ag
      obtain ⟨o4, f4, e4, z4, d4⟩ := fly4.there
      have T4 : Inv X pins σ1 (upd H1 a (ExT cls d a)) { s' with heap := h4 } := inv_track J4 n0 na nL nC nP (exT_ok e4 z4 d4)
      refine store_ok (X := X.suite a (X.pn ++ pins)) (v := .ref a) (inv_intoT T4 a) hN hi (.inl hln) rfl (fun s5 S5 => ?_) (.inr hln)
      refine wpAny_mono ((hsu a cls d (X.pn ++ pins)).run [] s5 _ _ _ S5 (yes rfl a na)) (fun fl s6 res => ?_) fun _ _ z => z.elim
      have close : ∀ {σ6 : L2.St} {H6 : Hp} {Q : Shared → Prop}, Inv (X.suite a (X.pn ++ pins)) [] σ6 H6 s6 → (∀ s7, Inv X pins (σ6.set i none) H6 s7 → Q s7) →
          wpAny (model X.prog X.w) X.A (do bindName X.env n .none; unbindBehindTheSuite X.env n hpos) (fun _ s7 => Q s7) X.xe s6 := fun S6 q => gone_ok (inv_outT S6 ok) hN hi hln q
      match fl, res with
      | .next, res =>
        obtain ⟨σ6, H6, S6, q6⟩ := res
        exact close S6 fun s7 J7 => ⟨_, _, J7, q6⟩
      | .brk, res =>
        obtain ⟨σ6, H6, S6, q6⟩ := res
        exact close S6 fun s7 J7 => ⟨_, _, J7, q6⟩
      | .cont, res =>
        obtain ⟨σ6, H6, S6, q6⟩ := res
        exact close S6 fun s7 J7 => ⟨_, _, J7, q6⟩
      | .ret u, res =>
        obtain ⟨v6, σ6, H6, S6, r6, q6⟩ := res
        exact close S6 fun s7 J7 => ⟨_, _, _, J7, r6, q6⟩
  refine wpAny_Try_except (wpAny_mono ((hb W0 (X.pn ++ pins) after take PassesOwn.looking).run [] s σ H D (I.toTry _) h) (fun fl s1 res => ?_) fun e s1 he => he)
  match fl, res with
  | .next, res =>
    obtain ⟨σ2, H2, J2, q⟩ := res
    exact wpAny_execs_nil ⟨σ2, H2, J2.ofTry ok, q⟩
  | .brk, res =>
    obtain ⟨σ2, H2, J2, q⟩ := res
    exact ⟨σ2, H2, J2.ofTry ok, q⟩
  | .cont, res =>
    obtain ⟨σ2, H2, J2, q⟩ := res
    exact ⟨σ2, H2, J2.ofTry ok, q⟩
  | .ret u, res =>
    obtain ⟨v, σ2, H2, J2, r, q⟩ := res
    exact ⟨v, σ2, H2, J2.ofTry ok, r, q⟩
end
/-! ### isinstance of a tracked exception -/
/-- isinstance(e, C) -/
def rIsX (K : PySem.W.Frag) : List V → Hp → VK → Prop := fun xs H Q => ∃ (a D : Addr) (c : V) (cv : Value) (b : Bool), xs = [.ref a, c] ∧ IsEx H a (.ref D) ∧ ExcC K D ∧ ClsV c cv ∧ PySem.W.kitOne K (.ref D) cv = some b ∧ Q (.bl b) H
/-- isinstance(e, (C1, C2, ..)) -/
def rIsXT (K : PySem.W.Frag) : List V → Hp → VK → Prop := fun xs H Q => ∃ (a D tp : Addr) (cs : List V) (us : List Value) (b : Bool), xs = [.ref a, .ref tp] ∧ IsEx H a (.ref D) ∧ ExcC K D ∧ H tp = some (.tup cs) ∧ Paired ClsV cs us ∧ PySem.W.kitAny K (.ref D) us = some b ∧ Q (.bl b) H
section
variable {X : Cx} {K : PySem.W.Frag}
theorem isx_at {pins : List (Addr × Obj)} {σ : L2.St} {H : Hp} {s : Shared} {a D : Addr} (I : Inv X pins σ H s) (x : IsEx H a (.ref D)) : ∃ ob, PySem.W.InstAt s.heap a ob D none := by
  obtain ⟨φ, e, q⟩ := x
  obtain ⟨ob, fs, e1, ⟨z1, z2⟩, d1⟩ := q _ (I.hok a _ e).1
  obtain ⟨oc, od, dt, sl⟩ := ob
  dsimp only at z1 z2 d1
  subst z1 z2 d1
  exact ⟨_, e1, rfl, rfl, trivial⟩
theorem k_isX (hK : X.K = K) : CallR X (.builtin "isinstance") (rIsX K) := by
  subst hK
  intro pins s σ H xs us Q I r h
  obtain ⟨a, D, c, cv, b, rfl, x, C, k, e, q⟩ := h
  obtain ⟨u1, u2, rfl, r1, r2⟩ := vals2 r
  obtain rfl : u1 = Value.ref a := r1
  obtain rfl := k.eq r2
  obtain ⟨ob, J⟩ := isx_at I x
  exact PySem.W.kia_one (PySem.W.handS_kitx_exc C.hg C.hk C.hs C.hd C.ha C.hn C.ht C.hm) I.kIn J e (fun z => nomatch z) fun tk => ⟨.bl b, H, I.tok tk, rfl, q⟩
theorem k_isXT (hK : X.K = K) : CallR X (.builtin "isinstance") (rIsXT K) := by
  subst hK
  intro pins s σ H xs us Q I r h
  obtain ⟨a, D, tp, cs, ws, b, rfl, x, C, hT, k, e, q⟩ := h
  obtain ⟨u1, u2, rfl, r1, r2⟩ := vals2 r
  obtain rfl : u1 = Value.ref a := r1
  obtain rfl : u2 = Value.ref tp := r2
  obtain ⟨ob, J⟩ := isx_at I x
  obtain ⟨_, its, rv, o, h1, h2, m, h3⟩ := (I.hok tp _ hT : ObjOk X.prog X.w H s.heap tp (.tup cs))
  obtain rfl := ClsV.all k rv
  obtain ⟨oc, od, dt, sl⟩ := o
  dsimp only at h2 h3
  subst h2 h3
  exact PySem.W.kia_tup (PySem.W.handS_kitx_exc C.hg C.hk C.hs C.hd C.ha C.hn C.ht C.hm) I.kIn J h1 e (fun z => nomatch z) fun tk => ⟨.bl b, H, I.tok tk, rfl, q⟩
end
/-! ### defs that may be called while an exception is handled -/
structure FnU (P : Program) (w : World) (K : PySem.W.Frag) (mg : Str → Option Value) (base : Heap) (k : Nat) (f : Addr) (fd : FuncData) (ps : List Str) (sp : Sp) : Prop where
  size : ∀ vs H Q E, sp vs H Q E → vs.length = ps.length
  go : ∀ (A : Around) (outer : List Env) (s : Shared) (H : Hp) (args : Args) (us : List Value) (vs : List V) (Q : VK) (E : XK), L2H.RoomH k A → Env0 P w K mg base A outer s H →
    BindsTo s fd args (ps.zip us) → Vals vs us → sp vs H Q E → codeAny (model P w) A (.call (.ref f) args) (CR CX0 outer P w H s Q E) s
/-- the context of such a def's body -/
def cxU (P : Program) (w : World) (K : PySem.W.Frag) (mg : Str → Option Value) (base : Heap) (N : List Str) (qual : Str) (scope : Scope) (f : Addr) (cd : Value) (A : Around) (outer : List Env) (s : Shared) (H : Hp) (E : XK) : Cx :=
  { cxOf CX0 P w K mg base N qual scope f cd A outer s H E with calm := false }
section
variable {P : Program} {w : World} {K : PySem.W.Frag} {mg : Str → Option Value} {base : Heap} {k : Nat} {f : Addr} {fd : FuncData} {ps : List Str} {sp : Sp}
theorem fun_okU {x qual : Str} {st : Stmt} {N : List Str} (F : Fun K x qual st f fd) (S : FnScope N ps (defScope st)) (size : ∀ vs H Q E, sp vs H Q E → vs.length = ps.length)
    (body : ∀ (cdv : Value) (A : Around) (outer : List Env) (s : Shared) (H : Hp) (vs : List V) (Q : VK) (E : XK), L2H.RoomH k (A.deeper (envOfC qual (defScope st) s.heap.objs.size f cdv)) → sp vs H Q E →
      ∃ t, PSs (cxU P w K mg base N qual (defScope st) f cdv A outer s H E) (defBody st) t ∧ t { nx := fun _ H' => Q .non H', rt := Q } (start N vs) H) : FnU P w K mg base (k + 1) f fd ps sp := by
  obtain ⟨oc, od, kV, doc, pm, an, cdv, ct, osl, rfl, lk, hcd⟩ := F.ex
  refine ⟨size, fun A outer s H args us vs Q E room env bind vals prom => ?_⟩
  have inK : K.In s.heap := env.mod.kin.keeps fun b o q => (env.bs b o q).1
  have loose : s.heap.NoLimit := env.mod.nolimit.keeps fun b o q => (env.bs b o q).1
  have kinds : ∀ z ∈ ps.zip us, (defScope st).names.lookup z.1 = some .local ∨ ((defScope st).names.lookup z.1 = some .cell ∧ ((cellsFrom (s.heap.objs.size + 1) (defScope st).names []).lookup z.1).isSome = true) := by
    rintro ⟨n, v⟩ hz
    have hn := (List.of_mem_zip hz).1
    rcases S.par n hn with h | h
    · exact Or.inl h
    · exact Or.inr ⟨h, PySem.W.cellsFrom_some _ _ _ (Or.inl h)⟩
  refine codeAny_call_function room.depth (inK _ _ lk) rfl S.co S.gen rfl (PySem.W.codeRec_of inK hcd) (bind _ _ _ _ ?_)
  refine wpAny_newFunctionEnv_cells S.kind kinds fun env' e1 s1 into => ?_
  subst e1
  refine ⟨loose.keeps into.toInCall.keep, codeAny_func ?_⟩
  obtain ⟨t, deriv, read⟩ := body cdv A outer s H vs Q E (room.deeper _) prom
  have env1 : Env0 P w K mg base { A with handled := none } outer s H := ⟨env.frames, env.mod, env.bs, env.bsz, env.funs, env.frf, env.hok, env.bare⟩
  have I0 := inv_start (CX := CX0) (E := E) (A := { A with handled := none }) S rfl env1 (size _ _ _ _ prom) vals into
  have I : Inv (cxU P w K mg base N qual (defScope st) f cdv A outer s H E) [] (start N vs) H s1 :=
    ⟨⟨I0.ok.mod, I0.ok.kind, I0.ok.glob, I0.ok.blt, I0.ok.above, I0.ok.inj, I0.ok.has, I0.ok.cab, (fun z => absurd (show false = true from z) Bool.false_ne_true), I0.ok.frames, I0.ok.stk, I0.ok.exf, I0.ok.bs, I0.ok.bsz, I0.ok.noex, I0.ok.exfs, I0.ok.funs, I0.ok.frf⟩,
      I0.os, I0.bare, I0.base, I0.loc, I0.cell, I0.free, I0.freeC, I0.pin, I0.hok, I0.len⟩
  refine wpAny_mono (deriv.run [] s1 (start N vs) H _ I read) (fun flow s' ends => ?_) fun _ _ q => q
  have done : ∀ {σ2 : L2.St} {H2 : Hp} {v : V} {u : Value}, Inv (cxU P w K mg base N qual (defScope st) f cdv A outer s H E) [] σ2 H2 s' → RelV v u → Q v H2 → CE outer P w H s Q u s' := by
    intro σ2 H2 v u J rel q
    exact ⟨v, H2, J.os, J.bare, J.base, J.hok, rel, q⟩
  match flow, ends with
  | .ret u, ends =>
    obtain ⟨v, σ2, H2, J, rel, q⟩ := ends
    exact done J rel q
  | .next, ends =>
    obtain ⟨σ2, H2, J, q⟩ := ends
    exact done (v := V.non) (u := Value.none) J rfl q
  | .brk, ends =>
    obtain ⟨_, _, _, q⟩ := ends
    exact q.elim
  | .cont, ends =>
    obtain ⟨_, _, _, q⟩ := ends
    exact q.elim
end
section
variable {X : Cx} {k : Nat} {f : Addr} {fd : FuncData} {ps : List Str} {sp : Sp} {E : XK} {x : Str} {p pos : Pos} {e : Expr} {es : List Expr} {t : TA}
theorem pe_callU (F : FnU X.prog X.w X.K X.mg X.base k f fd ps sp) (hr : L2H.RoomH k X.A) (hg : Gl X x) (hm : X.mg x = some (.ref f)) (hk : PySem.W.keepIn X.K (.ref f) = true) (hb : Binds X.K fd ps []) (hx : Passes CX0 X E)
    (ha : PA X (e :: es) t) (hdb : (x == ("__debug__" : Str)) = false := by decide) (he : starEach (e :: es) X.env = (false, eval e X.env) :: starEach es X.env := by rfl) (hpl : (backTo pos (starEach es X.env)).any (·.1) = false := by rfl) :
    PE X (.Call (.Name x p) (e :: es) [] pos) (tCall sp [] E t) := by
  constructor
  intro pins s σ H Q I h
  have args := ha.run pos pins s σ H _ I h
  refine wpAny_Call_Name_kw (ld_glob I hg hm (PySem.W.callWith_K (h₀ := X.base) I.ok.mod.kin hk (thn args ?_) he hpl) hdb)
  rintro us s1 ⟨vs, H1, I1, r, q⟩
  rw [List.append_nil] at q
  refine ⟨I1.kIn, ?_⟩
  have many : (us ++ []).length = ps.length := by rw [List.append_nil]; exact r.length.symm.trans (F.size _ _ _ _ q)
  have bs := hb s1 us I1.kIn many
  rw [List.append_nil] at bs
  have run := F.go X.A X.stack s1 H1 ⟨us, []⟩ us vs Q E hr I1.env0 bs r q
  refine wpAny_call (codeAny_mono run fun res s' z => ?_)
  match res, z with
  | .error err, z => exact hx pins σ H1 s1 err s' I1 z
  | .ok (.ret u), z => exact I1.after z
end
end BC
namespace BC
open PySem PySem.Spec PyProof.Rows L2
theorem roomM {k : Nat} {A : Around} {v : Option Value} (r : L2H.RoomH k A) : L2H.RoomH k (A.mark v) := ⟨r.dp, r.un⟩
/-- own classes ahead of ValueError's -/
def MroIs (K : PySem.W.Frag) (C : Addr) (l : List Addr) : Prop := ∃ cd, PySem.W.clsIn K C = some cd ∧ cd.mro = l.map Value.ref ++ HandSPX.veTail
theorem own_has {l : List Addr} {D : Addr} : (l.map Value.ref ++ HandSPX.veTail).contains (.ref D) = decide (D ∈ l) := by
  induction l with
  | nil => rfl
  | cons a l ih =>
    rw [List.map_cons, List.cons_append, List.contains_cons, ih]
    by_cases e : D = a
    · subst e; simp
    · have : (Value.ref D == Value.ref a) = false := by simpa using e
      rw [this, Bool.false_or]
      simp [e]
theorem mro_sub {K : PySem.W.Frag} {C : Addr} {l : List Addr} (m : MroIs K C l) (v : Value) : PySem.W.subIn K (.ref C) v = some ((l.map Value.ref ++ HandSPX.veTail).contains v) := by
  obtain ⟨cd, h1, h2⟩ := m
  show PySem.W.mroIn K C v = _
  unfold PySem.W.mroIn
  rw [h1]
  show (if cd.mro.isEmpty = true then none else some (cd.mro.contains v)) = _
  rw [h2, if_neg (by cases l <;> simp [HandSPX.veTail])]
/-- isinstance of own exceptions, among each other -/
theorem kit_own {K : PySem.W.Frag} {C D : Addr} {l l2 : List Addr} (m : MroIs K C l) (m2 : MroIs K D l2) (t : PySem.W.typeIn K (.ref D) = some (.type "type")) (hC : C ∈ l) : PySem.W.kitOne K (.ref C) (.ref D) = some (decide (D ∈ l)) := by
  unfold PySem.W.kitOne
  by_cases e : C = D
  · subst e
    rw [if_pos (by simp), decide_eq_true hC]
  · have : (Value.ref C == Value.ref D) = false := by simpa using e
    rw [this, if_neg Bool.false_ne_true]
    obtain ⟨cd2, k1, _⟩ := id m2
    show (if ((PySem.W.clsIn K D).isSome && PySem.W.typeIn K (.ref D) == some (.type "type")) = true then PySem.W.subIn K (.ref C) (.ref D) else none) = _
    rw [k1, t, if_pos (by rfl), mro_sub m, own_has]
theorem kit_ve {K : PySem.W.Frag} {C : Addr} {l : List Addr} (m : MroIs K C l) : PySem.W.kitOne K (.ref C) (.type "ValueError") = some true := by
  unfold PySem.W.kitOne
  rw [if_neg (by simp)]
  show (if PySem.W.kitMeta "ValueError" = true then PySem.W.subIn K (.ref C) (.type "ValueError") else none) = _
  rw [if_pos (by decide +kernel), mro_sub m]
  congr 1
  clear m
  induction l with
  | nil => rfl
  | cons a l ih => rw [List.map_cons, List.cons_append, List.contains_cons, ih, Bool.or_true]
/-- an own class in an except clause -/
theorem exm_own {K : PySem.W.Frag} {C D : Addr} {l : List Addr} (m : MroIs K C l) (e : ExcC K D) (t : PySem.W.typeIn K (.ref D) = some (.type "type")) : PySem.W.exmOne K (.ref C) (.ref D) = some (decide (D ∈ l)) :=
  PySem.W.exm_ref e.hs e.hd t (by rw [mro_sub m, own_has])
theorem exm_yes {K : PySem.W.Frag} {C D : Addr} {l : List Addr} (m : MroIs K C l) (e : ExcC K D) (t : PySem.W.typeIn K (.ref D) = some (.type "type")) (h : D ∈ l) : PySem.W.exmOne K (.ref C) (.ref D) = some true := by rw [exm_own m e t, decide_eq_true h]
theorem kitAny_cons' {K : PySem.W.Frag} {t c : Value} {cs : List Value} {b r : Bool} (h : PySem.W.kitOne K t c = some b) (hr : PySem.W.kitAny K t cs = some r) : PySem.W.kitAny K t (c :: cs) = some (b || r) := by
  unfold PySem.W.kitAny
  rw [h]
  cases b with
  | true => rfl
  | false => rw [Bool.false_or]; exact hr
section
variable {σ : L2.St} {H : Hp} {Q : VK} {t : TA} {sp : Sp} {E : L2.St → XK}
theorem x_callS : tCallS sp E t σ H Q = t σ H fun vs H1 => sp vs H1 Q (E σ) := rfl
end
end BC

set_option Elab.async false
set_option linter.all false
set_option maxRecDepth 100000
set_option maxHeartbeats 4000000
/-! a caught exception whose context is None, tracked; defs called in its suite that know it; comprehensions there -/
namespace BC
open PySem PySem.Spec PyProof.Rows L2
/-- an exception's object: its class, its dict; its context is None -/
def ExTN (cls : Value) (d : Option Addr) (a : Addr) : HO := .ext fun h => ∃ (ob : Obj) (fs : Array Value), h.get? a = some ob ∧ L2N.Zn cls d ob ∧ ob.data = .fields fs
theorem exTN_ok {P : Program} {w : World} {H : Hp} {h : Heap} {a : Addr} {cls : Value} {d : Option Addr} {ob : Obj} {fs : Array Value} (e : h.get? a = some ob) (z : L2N.Zn cls d ob) (f : ob.data = .fields fs) : ObjOk P w H h a (ExTN cls d a) := by
  refine ⟨⟨ob, fs, e, z, f⟩, ⟨ob, e⟩, ?_⟩
  rintro h1 h2 ⟨o2, f2, e2, z2, q2⟩ k
  exact ⟨o2, f2, k _ e2, z2, q2⟩
def IsExN (H : Hp) (a : Addr) (cls : Value) : Prop := ∃ φ : Heap → Prop, H a = some (.ext φ) ∧ ∀ h, φ h → ∃ (ob : Obj) (fs : Array Value), h.get? a = some ob ∧ L2N.Zn cls none ob ∧ ob.data = .fields fs
theorem isExN_T {H : Hp} {a : Addr} {cls : Value} (h : H a = some (ExTN cls none a)) : IsExN H a cls := ⟨_, h, fun _ q => q⟩
theorem IsExN.at {H H' : Hp} {a : Addr} {cls : Value} (x : IsExN H a cls) (h : ∀ o, H a = some o → H' a = some o) : IsExN H' a cls := by
  obtain ⟨φ, e, q⟩ := x
  exact ⟨φ, h _ e, q⟩
theorem IsExN.ex {H : Hp} {a : Addr} {cls : Value} (x : IsExN H a cls) : IsEx H a cls := by
  obtain ⟨φ, e, q⟩ := x
  refine ⟨φ, e, fun h p => ?_⟩
  obtain ⟨ob, fs, g, z, d⟩ := q h p
  exact ⟨ob, fs, g, ⟨z.1, z.2.1⟩, d⟩
theorem IsExN.hot {X : Cx} {pins : List (Addr × Obj)} {σ : L2.St} {H : Hp} {s : Shared} {a : Addr} {cls : Value} (x : IsExN H a cls) (I : Inv X pins σ H s) (hh : X.A.handled = some (.ref a)) : HotX.HotAt X.A a s.heap := by
  obtain ⟨φ, e, q⟩ := x
  obtain ⟨ob, fs, g, z, d⟩ := q _ (I.hok a _ e).1
  exact ⟨hh, ob, fs, g, d, z.2.2 fs d⟩
/-- the wish of 'except x as n' where the exception is tracked from then on -/
def wTrkN (K : PySem.W.Frag) (c : Value) (i : Nat) (ts : Addr → Value → Option Addr → TS) (Wout : WX) (D : Ends) : WX := fun cls d σ H =>
  ∃ b, PySem.W.exmOne K cls c = some b ∧ (b = true → ∀ a, H a = none → ts a cls d { nx := fun σ' H' => D.nx (σ'.set i none) H', rt := D.rt, bk := fun σ' H' => D.bk (σ'.set i none) H', ct := fun σ' H' => D.ct (σ'.set i none) H' } (σ.set i (some (.ref a))) (upd H a (ExTN cls d a))) ∧
    (b = false → Wout cls d σ H)
section
variable {X : Cx} {x n : Str} {c : Value} {i : Nat} {body suite : List Stmt} {b0 : Stmt} {np pos hpos : Pos} {tb : WX → TS} {ts : Addr → Value → Option Addr → TS} {Wout : WX}
theorem ps_try_trkN (hs : X.stack = X.env :: X.outer) (hf : X.env.frame = some X.env.locals) (hx : X.ex = []) (hN : X.N.Nodup) (hi : X.N[i]? = some n) (hln : X.env.kindOf n = some .local) (hc : Names X x c) (tk : L2N.Takes X Wout)
    (hb : ∀ (W : WX) (pn : List (Addr × Obj)) (xe : Value → Shared → Prop), L2N.Takes (X.tr pn xe) W → PassesOwn (model X.prog X.w) X.A X.env xe → PSs (X.tr pn xe) body (tb W))
    (hsu : ∀ (a : Addr) (cls : Value) (d : Option Addr) (pn : List (Addr × Obj)), PSs (X.suite a pn) (b0 :: suite) (ts a cls d)) :
    PS X (.Try body [.ExceptHandler (some (.Name x np)) (some n) (b0 :: suite) hpos] [] [] pos) (fun D σ H => tb (wTrkN X.K c i ts Wout D) D σ H) := by
  constructor
  intro pins s σ H D I h
  have ok := I.ok
  have frames : X.A.frames = some (X.env :: X.outer) := hs ▸ ok.frames
  let W0 := wTrkN X.K c i ts Wout D
  let after := fun (e : Value) (s1 : Shared) => wpAny (model X.prog X.w) X.A (noteFrame e X.env) (fun _ s2 => wpAny (model X.prog X.w) X.A (setFlight e none) (fun _ s3 =>
    wpAny (model X.prog X.w) X.A (handleBy e X.env [.ExceptHandler (some (.Name x np)) (some n) (b0 :: suite) hpos]) (SP X pins D) X.xe s3) X.xe s2) X.xe s1
  have take : L2N.Takes (X.tr (X.pn ++ pins) after) W0 := by
    rintro u s' ⟨a, B, sI, pins1, σ1, H1, cls, d, rfl, J0, nb, up, sky, na, os, ag, b, eb, yes, no⟩
    have J : Inv X pins σ1 H1 sI := J0.ofTry ok
    rw [show (X.tr (X.pn ++ pins) after).stack = X.env :: X.outer from hs] at sky
    refine L2N.Sky.land (Z := L2N.Zn cls d) L2N.Zn.steady frames hf sky fun h3 fly3 up3 => ?_
    have J3 : Inv X pins σ1 H1 { s' with heap := h3 } := J.landed nb fly3.1 (up.trans up3) os ag
    obtain ⟨o3, f3, e3, z3, d3⟩ := fly3.there
    have outside : a ∉ frs (X.env :: X.outer) := by
      intro hm
      obtain ⟨_, o', e', no'⟩ := fly3.2.2.1.mem hm
      rw [e3] at e'
      cases e'
      exact no' _ d3
    have gone : sI.heap.get? a = none := by
      cases q : sI.heap.get? a with
      | none => rfl
      | some o =>
        have z := nb a o q (by rw [show (X.tr (X.pn ++ pins) after).stack = X.env :: X.outer from hs]; exact outside)
        rw [fly3.2.1] at z
        cases z
    have n0 : X.s_0.heap.get? a = none := by
      cases q : X.s_0.heap.get? a with
      | none => rfl
      | some o =>
        obtain ⟨o', z⟩ := J.base.there a o q (by rw [hx]; exact List.not_mem_nil)
        rw [gone] at z
        cases z
    have nL : a ≠ X.env.locals := fun z => outside (List.mem_filterMap.mpr ⟨X.env, List.mem_cons_self, by rw [hf, z]⟩)
    have nF : a ∉ X.fs := by
      intro hm
      obtain ⟨e, he, q⟩ := List.mem_filterMap.mp hm
      exact outside (List.mem_filterMap.mpr ⟨e, List.mem_cons_of_mem _ he, q⟩)
    have nC : ∀ y k, X.env.cells.lookup y = some k → k ≠ a := by
      rintro y k e rfl
      obtain ⟨v, o, z, _⟩ := J.cell y k e
      rw [gone] at z
      cases z
    have nP : ∀ p ∈ X.pn ++ pins, p.1 ≠ a := by
      intro p hp q
      have z := (J.pin p hp).1
      rw [q, gone] at z
      cases z
    have S3 := J3.suite e3 d3 na nL nF
    refine wpAny_handleBy_cons (codeAny_handlers_test ?_) (fun q => nomatch q)
    have LT : PySem.W.Looks (model X.prog X.w) h3 (typeOf (.ref a)) cls := fun A Q E s2 k q => wpAny_typeOf_ref (k _ _ e3) (by rw [z3.1]; exact q)
    have LM := PySem.W.exm_one (M := model X.prog X.w) (J3.kIn) LT eb
    have asked : ∀ {Q : Value → Shared → Prop} {E : Value → Shared → Prop}, Q c { s' with heap := h3 } → wpAny (model X.prog X.w) (X.A.mark (some (.ref a))) (eval (.Name x np) X.env) Q E { s' with heap := h3 } := by
      intro Q E q
      obtain ⟨hg, hdb, hm | ⟨hm, hv, hnn⟩⟩ := hc
      · exact ld_glob (X := X.suite a ((a, o3) :: (X.pn ++ pins))) S3 hg hm q hdb
      · exact ld_blt (X := X.suite a ((a, o3) :: (X.pn ++ pins))) S3 hg hm hv q hnn hdb
    refine asked (LM.here ?_)
    cases b with
    | false =>
      show wpAny _ X.A (handleBy (.ref a) X.env []) _ _ _
      refine wpAny_handleBy_nil ?_
      obtain ⟨_, _, _, ob, vs, T, oT, tt, he, hz, hd, h1, hr⟩ := id fly3
      have fin : wpAny (model X.prog X.w) X.A (setFlight (.ref a) X.env.frame) (fun _ s4 => wpAny (model X.prog X.w) X.A (throw (.ref a) : Sem Flow) (SP X pins D) X.xe s4) X.xe { s' with heap := h3 } := by
        rw [hf]
        refine HandSPX.setFlight_upZ fly3 fun h4 held up4 => wpAny_throw (tk _ _ ?_)
        exact ⟨a, B, sI, pins, σ1, H1, cls, d, rfl, J, by rw [hs]; rw [show (X.tr (X.pn ++ pins) after).stack = X.env :: X.outer from hs] at nb; exact nb, (up.trans up3).trans up4, .inr (.inr (by rw [hs]; exact held)), na, os, ag, no rfl⟩
      unfold PySem.passOn
      refine wpAny_bind (wpAny_field he hd h1 ?_)
      rw [if_neg (by simp : ¬ ((Value.ref T == Value.none) = true))]
      first
        | exact wpAny_bind fin
        | exact wpAny_bind (wpAny_pure (wpAny_bind fin))
    | true =>
      refine codeAny_handlers_suite_as ?_
      refine HandSPX.lands_againZ fly3 fun h4 fly4 up4 => ?_
      have J4 : Inv X pins σ1 H1 { s' with heap := h4 } := J.landed nb fly4.1 ((up.trans up3).trans up4) os ag
      obtain ⟨o4, f4, e4, z4, d4⟩ := fly4.there
      have T4 : Inv X pins σ1 (upd H1 a (ExTN cls d a)) { s' with heap := h4 } := inv_track J4 n0 na nL nC nP (exTN_ok e4 z4 d4)
      refine store_ok (X := X.suite a (X.pn ++ pins)) (v := .ref a) (inv_intoT T4 a) hN hi (.inl hln) rfl (fun s5 S5 => ?_) (.inr hln)
      refine wpAny_mono ((hsu a cls d (X.pn ++ pins)).run [] s5 _ _ _ S5 (yes rfl a na)) (fun fl s6 res => ?_) fun _ _ z => z.elim
      have close : ∀ {σ6 : L2.St} {H6 : Hp} {Q : Shared → Prop}, Inv (X.suite a (X.pn ++ pins)) [] σ6 H6 s6 → (∀ s7, Inv X pins (σ6.set i none) H6 s7 → Q s7) →
          wpAny (model X.prog X.w) X.A (do bindName X.env n .none; unbindBehindTheSuite X.env n hpos) (fun _ s7 => Q s7) X.xe s6 := fun S6 q => gone_ok (inv_outT S6 ok) hN hi hln q
      match fl, res with
      | .next, res =>
        obtain ⟨σ6, H6, S6, q6⟩ := res
        exact close S6 fun s7 J7 => ⟨_, _, J7, q6⟩
      | .brk, res =>
        obtain ⟨σ6, H6, S6, q6⟩ := res
        exact close S6 fun s7 J7 => ⟨_, _, J7, q6⟩
      | .cont, res =>
        obtain ⟨σ6, H6, S6, q6⟩ := res
        exact close S6 fun s7 J7 => ⟨_, _, J7, q6⟩
      | .ret u, res =>
        obtain ⟨v6, σ6, H6, S6, r6, q6⟩ := res
        exact close S6 fun s7 J7 => ⟨_, _, _, J7, r6, q6⟩
  refine wpAny_Try_except (wpAny_mono ((hb W0 (X.pn ++ pins) after take PassesOwn.looking).run [] s σ H D (I.toTry _) h) (fun fl s1 res => ?_) fun e s1 he => he)
  match fl, res with
  | .next, res =>
    obtain ⟨σ2, H2, J2, q⟩ := res
    exact wpAny_execs_nil ⟨σ2, H2, J2.ofTry ok, q⟩
  | .brk, res =>
    obtain ⟨σ2, H2, J2, q⟩ := res
    exact ⟨σ2, H2, J2.ofTry ok, q⟩
  | .cont, res =>
    obtain ⟨σ2, H2, J2, q⟩ := res
    exact ⟨σ2, H2, J2.ofTry ok, q⟩
  | .ret u, res =>
    obtain ⟨v, σ2, H2, J2, r, q⟩ := res
    exact ⟨v, σ2, H2, J2.ofTry ok, r, q⟩
end
/-! ### defs whose first argument is the exception that is handled -/
structure FnV (P : Program) (w : World) (K : PySem.W.Frag) (mg : Str → Option Value) (base : Heap) (k : Nat) (f : Addr) (fd : FuncData) (ps : List Str) (sp : Sp) : Prop where
  size : ∀ vs H Q E, sp vs H Q E → vs.length = ps.length
  go : ∀ (xa : Addr) (A : Around) (outer : List Env) (s : Shared) (H : Hp) (args : Args) (us : List Value) (vs : List V) (Q : VK) (E : XK), A.handled = some (.ref xa) → vs[0]? = some (.ref xa) → L2H.RoomH k A → Env0 P w K mg base A outer s H →
    BindsTo s fd args (ps.zip us) → Vals vs us → sp vs H Q E → codeAny (model P w) A (.call (.ref f) args) (CR CX0 outer P w H s Q E) s
section
variable {P : Program} {w : World} {K : PySem.W.Frag} {mg : Str → Option Value} {base : Heap} {k : Nat} {f : Addr} {fd : FuncData} {ps : List Str} {sp : Sp}
theorem fun_okV {x qual : Str} {st : Stmt} {N : List Str} (F : Fun K x qual st f fd) (S : FnScope N ps (defScope st)) (size : ∀ vs H Q E, sp vs H Q E → vs.length = ps.length)
    (body : ∀ (xa : Addr) (cdv : Value) (A : Around) (outer : List Env) (s : Shared) (H : Hp) (vs : List V) (Q : VK) (E : XK), A.handled = some (.ref xa) → vs[0]? = some (.ref xa) → L2H.RoomH k (A.deeper (envOfC qual (defScope st) s.heap.objs.size f cdv)) → sp vs H Q E →
      ∃ t, PSs (cxU P w K mg base N qual (defScope st) f cdv A outer s H E) (defBody st) t ∧ t { nx := fun _ H' => Q .non H', rt := Q } (start N vs) H) : FnV P w K mg base (k + 1) f fd ps sp := by
  obtain ⟨oc, od, kV, doc, pm, an, cdv, ct, osl, rfl, lk, hcd⟩ := F.ex
  refine ⟨size, fun xa A outer s H args us vs Q E hh hv room env bind vals prom => ?_⟩
  have inK : K.In s.heap := env.mod.kin.keeps fun b o q => (env.bs b o q).1
  have loose : s.heap.NoLimit := env.mod.nolimit.keeps fun b o q => (env.bs b o q).1
  have kinds : ∀ z ∈ ps.zip us, (defScope st).names.lookup z.1 = some .local ∨ ((defScope st).names.lookup z.1 = some .cell ∧ ((cellsFrom (s.heap.objs.size + 1) (defScope st).names []).lookup z.1).isSome = true) := by
    rintro ⟨n, v⟩ hz
    have hn := (List.of_mem_zip hz).1
    rcases S.par n hn with h | h
    · exact Or.inl h
    · exact Or.inr ⟨h, PySem.W.cellsFrom_some _ _ _ (Or.inl h)⟩
  refine codeAny_call_function room.depth (inK _ _ lk) rfl S.co S.gen rfl (PySem.W.codeRec_of inK hcd) (bind _ _ _ _ ?_)
  refine wpAny_newFunctionEnv_cells S.kind kinds fun env' e1 s1 into => ?_
  subst e1
  refine ⟨loose.keeps into.toInCall.keep, codeAny_func ?_⟩
  obtain ⟨t, deriv, read⟩ := body xa cdv A outer s H vs Q E hh hv (room.deeper _) prom
  have env1 : Env0 P w K mg base { A with handled := none } outer s H := ⟨env.frames, env.mod, env.bs, env.bsz, env.funs, env.frf, env.hok, env.bare⟩
  have I0 := inv_start (CX := CX0) (E := E) (A := { A with handled := none }) S rfl env1 (size _ _ _ _ prom) vals into
  have I : Inv (cxU P w K mg base N qual (defScope st) f cdv A outer s H E) [] (start N vs) H s1 :=
    ⟨⟨I0.ok.mod, I0.ok.kind, I0.ok.glob, I0.ok.blt, I0.ok.above, I0.ok.inj, I0.ok.has, I0.ok.cab, (fun z => absurd (show false = true from z) Bool.false_ne_true), I0.ok.frames, I0.ok.stk, I0.ok.exf, I0.ok.bs, I0.ok.bsz, I0.ok.noex, I0.ok.exfs, I0.ok.funs, I0.ok.frf⟩,
      I0.os, I0.bare, I0.base, I0.loc, I0.cell, I0.free, I0.freeC, I0.pin, I0.hok, I0.len⟩
  refine wpAny_mono (deriv.run [] s1 (start N vs) H _ I read) (fun flow s' ends => ?_) fun _ _ q => q
  have done : ∀ {σ2 : L2.St} {H2 : Hp} {v : V} {u : Value}, Inv (cxU P w K mg base N qual (defScope st) f cdv A outer s H E) [] σ2 H2 s' → RelV v u → Q v H2 → CE outer P w H s Q u s' := by
    intro σ2 H2 v u J rel q
    exact ⟨v, H2, J.os, J.bare, J.base, J.hok, rel, q⟩
  match flow, ends with
  | .ret u, ends =>
    obtain ⟨v, σ2, H2, J, rel, q⟩ := ends
    exact done J rel q
  | .next, ends =>
    obtain ⟨σ2, H2, J, q⟩ := ends
    exact done (v := V.non) (u := Value.none) J rfl q
  | .brk, ends =>
    obtain ⟨_, _, _, q⟩ := ends
    exact q.elim
  | .cont, ends =>
    obtain ⟨_, _, _, q⟩ := ends
    exact q.elim
end
section
variable {X : Cx} {k : Nat} {f : Addr} {fd : FuncData} {ps : List Str} {sp : Sp} {E : XK} {x : Str} {p pos : Pos} {e : Expr} {es : List Expr} {t : TA}
/-- a call whose first argument is the exception xa -/
def tCallV (xa : Addr) (sp : Sp) (E : XK) (t : TA) : TE := fun σ H Q => t σ H fun vs H1 => vs[0]? = some (.ref xa) ∧ sp vs H1 Q E
theorem x_callV {xa : Addr} {sp : Sp} {E : XK} {t : TA} {σ : L2.St} {H : Hp} {Q : VK} : tCallV xa sp E t σ H Q = t σ H fun vs H1 => vs[0]? = some (.ref xa) ∧ sp vs H1 Q E := rfl
theorem pe_callV (F : FnV X.prog X.w X.K X.mg X.base k f fd ps sp) (hr : L2H.RoomH k X.A) (hg : Gl X x) (hm : X.mg x = some (.ref f)) (hk : PySem.W.keepIn X.K (.ref f) = true) (hb : Binds X.K fd ps []) (hx : Passes CX0 X E) {xa : Addr} (hh : X.A.handled = some (.ref xa))
    (ha : PA X (e :: es) t) (hdb : (x == ("__debug__" : Str)) = false := by decide) (he : starEach (e :: es) X.env = (false, eval e X.env) :: starEach es X.env := by rfl) (hpl : (backTo pos (starEach es X.env)).any (·.1) = false := by rfl) :
    PE X (.Call (.Name x p) (e :: es) [] pos) (tCallV xa sp E t) := by
  constructor
  intro pins s σ H Q I h
  have args := ha.run pos pins s σ H _ I h
  refine wpAny_Call_Name_kw (ld_glob I hg hm (PySem.W.callWith_K (h₀ := X.base) I.ok.mod.kin hk (thn args ?_) he hpl) hdb)
  rintro us s1 ⟨vs, H1, I1, r, q⟩
  refine ⟨I1.kIn, ?_⟩
  have many : (us ++ []).length = ps.length := by rw [List.append_nil]; exact r.length.symm.trans (F.size _ _ _ _ q.2)
  have bs := hb s1 us I1.kIn many
  rw [List.append_nil] at bs
  have run := F.go xa X.A X.stack s1 H1 ⟨us, []⟩ us vs Q E hh q.1 hr I1.env0 bs r q.2
  refine wpAny_call (codeAny_mono run fun res s' z => ?_)
  match res, z with
  | .error err, z => exact hx pins σ H1 s1 err s' I1 z
  | .ok (.ret u), z => exact I1.after z
end
/-! ### walks that end while an exception is handled -/
section
variable {prog : Program} {w : World} {A : Around} {E : Value → Shared → Prop} {s : Shared}
/-- what stands of an iterator while it is walked; its end is told while x1 is handled -/
structure TurnV (P : Program) (w : World) (K : PySem.W.Frag) (tg : Expr) (J : It) (fp : List Addr) (it : Addr) (tn : Nat → Heap → Prop) : Prop where
  obj : ∀ i h, tn i h → ∀ b ∈ fp, ∃ o, h.get? b = some o ∧ ∀ v, o.data ≠ .cell v
  keep : ∀ i h h', tn i h → (∀ b ∈ fp, ∀ o, h.get? b = some o → h'.get? b = some o) → tn i h'
  item : ∀ (X : Cx), X.prog = P → X.w = w → X.K = K → ∀ (i : Nat) (pins : List (Addr × Obj)) (s : Shared) (σ : L2.St) (H : Hp) (E : Value → Shared → Prop), Inv X pins σ H s → (∀ b ∈ fp, FpOk X pins H b) → tn i s.heap → J.go i H →
    wpAny (model P w) X.A (pyNext (.ref it)) (fun r s1 => ∃ u, r = some u ∧
      wpAny (model P w) X.A (letOwnedTupleGo tg (.ref it) u) (fun _ s2 => ∃ x H', Inv X pins σ H' s2 ∧ RelV x u ∧ J.yld i H x H' ∧ tn (i + 1) s2.heap ∧ ∀ b ∈ fp, H' b = none) E s1) E s
  done : ∀ (X : Cx), X.prog = P → X.w = w → X.K = K → ∀ (x1 : Addr) (i : Nat) (pins : List (Addr × Obj)) (s : Shared) (σ : L2.St) (H : Hp) (E : Value → Shared → Prop), HotX.HotAt X.A x1 s.heap → Inv X pins σ H s → (∀ b ∈ fp, FpOk X pins H b) → tn i s.heap → J.stop i H →
    wpAny (model P w) X.A (pyNext (.ref it)) (fun r s1 => r = none ∧ Inv X pins σ H s1) E s
  self : ∀ (A : Around) (i : Nat) (s : Shared) (Q : Value → Shared → Prop) (E : Value → Shared → Prop), tn i s.heap → Q (.ref it) s → wpAny (model P w) A (pyIter (.ref it)) Q E s
theorem turn_rangeV {P : Program} {w : World} {K : PySem.W.Frag} {tg : Expr} (it : Addr) (lo : Int) (n : Nat) : TurnV P w K tg (Itr lo n) [it] it (fun i h => IsRangeIter h it (lo + (i : Nat) * 1) ((n : Int) - (i : Nat)) 1) where
  obj := fun i h st b hb => by
    obtain rfl : b = it := List.mem_singleton.mp hb
    exact ⟨_, st, fun v z => nomatch (show Data.fields _ = Data.cell v from z)⟩
  keep := fun i h h' st k => k it List.mem_cons_self _ st
  item := by
    rintro X rfl rfl rfl i pins s σ H E I hf st hg
    obtain ⟨f0, f1, f2, f3, f4, f5⟩ := hf it List.mem_cons_self
    have hlt : i < n := hg
    refine wpAny_pyNext_range_item st (by omega) fun h' st' sb => ?_
    have st2 : IsRangeIter h' it (lo + ((i + 1 : Nat) : Int) * 1) ((n : Int) - ((i + 1 : Nat) : Int)) 1 := by
      rw [show lo + ((i + 1 : Nat) : Int) * 1 = lo + ((i : Nat) : Int) * 1 + 1 by omega, show (n : Int) - ((i + 1 : Nat) : Int) = (n : Int) - ((i : Nat) : Int) - 1 by omega]
      exact st'
    have I1 : Inv X pins σ H { s with heap := h', toks := s.toks + 1 } := I.turned (fun b o hb e => (sb.2 b hb).trans e) f0 f1 f3 f4 f5
    exact ⟨_, rfl, go_of (s := { s with heap := h', toks := s.toks + 1 }) (n := "range_iterator") st2 rfl rfl (by decide) ⟨.int (lo + i), H, I1, ⟨s.toks, by rw [Int.mul_one]⟩, ⟨rfl, rfl⟩, st2, fun b hb => (hf b hb).1⟩⟩
  done := by
    rintro X rfl rfl rfl x1 i pins s σ H E hot I hf st hg
    obtain ⟨f0, f1, f2, f3, f4, f5⟩ := hf it List.mem_cons_self
    have hge : n ≤ i := hg
    exact HotX.pyNext_range_end_hot hot st (by omega) fun h' eb => ⟨rfl, I.turned (t' := s.toks) (fun b o _ e => eb b o e) f0 f1 f3 f4 f5⟩
  self := fun _ _ _ _ _ st h => wpAny_pyIter_rangeiter st h
end
def PIEV (X : Cx) (pins : List (Addr × Obj)) (σ : L2.St) (tg : Expr) (R : It → Hp → Prop) (itv : Value) (s2 : Shared) : Prop :=
  ∃ (it : Addr) (fp : List Addr) (tn : Nat → Heap → Prop) (J : It) (H' : Hp), itv = .ref it ∧ Inv X pins σ H' s2 ∧ TurnV X.prog X.w X.K tg J fp it tn ∧ tn 0 s2.heap ∧ (∀ b ∈ fp, FpOk X pins H' b) ∧ R J H'
structure PIV (X : Cx) (tg iter : Expr) (wi : TI) : Prop where
  run : ∀ (pins : List (Addr × Obj)) (s : Shared) (σ : L2.St) (H : Hp) (R : It → Hp → Prop), Inv X pins σ H s → wi σ H R →
    wpAny (model X.prog X.w) X.A (eval iter X.env) (fun v s1 => wpAny (model X.prog X.w) X.A (pyIter v) (PIEV X pins σ tg R) X.xe s1) X.xe s
section
variable {X : Cx} {tg : Expr}
theorem pi_range1V {a : Expr} {ta : TA} {p pos : Pos} (hg : Gl X "range") (hm : X.mg "range" = none) (ha : PA X [a] ta) (hs : starEach [a] X.env = [(false, eval a X.env)] := by rfl) : PIV X tg (.Call (.Name "range" p) [a] [] pos) (iRng1 ta) := by
  constructor
  intro pins s σ H R I h
  refine Call_ (ld_blt I hg hm boot_range (PyProof.Rows.callWith_type1 (thn (ha.run pos pins s σ H _ I h) fun us s1 ⟨vs, H1, I1, r1, q1⟩ => ?_) hs rfl))
  obtain ⟨j, rfl, b1, b2, q⟩ := q1
  cases r1 with
  | cons r rr =>
    cases rr
    obtain ⟨t, rfl⟩ := r
    refine call_range_1 ?_
    refine wpAny_pyIter_range (IsRange.new ..) (small_one (by omega) (by omega) b1 b2) ?_
    have J1 : ∀ {h : Heap} {tk : Nat}, (∀ b o, s1.heap.get? b = some o → h.get? b = some o) → Inv X pins σ H1 { s1 with heap := h, toks := tk } := fun k => I1.kept k
    refine ⟨_, [_], _, Itr 0 (j - 0).toNat, H1, rfl, J1 fun b o e => Heap.get?_push_of_some _ (Heap.get?_push_of_some _ e), turn_rangeV _ 0 (j - 0).toNat, ?_, fun b hb => ?_, by simpa using q⟩
    · show IsRangeIter _ _ ((0 : Int) + ((0 : Nat) : Int) * 1) ((((j - 0).toNat : Nat) : Int) - ((0 : Nat) : Int)) 1
      rw [show (0 : Int) + ((0 : Nat) : Int) * 1 = 0 by simp, show ((((j - 0).toNat : Nat) : Int) - ((0 : Nat) : Int)) = Builtin.Range.rangeSize 0 j 1 by rw [rangeSize_one]; split <;> omega]
      exact Heap.get?_push_size _ rfl
    · rw [List.mem_singleton.mp hb]
      exact (J1 (tk := s1.toks) fun b o e => Heap.get?_push_of_some _ e).fpOk (Nat.le_refl _) ((J1 (tk := s1.toks) fun b o e => Heap.get?_push_of_some _ e).hok.fresh (Nat.le_refl _))
/-! ### a list comprehension while an exception is handled -/
def tLcV (xa : Addr) (wi : TI) (g : TG) (tt : TT) (te : TE) (vs : List Nat) : TE := fun σ H Q => tLc wi g tt te vs σ H fun v H' => (∃ c, IsExN H' xa c) ∧ Q v H'
theorem x_lcV {xa : Addr} {wi : TI} {g : TG} {tt : TT} {te : TE} {vs : List Nat} {σ : L2.St} {H : Hp} {Q : VK} : tLcV xa wi g tt te vs σ H Q = wi σ H (fun J H1 => ∀ Dl, H1 Dl = none → LcG J g tt te vs σ Dl H1 fun v H' => (∃ c, IsExN H' xa c) ∧ Q v H') := rfl
theorem pe_lcV {iter elt : Expr} {ifs : List Expr} {scope : Scope} {own : List (Str × Nat)} {pos : Pos} {wi : TI} {g : TG} {tt : TT} {te : TE} {xa : Addr} (hh : X.A.handled = some (.ref xa)) (hN : X.N.Nodup) (hi : PIV X tg iter wi) (ok : BlkOk X.N X.env.scope scope own)
    (hg : ∀ (s : Shared) (H : Hp) (C : Addr) (cl : List (Str × Addr)) (fp : List Addr), PG (X.blk s H scope (compEnvC scope cl C X.env) fp) tg g) (ht : ∀ (s : Shared) (H : Hp) (C : Addr) (cl : List (Str × Addr)) (fp : List Addr), PTs (X.blk s H scope (compEnvC scope cl C X.env) fp) ifs tt)
    (he : ∀ (s : Shared) (H : Hp) (C : Addr) (cl : List (Str × Addr)) (fp : List Addr), PE (X.blk s H scope (compEnvC scope cl C X.env) fp) elt te) (hs : ∀ x, foldedSetIterable iter X.env x = pure x := by intro _; rfl) :
    PE X (.ListComp elt [⟨tg, iter, ifs, 0⟩] scope pos) (tLcV xa wi g tt te (own.map (·.2))) := by
  constructor
  intro pins s σ H Q I h
  rw [eval_ListComp]
  generalize hvs : own.map (·.2) = vs at h
  refine wpAny_comprehension_free (use := none) rfl hs (closure_ok fun y hy e => (ok.free y hy e).elim (fun k => I.ok.has _ (.inl k)) (fun k => I.ok.has _ (.inr k))) ok.kind (fun y hy e => by rw [ok.uniq y hy, e]) (thn (hi.run pins s σ H _ I h) fun xv s1 hx => thn hx fun itv s2 h2 => ?_)
  obtain ⟨it, fp, tn, J, H2, rfl, I2, T, t2, f2, q⟩ := h2
  refine wpAny_newObj_type (newEnv_comp ?_) (Nat.zero_le _)
  obtain ⟨W, ⟨m0, w0⟩, turn⟩ := q s2.heap.objs.size (I2.hok.fresh (Nat.le_refl _))
  have kp : ∀ b o, s2.heap.get? b = some o → (s2.heap.push { cls := .type "list", data := .seq ([] : List Value).toArray }).get? b = some o := fun b o e => Heap.get?_push_of_some _ e
  have I3 : Inv X pins σ (upd H2 s2.heap.objs.size (.lst [])) { s2 with heap := s2.heap.push { cls := .type "list", data := .seq ([] : List Value).toArray } } :=
    I2.laid (t' := s2.toks) kp (Nat.le_refl _) ⟨Nat.zero_le _, [], 0, .nil, Heap.get?_push_size _ rfl⟩
  have f3 : ∀ b ∈ fp, FpOk X pins (upd H2 s2.heap.objs.size (.lst [])) b ∧ b < (s2.heap.push { cls := .type "list", data := .seq ([] : List Value).toArray }).objs.size := fun b hb => by
    obtain ⟨o, e, _⟩ := T.obj _ _ t2 b hb
    have lt := Heap.lt_size e
    exact ⟨⟨by rw [upd_ne (Nat.ne_of_lt lt)]; exact (f2 b hb).1, (f2 b hb).2⟩, by rw [Heap.size_push]; exact Nat.lt_succ_of_lt lt⟩
  have t3 := T.keep _ _ _ t2 fun b _ o e => kp b o e
  generalize s2.heap.objs.size = D at I3 f3 w0 turn ⊢
  generalize hs3 : ({ s2 with heap := s2.heap.push { cls := .type "list", data := .seq ([] : List Value).toArray } } : Shared) = s3 at I3
  have h3 : s2.heap.push { cls := .type "list", data := .seq ([] : List Value).toArray } = s3.heap := by rw [← hs3]
  rw [h3] at t3 f3
  have I4 := block_start I3 ok hN f3
  rw [hvs] at I4
  have pg := hg s3 (upd H2 D (.lst [])) s3.heap.objs.size (cellsFrom (s3.heap.objs.size + 1) scope.names (cloFrom X.env.cells scope.names [])) fp
  have pt := ht s3 (upd H2 D (.lst [])) s3.heap.objs.size (cellsFrom (s3.heap.objs.size + 1) scope.names (cloFrom X.env.cells scope.names [])) fp
  have pe := he s3 (upd H2 D (.lst [])) s3.heap.objs.size (cellsFrom (s3.heap.objs.size + 1) scope.names (cloFrom X.env.cells scope.names [])) fp
  show codeAny _ _ (.compStart (.ListComp elt [⟨tg, iter, ifs, 0⟩] scope pos) 0 (.ref it) (.ref D) (compEnvC scope (cellsFrom (s3.heap.objs.size + 1) scope.names (cloFrom X.env.cells scope.names [])) s3.heap.objs.size X.env)) (compPost (model X.prog X.w) X.A X.xe none (EP X pins σ Q) (.ref D) s3.heap.objs.size) { s3 with heap := pushCells (s3.heap.push { cls := .type "dict", data := .dict #[] }) scope.names }
  have eL : (compEnvC scope (cellsFrom (s3.heap.objs.size + 1) scope.names (cloFrom X.env.cells scope.names [])) s3.heap.objs.size X.env).locals = s3.heap.objs.size := rfl
  generalize compEnvC scope (cellsFrom (s3.heap.objs.size + 1) scope.names (cloFrom X.env.cells scope.names [])) s3.heap.objs.size X.env = ce at I4 pg pt pe eL ⊢
  have t4 : tn 0 (pushCells (s3.heap.push { cls := .type "dict", data := .dict #[] }) scope.names) := T.keep _ _ _ t3 fun b _ o e => pushCells_keeps _ _ _ _ (Heap.get?_push_of_some _ e)
  generalize hB : X.blk s3 (upd H2 D (.lst [])) scope ce fp = B at I4 pg pt pe
  have stat : ∀ {σ' : L2.St} {H' : Hp} {s' : Shared}, Inv B [] σ' H' s' → (∀ b ∈ fp, H' b = none) → ∀ b ∈ fp, FpOk B [] H' b := fun {σ' H' s'} I' hn b hb => by
    subst hB
    exact ⟨hn b hb, (I'.ok.exf b hb).1, I'.ok.exfs b hb, .inl hb, fun x c e => (I'.ok.exf b hb).2 x c e, fun p hp => nomatch (show p ∈ ([] : List (Addr × Obj)) from hp)⟩
  have loop : codeAny (model X.prog X.w) X.A (.compLoop (.ListComp elt [⟨tg, iter, ifs, 0⟩] scope pos) 0 (.ref it) (.ref D) ce) (compPost (model X.prog X.w) X.A X.xe none (EP X pins σ Q) (.ref D) s3.heap.objs.size) { s3 with heap := pushCells (s3.heap.push { cls := .type "dict", data := .dict #[] }) scope.names } := by
    refine compLoop_any (fun n s' => ∃ i H', Inv B [] (wipe σ vs) H' s' ∧ tn i s'.heap ∧ (∀ b ∈ fp, H' b = none) ∧ W i n H') ?_ m0 ⟨0, _, I4, t4, fun b hb => (f3 b hb).1.1, w0⟩
    rintro n s5 ⟨i, H5, I5, t5, n5, w5⟩
    subst hB
    rcases turn i n H5 w5 with ⟨stop, ⟨c, hx⟩, qq⟩ | ⟨go, Nx, hNx, step⟩
    · have td := T.done (X.blk s3 (upd H2 D (.lst [])) scope ce fp) rfl rfl rfl xa i [] s5 _ H5 (fun _ _ => False) (hx.hot I5 hh) I5 (stat I5 n5) t5 stop
      refine thnF td fun r s6 ⟨hr, I6⟩ => ?_
      subst hr
      have I7 : Inv X pins σ H5 s6 := I3.call' (ch := fp) I6.os I6.base I6.hok I6.bare fun b hb => ⟨(f3 b hb).1.2.2.2.1, (f3 b hb).1.2.1, (f3 b hb).1.2.2.2.2.1, (f3 b hb).1.2.2.2.2.2⟩
      have nC : H5 s3.heap.objs.size = none := by
        have z : H5 ce.locals = none := I6.free
        rwa [eL] at z
      obtain ⟨m, hn, _⟩ := I6.loc
      have hn : s6.heap.Ns ce.locals m := hn
      rw [eL] at hn
      obtain ⟨a0, a1, a2, a3, a4, a5⟩ := I3.fpOk (H' := H5) (Nat.le_refl _) nC
      exact ⟨m, hn, fun h'' sb => ⟨.ref D, H5, I7.turned (t' := s6.toks) (fun b o hb e => (sb.2 b hb).trans e) a0 a1 a3 a4 a5, rfl, qq⟩⟩
    · have ti := T.item (X.blk s3 (upd H2 D (.lst [])) scope ce fp) rfl rfl rfl i [] s5 _ H5 (fun _ _ => False) I5 (stat I5 n5) t5 go
      refine thnF ti fun r s6 ⟨u, hr, h6⟩ => ?_
      subst hr
      refine thnF h6 fun _ s7 ⟨x, H7, I7, r7, y7, t7, n7⟩ => ?_
      have I8 := I7.pinned (stat I7 n7) (T.obj _ _ t7)
      refine thnF (pg.run _ s7 _ H7 x u _ I8 r7 (step x H7 y7)) fun _ s8 ⟨σ8, H8, I9, w8, q8⟩ => ?_
      refine thnF (pt.run _ s8 σ8 H8 _ I9 q8) fun b s9 ⟨H9, J9, q9⟩ => ?_
      have turnOver : ∀ {s' : Shared} {H' : Hp}, Inv (X.blk s3 (upd H2 D (.lst [])) scope ce fp) ([] ++ pinsAt fp s7.heap) σ8 H' s' → Nx H' → ∃ m, m < n ∧ ∃ i H', Inv (X.blk s3 (upd H2 D (.lst [])) scope ce fp) [] (wipe σ vs) H' s' ∧ tn i s'.heap ∧ (∀ b ∈ fp, H' b = none) ∧ W i m H' := fun {s' H'} K9 nx => by
        obtain ⟨m', lt, w'⟩ := hNx H' nx
        have pin' : ∀ b ∈ fp, ∀ o, s7.heap.get? b = some o → s'.heap.get? b = some o ∧ H' b = none := fun b hb o e =>
          let z := K9.pin (b, o) (List.mem_append_right _ (List.mem_append_right _ (mem_pinsAt hb e)))
          ⟨z.1, z.2.1⟩
        refine ⟨m', lt, i + 1, H', (K9.unpinned (pins := [])).weak (by rw [← w8, wipe_length]) (fun j v e => ?_), T.keep _ _ _ t7 fun b hb o e => (pin' b hb o e).1, fun b hb => ?_, w'⟩
        · rw [← w8] at e
          exact (wipe_some e).1
        · obtain ⟨o, e, _⟩ := T.obj _ _ t7 b hb
          exact (pin' b hb o e).2
      cases b with
      | false => exact turnOver J9 q9
      | true =>
        refine thnF (pe.run _ s9 σ8 H9 _ J9 q9) fun z s10 ⟨yv, H10, K10, r10, acc, hD10, hz10, nx⟩ => ?_
        exact app_ok (X := X.blk s3 (upd H2 D (.lst [])) scope ce fp) K10 hD10 hz10 r10 fun s11 K11 => turnOver K11 nx
  exact codeAny_compStart_list loop (T.self X.A 0 _ _ _ t4 loop)
end
/-! ### defs that raise exceptions whose context is None -/
theorem takes0N {X : Cx} : L2N.Takes X (fun _ _ _ _ => False) := fun _ _ ⟨_, _, _, _, _, _, _, _, _, _, _, _, _, _, _, _, z⟩ => z.elim
theorem okXN {P : Program} {w : World} {K : PySem.W.Frag} {mg : Str → Option Value} {base : Heap} {x qual : Str} {st : Stmt} {f : Addr} {fd : FuncData} {N ps : List Str} {k : Nat} {sp : Sp} (F : Fun K x qual st f fd) (S : FnScope N ps (defScope st)) (len : ∀ vs H Q E, sp vs H Q E → vs.length = ps.length)
    (body : ∀ (cdv : Value) (A : Around) (outer : List Env) (s : Shared) (H : Hp) (vs : List V) (Q : VK) (E : XK), Room k (A.deeper (envOfC qual (defScope st) s.heap.objs.size f cdv)) → sp vs H Q E →
      ∃ t, PSs (cxOf (L2N.CX P w) P w K mg base N qual (defScope st) f cdv A outer s H E) (defBody st) t ∧ t { nx := fun _ H' => Q .non H', rt := Q } (start N vs) H) : FnOk P w K mg base (L2N.CX P w) (k + 1) f fd ps sp := by
  obtain ⟨oc, od, kV, doc, pm, an, cdv, ct, osl, rfl, lk, hcd⟩ := F.ex
  exact fn_of lk hcd S len fun A outer s H vs Q E hr hsp => body cdv A outer s H vs Q E hr hsp
/-! ### f(k = v, ..), what it raises wished for at the caller's slots -/
section
variable {X : Cx} {CX : CXT} {k : Nat} {f : Addr} {fd : FuncData} {ps ks : List Str} {sp : Sp} {E : L2.St → XK} {x : Str} {p pos : Pos} {kws : List Keyword} {tk : TA} {g : List Value → List Value → List Value} {gV : List V → List V → List V}
def tCallKS (sp : Sp) (gV : List V → List V → List V) (E : L2.St → XK) (tk : TA) : TE := fun σ H Q => tk σ H fun zs H2 => sp (gV [] zs) H2 Q (E σ)
theorem x_callKS {σ : L2.St} {H : Hp} {Q : VK} : tCallKS sp gV E tk σ H Q = tk σ H fun zs H2 => sp (gV [] zs) H2 Q (E σ) := rfl
theorem pe_callKS0 (F : FnOk X.prog X.w X.K X.mg X.base CX k f fd ps sp) (hr : Room k X.A) (hg : Gl X x) (hm : X.mg x = some (.ref f)) (hk : PySem.W.keepIn X.K (.ref f) = true) (hb : KBinds X.K fd ps ks g gV) (hx : ∀ σ, PassesAt CX X σ (E σ))
    (hkw : PK X kws tk) (hall : (backToKw pos (keywordEach kws X.env)).all (·.1.isSome) = true := by rfl) (hks : (backToKw pos (keywordEach kws X.env)).filterMap (·.1) = ks := by rfl)
    (hdb : (x == ("__debug__" : Str)) = false := by decide)
    (hpl : ((backTo pos (starEach [] X.env)).any (·.1) || (backToKw pos (keywordEach kws X.env)).any (·.1.isNone)) = false := by rfl) :
    PE X (.Call (.Name x p) [] kws pos) (tCallKS sp gV E tk) := by
  constructor
  intro pins s σ H Q I h
  refine wpAny_Call_Name_kw (ld_glob I hg hm ?_ hdb)
  refine PySem.W.callWith_KW0 (h₀ := X.base) I.ok.mod.kin hk hall (thn (hkw.run pos pins s σ H _ I h) fun ws s2 ⟨zs, H2, I2, rz, q2⟩ => ⟨I2.kIn, ?_⟩) hpl
  rw [hks]
  have r2 := hb.rel .nil rz
  have hl : (g [] ws).length = ps.length := by rw [← r2.length]; exact F.len _ _ _ _ q2
  refine wpAny_call (codeAny_mono (F.run X.A X.stack s2 H2 ⟨[], ks.zip ws⟩ (g [] ws) (gV [] zs) Q (E σ) hr I2.env0 (hb.to s2 [] ws I2.kIn hl) r2 q2) fun r s' z => ?_)
  match r, z with
  | .error err, z => exact hx σ pins H2 s2 err s' I2 z
  | .ok (.ret u), z => exact I2.after z
end
end BC

set_option Elab.async false
set_option linter.all false
set_option maxRecDepth 100000
set_option maxHeartbeats 4000000
namespace LW
open PySem PySem.Spec PyProof.Rows L2 BC Evl TR
open FM
def topS (i : Nat) : Stmt := PySem.Challenge.pw_breadcrumbs_k61_free_visits_errors.main.body.getD i (.Pass ⟨0, 0, 0, 0⟩)
abbrev s_is_integer : Stmt := topS 13
theorem sc_is_integer : FnScope ["value", "least", "most"] ["value", "least", "most"] (defScope s_is_integer) := ⟨rfl, rfl, rfl, by decide +kernel, rfl, by decide +kernel, by decide +kernel⟩
abbrev s_check_number : Stmt := topS 14
theorem sc_check_number : FnScope ["value", "least", "most"] ["value", "least", "most"] (defScope s_check_number) := ⟨rfl, rfl, rfl, by decide +kernel, rfl, by decide +kernel, by decide +kernel⟩
abbrev s_check_free : Stmt := topS 18
theorem sc_check_free : FnScope ["many", "times"] ["many", "times"] (defScope s_check_free) := ⟨rfl, rfl, rfl, by decide +kernel, rfl, by decide +kernel, by decide +kernel⟩
abbrev s_counts_after : Stmt := topS 19
theorem sc_counts_after : FnScope ["many", "counts", "found", "longer", "length"] ["many", "counts"] (defScope s_counts_after) := ⟨rfl, rfl, rfl, by decide +kernel, rfl, by decide +kernel, by decide +kernel⟩
abbrev s_counts_of : Stmt := topS 20
theorem sc_counts_of : FnScope ["many", "times", "found", "turn"] ["many", "times"] (defScope s_counts_of) := ⟨rfl, rfl, rfl, by decide +kernel, rfl, by decide +kernel, by decide +kernel⟩
abbrev s_all_by_length : Stmt := topS 21
theorem sc_all_by_length : FnScope ["many", "times", "found", "trails", "length", "count"] ["many", "times"] (defScope s_all_by_length) := ⟨rfl, rfl, rfl, by decide +kernel, rfl, by decide +kernel, by decide +kernel⟩
abbrev s_common_divisor : Stmt := topS 22
theorem sc_common_divisor : FnScope ["one", "other"] ["one", "other"] (defScope s_common_divisor) := ⟨rfl, rfl, rfl, by decide +kernel, rfl, by decide +kernel, by decide +kernel⟩
abbrev s_count_free : Stmt := topS 23
theorem sc_count_free : FnScope ["many", "times", "length"] ["many", "times", "length"] (defScope s_count_free) := ⟨rfl, rfl, rfl, by decide +kernel, rfl, by decide +kernel, by decide +kernel⟩
abbrev s_free_by_length : Stmt := topS 24
theorem sc_free_by_length : FnScope ["many", "times"] ["many", "times"] (defScope s_free_by_length) := ⟨rfl, rfl, rfl, by decide +kernel, rfl, by decide +kernel, by decide +kernel⟩
abbrev s_mean_length : Stmt := topS 25
theorem sc_mean_length : FnScope ["many", "times", "counts", "divisor", "top", "bottom", "length", "count"] ["many", "times"] (defScope s_mean_length) := ⟨rfl, rfl, rfl, by decide +kernel, rfl, by decide +kernel, by decide +kernel⟩
abbrev s_law_bag : Stmt := topS 27
theorem sc_law_bag : FnScope ["_law_cell"] ["_law_cell"] (defScope s_law_bag) := ⟨rfl, rfl, rfl, by decide +kernel, rfl, by decide +kernel, by decide +kernel⟩
abbrev s_law_draw : Stmt := topS 28
theorem sc_law_draw : FnScope ["_law_bag_here", "_law_most", "_law_mixed", "_law_digit"] ["_law_bag_here", "_law_most"] (defScope s_law_draw) := ⟨rfl, rfl, rfl, by decide +kernel, rfl, by decide +kernel, by decide +kernel⟩
abbrev s_law_error_names : Stmt := topS 29
theorem sc_law_error_names : FnScope ["_law_error", "_law_some", "_law_labels", "_law_k"] ["_law_error"] (defScope s_law_error_names) := ⟨rfl, rfl, rfl, by decide +kernel, rfl, by decide +kernel, by decide +kernel⟩
abbrev s_law_no_number : Stmt := topS 30
theorem sc_law_no_number : FnScope ["_law_bag_here", "_law_low", "_law_high", "_law_odd", "_law_fitting", "_law_one"] ["_law_bag_here", "_law_low", "_law_high"] (defScope s_law_no_number) := ⟨rfl, rfl, rfl, by decide +kernel, rfl, by decide +kernel, by decide +kernel⟩
abbrev s_law_is_fine : Stmt := topS 31
theorem sc_law_is_fine : FnScope ["_law_one", "_law_low", "_law_high"] ["_law_one", "_law_low", "_law_high"] (defScope s_law_is_fine) := ⟨rfl, rfl, rfl, by decide +kernel, rfl, by decide +kernel, by decide +kernel⟩
abbrev s_law_raised : Stmt := topS 32
theorem sc_law_raised : FnScope ["_law_which", "_law_given", "e"] ["_law_which", "_law_given"] (defScope s_law_raised) := ⟨rfl, rfl, rfl, by decide +kernel, rfl, by decide +kernel, by decide +kernel⟩
abbrev s_law : Stmt := topS 33
theorem sc_law : FnScope ["_law_script", "_law_k", "_law_cell", "_law_bag_here", "_law_turn", "_law_wide", "_law_given", "_law_bad", "_law_mark", "_law_due", "_law_kept", "_law_fault", "_law_some", "_law_which"] ["_law_script"] (defScope s_law) := ⟨rfl, rfl, rfl, by decide +kernel, rfl, by decide +kernel, by decide +kernel⟩
structure Txt (K : PySem.W.Frag) (mg : Str → Option Value) where
  C_BreadcrumbsError : Addr
  g_BreadcrumbsError : mg "BreadcrumbsError" = some (.ref C_BreadcrumbsError)
  k_BreadcrumbsError : PySem.W.keepIn K (.ref C_BreadcrumbsError) = true
  x_BreadcrumbsError : PySem.W.excIn K C_BreadcrumbsError [.type "ValueError", .type "Exception", .type "BaseException", .type "object"] "ValueError.__new__" = true
  e_BreadcrumbsError : ExcC K C_BreadcrumbsError
  t_BreadcrumbsError : PySem.W.typeIn K (.ref C_BreadcrumbsError) = some (.type "type")
  b_BreadcrumbsError : PySem.W.subIn K (.ref C_BreadcrumbsError) (.type "BaseException") = some true
  r_BreadcrumbsError : MroIs K C_BreadcrumbsError [C_BreadcrumbsError]
  C_EmptyHistoryError : Addr
  g_EmptyHistoryError : mg "EmptyHistoryError" = some (.ref C_EmptyHistoryError)
  k_EmptyHistoryError : PySem.W.keepIn K (.ref C_EmptyHistoryError) = true
  x_EmptyHistoryError : PySem.W.excIn K C_EmptyHistoryError [.type "ValueError", .type "Exception", .type "BaseException", .type "object"] "ValueError.__new__" = true
  e_EmptyHistoryError : ExcC K C_EmptyHistoryError
  t_EmptyHistoryError : PySem.W.typeIn K (.ref C_EmptyHistoryError) = some (.type "type")
  b_EmptyHistoryError : PySem.W.subIn K (.ref C_EmptyHistoryError) (.type "BaseException") = some true
  r_EmptyHistoryError : MroIs K C_EmptyHistoryError [C_EmptyHistoryError, C_BreadcrumbsError]
  C_InvalidEffectError : Addr
  g_InvalidEffectError : mg "InvalidEffectError" = some (.ref C_InvalidEffectError)
  k_InvalidEffectError : PySem.W.keepIn K (.ref C_InvalidEffectError) = true
  x_InvalidEffectError : PySem.W.excIn K C_InvalidEffectError [.type "ValueError", .type "Exception", .type "BaseException", .type "object"] "ValueError.__new__" = true
  e_InvalidEffectError : ExcC K C_InvalidEffectError
  t_InvalidEffectError : PySem.W.typeIn K (.ref C_InvalidEffectError) = some (.type "type")
  b_InvalidEffectError : PySem.W.subIn K (.ref C_InvalidEffectError) (.type "BaseException") = some true
  r_InvalidEffectError : MroIs K C_InvalidEffectError [C_InvalidEffectError, C_BreadcrumbsError]
  C_InvalidFormatError : Addr
  g_InvalidFormatError : mg "InvalidFormatError" = some (.ref C_InvalidFormatError)
  k_InvalidFormatError : PySem.W.keepIn K (.ref C_InvalidFormatError) = true
  x_InvalidFormatError : PySem.W.excIn K C_InvalidFormatError [.type "ValueError", .type "Exception", .type "BaseException", .type "object"] "ValueError.__new__" = true
  e_InvalidFormatError : ExcC K C_InvalidFormatError
  t_InvalidFormatError : PySem.W.typeIn K (.ref C_InvalidFormatError) = some (.type "type")
  b_InvalidFormatError : PySem.W.subIn K (.ref C_InvalidFormatError) (.type "BaseException") = some true
  r_InvalidFormatError : MroIs K C_InvalidFormatError [C_InvalidFormatError, C_BreadcrumbsError]
  C_InvalidLengthsError : Addr
  g_InvalidLengthsError : mg "InvalidLengthsError" = some (.ref C_InvalidLengthsError)
  k_InvalidLengthsError : PySem.W.keepIn K (.ref C_InvalidLengthsError) = true
  x_InvalidLengthsError : PySem.W.excIn K C_InvalidLengthsError [.type "ValueError", .type "Exception", .type "BaseException", .type "object"] "ValueError.__new__" = true
  e_InvalidLengthsError : ExcC K C_InvalidLengthsError
  t_InvalidLengthsError : PySem.W.typeIn K (.ref C_InvalidLengthsError) = some (.type "type")
  b_InvalidLengthsError : PySem.W.subIn K (.ref C_InvalidLengthsError) (.type "BaseException") = some true
  r_InvalidLengthsError : MroIs K C_InvalidLengthsError [C_InvalidLengthsError, C_BreadcrumbsError]
  C_InvalidNumberError : Addr
  g_InvalidNumberError : mg "InvalidNumberError" = some (.ref C_InvalidNumberError)
  k_InvalidNumberError : PySem.W.keepIn K (.ref C_InvalidNumberError) = true
  x_InvalidNumberError : PySem.W.excIn K C_InvalidNumberError [.type "ValueError", .type "Exception", .type "BaseException", .type "object"] "ValueError.__new__" = true
  e_InvalidNumberError : ExcC K C_InvalidNumberError
  t_InvalidNumberError : PySem.W.typeIn K (.ref C_InvalidNumberError) = some (.type "type")
  b_InvalidNumberError : PySem.W.subIn K (.ref C_InvalidNumberError) (.type "BaseException") = some true
  r_InvalidNumberError : MroIs K C_InvalidNumberError [C_InvalidNumberError, C_BreadcrumbsError]
  C_InvalidPageError : Addr
  g_InvalidPageError : mg "InvalidPageError" = some (.ref C_InvalidPageError)
  k_InvalidPageError : PySem.W.keepIn K (.ref C_InvalidPageError) = true
  x_InvalidPageError : PySem.W.excIn K C_InvalidPageError [.type "ValueError", .type "Exception", .type "BaseException", .type "object"] "ValueError.__new__" = true
  e_InvalidPageError : ExcC K C_InvalidPageError
  t_InvalidPageError : PySem.W.typeIn K (.ref C_InvalidPageError) = some (.type "type")
  b_InvalidPageError : PySem.W.subIn K (.ref C_InvalidPageError) (.type "BaseException") = some true
  r_InvalidPageError : MroIs K C_InvalidPageError [C_InvalidPageError, C_BreadcrumbsError]
  C_InvalidPagesError : Addr
  g_InvalidPagesError : mg "InvalidPagesError" = some (.ref C_InvalidPagesError)
  k_InvalidPagesError : PySem.W.keepIn K (.ref C_InvalidPagesError) = true
  x_InvalidPagesError : PySem.W.excIn K C_InvalidPagesError [.type "ValueError", .type "Exception", .type "BaseException", .type "object"] "ValueError.__new__" = true
  e_InvalidPagesError : ExcC K C_InvalidPagesError
  t_InvalidPagesError : PySem.W.typeIn K (.ref C_InvalidPagesError) = some (.type "type")
  b_InvalidPagesError : PySem.W.subIn K (.ref C_InvalidPagesError) (.type "BaseException") = some true
  r_InvalidPagesError : MroIs K C_InvalidPagesError [C_InvalidPagesError, C_BreadcrumbsError]
  C_InvalidSiteError : Addr
  g_InvalidSiteError : mg "InvalidSiteError" = some (.ref C_InvalidSiteError)
  k_InvalidSiteError : PySem.W.keepIn K (.ref C_InvalidSiteError) = true
  x_InvalidSiteError : PySem.W.excIn K C_InvalidSiteError [.type "ValueError", .type "Exception", .type "BaseException", .type "object"] "ValueError.__new__" = true
  e_InvalidSiteError : ExcC K C_InvalidSiteError
  t_InvalidSiteError : PySem.W.typeIn K (.ref C_InvalidSiteError) = some (.type "type")
  b_InvalidSiteError : PySem.W.subIn K (.ref C_InvalidSiteError) (.type "BaseException") = some true
  r_InvalidSiteError : MroIs K C_InvalidSiteError [C_InvalidSiteError, C_BreadcrumbsError]
  C_InvalidTrailError : Addr
  g_InvalidTrailError : mg "InvalidTrailError" = some (.ref C_InvalidTrailError)
  k_InvalidTrailError : PySem.W.keepIn K (.ref C_InvalidTrailError) = true
  x_InvalidTrailError : PySem.W.excIn K C_InvalidTrailError [.type "ValueError", .type "Exception", .type "BaseException", .type "object"] "ValueError.__new__" = true
  e_InvalidTrailError : ExcC K C_InvalidTrailError
  t_InvalidTrailError : PySem.W.typeIn K (.ref C_InvalidTrailError) = some (.type "type")
  b_InvalidTrailError : PySem.W.subIn K (.ref C_InvalidTrailError) (.type "BaseException") = some true
  r_InvalidTrailError : MroIs K C_InvalidTrailError [C_InvalidTrailError, C_BreadcrumbsError]
  C_InvalidVisitsError : Addr
  g_InvalidVisitsError : mg "InvalidVisitsError" = some (.ref C_InvalidVisitsError)
  k_InvalidVisitsError : PySem.W.keepIn K (.ref C_InvalidVisitsError) = true
  x_InvalidVisitsError : PySem.W.excIn K C_InvalidVisitsError [.type "ValueError", .type "Exception", .type "BaseException", .type "object"] "ValueError.__new__" = true
  e_InvalidVisitsError : ExcC K C_InvalidVisitsError
  t_InvalidVisitsError : PySem.W.typeIn K (.ref C_InvalidVisitsError) = some (.type "type")
  b_InvalidVisitsError : PySem.W.subIn K (.ref C_InvalidVisitsError) (.type "BaseException") = some true
  r_InvalidVisitsError : MroIs K C_InvalidVisitsError [C_InvalidVisitsError, C_BreadcrumbsError]
  nd : [C_BreadcrumbsError, C_EmptyHistoryError, C_InvalidEffectError, C_InvalidFormatError, C_InvalidLengthsError, C_InvalidNumberError, C_InvalidPageError, C_InvalidPagesError, C_InvalidSiteError, C_InvalidTrailError, C_InvalidVisitsError].Nodup
  f_is_integer : Addr
  fd_is_integer : FuncData
  F_is_integer : Fun K "is_integer" "is_integer" s_is_integer f_is_integer fd_is_integer
  m_is_integer : mg "is_integer" = some (.ref f_is_integer)
  b_is_integer : Binds K fd_is_integer ["value", "least", "most"] []
  f_check_number : Addr
  fd_check_number : FuncData
  F_check_number : Fun K "check_number" "check_number" s_check_number f_check_number fd_check_number
  m_check_number : mg "check_number" = some (.ref f_check_number)
  b_check_number : Binds K fd_check_number ["value", "least", "most"] []
  f_check_free : Addr
  fd_check_free : FuncData
  F_check_free : Fun K "check_free" "check_free" s_check_free f_check_free fd_check_free
  m_check_free : mg "check_free" = some (.ref f_check_free)
  b_check_free : Binds K fd_check_free ["many", "times"] []
  f_counts_after : Addr
  fd_counts_after : FuncData
  F_counts_after : Fun K "counts_after" "counts_after" s_counts_after f_counts_after fd_counts_after
  m_counts_after : mg "counts_after" = some (.ref f_counts_after)
  b_counts_after : Binds K fd_counts_after ["many", "counts"] []
  f_counts_of : Addr
  fd_counts_of : FuncData
  F_counts_of : Fun K "counts_of" "counts_of" s_counts_of f_counts_of fd_counts_of
  m_counts_of : mg "counts_of" = some (.ref f_counts_of)
  b_counts_of : Binds K fd_counts_of ["many", "times"] []
  f_all_by_length : Addr
  fd_all_by_length : FuncData
  F_all_by_length : Fun K "all_by_length" "all_by_length" s_all_by_length f_all_by_length fd_all_by_length
  m_all_by_length : mg "all_by_length" = some (.ref f_all_by_length)
  b_all_by_length : Binds K fd_all_by_length ["many", "times"] []
  f_common_divisor : Addr
  fd_common_divisor : FuncData
  F_common_divisor : Fun K "common_divisor" "common_divisor" s_common_divisor f_common_divisor fd_common_divisor
  m_common_divisor : mg "common_divisor" = some (.ref f_common_divisor)
  b_common_divisor : Binds K fd_common_divisor ["one", "other"] []
  f_count_free : Addr
  fd_count_free : FuncData
  F_count_free : Fun K "count_free" "count_free" s_count_free f_count_free fd_count_free
  m_count_free : mg "count_free" = some (.ref f_count_free)
  b_count_free : Binds K fd_count_free ["many", "times", "length"] []
  f_free_by_length : Addr
  fd_free_by_length : FuncData
  F_free_by_length : Fun K "free_by_length" "free_by_length" s_free_by_length f_free_by_length fd_free_by_length
  m_free_by_length : mg "free_by_length" = some (.ref f_free_by_length)
  b_free_by_length : Binds K fd_free_by_length ["many", "times"] []
  f_mean_length : Addr
  fd_mean_length : FuncData
  F_mean_length : Fun K "mean_length" "mean_length" s_mean_length f_mean_length fd_mean_length
  m_mean_length : mg "mean_length" = some (.ref f_mean_length)
  b_mean_length : Binds K fd_mean_length ["many", "times"] []
  f_law_bag : Addr
  fd_law_bag : FuncData
  F_law_bag : Fun K "_law_bag" "_law_bag" s_law_bag f_law_bag fd_law_bag
  m_law_bag : mg "_law_bag" = some (.ref f_law_bag)
  b_law_bag : Binds K fd_law_bag ["_law_cell"] []
  f_law_draw : Addr
  fd_law_draw : FuncData
  F_law_draw : Fun K "_law_draw" "_law_draw" s_law_draw f_law_draw fd_law_draw
  m_law_draw : mg "_law_draw" = some (.ref f_law_draw)
  b_law_draw : Binds K fd_law_draw ["_law_bag_here", "_law_most"] []
  f_law_error_names : Addr
  fd_law_error_names : FuncData
  F_law_error_names : Fun K "_law_error_names" "_law_error_names" s_law_error_names f_law_error_names fd_law_error_names
  m_law_error_names : mg "_law_error_names" = some (.ref f_law_error_names)
  b_law_error_names : Binds K fd_law_error_names ["_law_error"] []
  f_law_no_number : Addr
  fd_law_no_number : FuncData
  F_law_no_number : Fun K "_law_no_number" "_law_no_number" s_law_no_number f_law_no_number fd_law_no_number
  m_law_no_number : mg "_law_no_number" = some (.ref f_law_no_number)
  b_law_no_number : Binds K fd_law_no_number ["_law_bag_here", "_law_low", "_law_high"] []
  f_law_is_fine : Addr
  fd_law_is_fine : FuncData
  F_law_is_fine : Fun K "_law_is_fine" "_law_is_fine" s_law_is_fine f_law_is_fine fd_law_is_fine
  m_law_is_fine : mg "_law_is_fine" = some (.ref f_law_is_fine)
  b_law_is_fine : Binds K fd_law_is_fine ["_law_one", "_law_low", "_law_high"] []
  f_law_raised : Addr
  fd_law_raised : FuncData
  F_law_raised : Fun K "_law_raised" "_law_raised" s_law_raised f_law_raised fd_law_raised
  m_law_raised : mg "_law_raised" = some (.ref f_law_raised)
  b_law_raised : Binds K fd_law_raised ["_law_which", "_law_given"] []
  f_law : Addr
  fd_law : FuncData
  F_law : Fun K "law" "law" s_law f_law fd_law
  m_law : mg "law" = some (.ref f_law)
  b_law : Binds K fd_law ["_law_script"] []
  k_count_free_0_2_1_0 : KBinds K fd_count_free ["many", "times", "length"] ["length", "times", "many"] (kg .none 0 3 [2, 1, 0]) (kg .non 0 3 [2, 1, 0])
  k_free_by_length_0_1_0 : KBinds K fd_free_by_length ["many", "times"] ["times", "many"] (kg .none 0 2 [1, 0]) (kg .non 0 2 [1, 0])
  k_mean_length_0_1_0 : KBinds K fd_mean_length ["many", "times"] ["times", "many"] (kg .none 0 2 [1, 0]) (kg .non 0 2 [1, 0])
  t_MOST_PAGES : Tok
  c_MOST_PAGES : mg "MOST_PAGES" = some (.int 40 t_MOST_PAGES)
  t_MOST_VISITS : Tok
  c_MOST_VISITS : mg "MOST_VISITS" = some (.int 200 t_MOST_VISITS)
  n_ValueError : mg "ValueError" = none
  n_bool : mg "bool" = none
  n_enumerate : mg "enumerate" = none
  n_int : mg "int" = none
  n_isinstance : mg "isinstance" = none
  n_len : mg "len" = none
  n_max : mg "max" = none
  n_range : mg "range" = none
  n_repr : mg "repr" = none
  n_sum : mg "sum" = none
local macro_rules | `(tactic| walk_at "sx") => `(tactic| try simp only [x_callV, x_lcV, x_callKS, x_seq, x_next, x_brk, x_cnt, x_nev, x_ret, x_retN, x_drop, x_ifS, x_asg, x_gn, x_gsub, x_par, x_par3, x_aug, x_for, x_lc, x_rng1, x_rng2, x_rng3, x_ilist, x_itup, x_ienum, x_izip, x_izipA, x_istr, x_var, x_c, x_op, x_un, x_test, x_b, x_chain, x_and, x_or, x_not, x_andV, x_orV, x_notV, x_ife, x_nil, x_cons, x_lst, x_tup, x_cb, x_call, x_callK, x_callS, x_bm, x_bm0, x_tru, x_sl, x_nopart, x_part, x_revL, x_I0, x_I, x_U, x_ip, x_ipC, x_eqI, x_neI, x_eqB, x_neB, x_eqS, x_neS, x_isB, x_isNB, x_lrg, x_gall, x_lenSet, x_augS, x_sortSet, x_sortSetB, x_lenSetA, x_rg1, x_rg2,
  L2.start, List.map_cons, List.map_nil, List.length_cons, List.length_nil, Nat.reduceAdd, Nat.reduceSub, Nat.sub_self, Nat.zero_add, List.replicate, List.replicate_succ, List.replicate_zero, List.append_nil, List.cons_append, List.nil_append, List.set_cons_zero, List.set_cons_succ, List.getElem?_cons_zero, List.getElem?_cons_succ, Option.some.injEq, V.int.injEq, V.bl.injEq, V.ref.injEq, V.str.injEq, List.cons.injEq, and_true, true_and, exists_eq_left', exists_eq_left, exists_and_left, exists_eq, if_true, if_false, ite_true, ite_false, Bool.true_eq_false, Bool.false_eq_true, reduceIte, reduceCtorEq, Bool.not_true, Bool.not_false, decide_true, decide_false, decide_eq_true_eq, Bool.and_true, Bool.true_and, Bool.and_self, Bool.and_false, Bool.false_and, Bool.or_self, Bool.or_false, Bool.false_or, Bool.or_true, Bool.true_or, eq_self])
section
variable {P : Program} {w : World} {K : PySem.W.Frag} {mg : Str → Option Value} {base : Heap}
/-- a value with its type: a number, or what is none -/
inductive Kd (K : PySem.W.Frag) (H : Hp) : V → Prop
  | int (i : Int) : Kd K H (.int i)
  | bl (b : Bool) : Kd K H (.bl b)
  | odd {v : V} {t : Value} (h : TyX K H v t) (n : PySem.W.kitOne K t (.type "int") = some false) : Kd K H v
def inR (lo hi : Int) : V → Bool
  | .int i => decide (lo ≤ i) && decide (i ≤ hi)
  | _ => false
def spIsInt (K : PySem.W.Frag) : Sp := fun vs H Q _ => ∃ (v : V) (lo hi : Int), vs = [v, .int lo, .int hi] ∧ Kd K H v ∧ Q (.bl (inR lo hi v)) H
theorem ok_is_integer (T : Txt K mg) : FnOk P w K mg base CX0 1 T.f_is_integer T.fd_is_integer ["value", "least", "most"] (spIsInt K) := by
  refine T.F_is_integer.ok sc_is_integer (fun vs H Q E h => ?_) (fun cdv A outer s H vs Q E hr h => ?_)
  · obtain ⟨v, lo, hi, rfl, _⟩ := h
    rfl
  · obtain ⟨v, lo, hi, rfl, kd, k⟩ := h
    apply Exists.intro
    apply And.intro
    · apply pss_one
      exact (ps_ret (pe_and (pe_callB (k_isi (K := K) rfl) (by rfl) T.n_isinstance (by decide +kernel) (pa_cons (pv 0) (pa_cons (pe_bltn (v := .ty "int") (by rfl) T.n_int (by decide +kernel) rfl) pa_nil))) (pe_and (pe_not (pe_callB (k_isi (K := K) rfl) (by rfl) T.n_isinstance (by decide +kernel) (pa_cons (pv 0) (pa_cons (pe_bltn (v := .ty "bool") (by rfl) T.n_bool (by decide +kernel) rfl) pa_nil)))) (pe_one (pe_chain op_le op_le (pv 1) (pv 0) (pv 2))))))
    walk_at "sx"
    cases kd with
    | int i =>
      refine isi_int (b := true) (by decide +kernel) ?_
      walk_at "sx"
      refine isi_int (b := false) (by decide +kernel) ?_
      have k' : Q (.bl (decide (lo ≤ i) && decide (i ≤ hi))) H := k
      walk_at "sx"
      by_cases h1 : lo ≤ i
      · simpa [h1] using k'
      · simpa [h1] using k'
    | bl b =>
      refine ⟨.bl b, .ty "int", .type "bool", .type "int", true, rfl, .ty "int", .base (.bl b), kit_ty (by decide +kernel), ?_⟩
      walk_at "sx"
      refine ⟨.bl b, .ty "bool", .type "bool", .type "bool", true, rfl, .ty "bool", .base (.bl b), kit_ty (by decide +kernel), ?_⟩
      walk_at "sx"
      exact k
    | odd ty n =>
      refine ⟨v, .ty "int", _, .type "int", false, rfl, .ty "int", ty, n, ?_⟩
      have e : inR lo hi v = false := by
        cases v with
        | int i =>
          cases ty with
          | base h => cases h; exact absurd n (by rw [kit_ty (r := true) (by decide +kernel)]; simp)
        | _ => rfl
      rw [e] at k
      walk_at "sx"
      exact k
def spIsPage (K : PySem.W.Frag) : Sp := fun vs H Q _ => ∃ v, vs = [v] ∧ Kd K H v ∧ Q (.bl (inR 0 39 v)) H
theorem Kd.of {K : PySem.W.Frag} {H : Hp} {v : V} {t : Value} (h : TyX K H v t) (n : PySem.W.kitOne K t (.type "int") = some false) : Kd K H v := .odd h n
theorem kd_non {K : PySem.W.Frag} {H : Hp} : Kd K H .non := .odd (.base .non) (kit_ty (by decide +kernel))
theorem kd_str {K : PySem.W.Frag} {H : Hp} (x : Str) : Kd K H (.str x) := .odd (.base (.str x)) (kit_ty (by decide +kernel))
theorem kd_lst {K : PySem.W.Frag} {H : Hp} {a : Addr} {xs : List V} (e : H a = some (.lst xs)) : Kd K H (.ref a) := .odd (.base (.lst e)) (kit_ty (by decide +kernel))
theorem kd_tup {K : PySem.W.Frag} {H : Hp} {a : Addr} {xs : List V} (e : H a = some (.tup xs)) : Kd K H (.ref a) := .odd (.base (.tup e)) (kit_ty (by decide +kernel))
theorem kd_dic {K : PySem.W.Frag} {H : Hp} {a : Addr} {xs : List (Key × V)} (e : H a = some (.dK xs)) : Kd K H (.ref a) := .odd (.base (.dK e)) (kit_ty (by decide +kernel))
end
/-! ### free.py, what the numbers are -/
section
variable {P : Program} {w : World} {K : PySem.W.Frag} {mg : Str → Option Value} {base : Heap}
theorem same_of {H : Hp} {p : Addr} {o : HO} (h : H p = none) : Ex H (upd H p o) := Ex.new h
def cfs (m t : Nat) : List Int := (List.range (m + 1)).map fun l => cf m t l
theorem cfs_at {m t j : Nat} (h : j ≤ m) : ((cfs m t).map V.int)[j]? = some (.int (cf m t j)) := by
  unfold cfs
  rw [List.getElem?_map, List.getElem?_map, List.getElem?_range (by omega)]
  rfl
theorem cfs_len (m t : Nat) : (cfs m t).length = m + 1 := by
  unfold cfs
  rw [List.length_map, List.length_range]
/-- the new list while it is filled from behind: the last i places are done -/
def part (m t i : Nat) : List V := (List.range (m + 1)).map fun l => if m < l + i then V.int (cf m (t + 1) l) else V.int 0
theorem part_zero (m t : Nat) : part m t 0 = List.replicate (m + 1) (V.int 0) := by
  unfold part
  apply List.ext_getElem?
  intro j
  rw [List.getElem?_map]
  by_cases h : j < m + 1
  · rw [List.getElem?_range h, List.getElem?_replicate, if_pos h]
    show some (if m < j + 0 then V.int (cf m (t + 1) j) else V.int 0) = some (V.int 0)
    rw [if_neg (by omega)]
  · rw [List.getElem?_eq_none (by rw [List.length_range]; omega), List.getElem?_eq_none (by rw [List.length_replicate]; omega)]
    rfl
theorem part_set (m t i : Nat) (h : i < m) : (part m t i).set (m - i) (V.int (cf m (t + 1) (m - i))) = part m t (i + 1) := by
  unfold part
  apply List.ext_getElem?
  intro j
  by_cases hj : j < m + 1
  · by_cases e : m - i = j
    · rw [List.getElem?_set, if_pos e, if_pos (by rw [List.length_map, List.length_range]; omega), List.getElem?_map, List.getElem?_range hj]
      subst e
      show _ = some (if m < m - i + (i + 1) then V.int (cf m (t + 1) (m - i)) else V.int 0)
      rw [if_pos (by omega)]
    · rw [List.getElem?_set_ne e, List.getElem?_map, List.getElem?_map, List.getElem?_range hj]
      show some (if m < j + i then V.int (cf m (t + 1) j) else V.int 0) = some (if m < j + (i + 1) then V.int (cf m (t + 1) j) else V.int 0)
      by_cases h2 : m < j + i
      · rw [if_pos h2, if_pos (by omega)]
      · rw [if_neg h2, if_neg (by omega)]
  · rw [List.getElem?_eq_none (by rw [List.length_set, List.length_map, List.length_range]; omega), List.getElem?_eq_none (by rw [List.length_map, List.length_range]; omega)]
theorem part_last (m t : Nat) : part m t m = (cfs m (t + 1)).map V.int := by
  unfold part cfs
  rw [List.map_map]
  apply List.ext_getElem?
  intro j
  rw [List.getElem?_map, List.getElem?_map]
  by_cases h : j < m + 1
  · rw [List.getElem?_range h]
    show some (if m < j + m then V.int (cf m (t + 1) j) else V.int 0) = some (V.int (cf m (t + 1) j))
    by_cases h2 : m < j + m
    · rw [if_pos h2]
    · rw [if_neg h2]
      have e : j = 0 := by omega
      subst e
      rfl
  · rw [List.getElem?_eq_none (by rw [List.length_range]; omega)]
    rfl
theorem part_len (m t i : Nat) : (part m t i).length = m + 1 := by
  unfold part
  rw [List.length_map, List.length_range]
def spAfter (K : PySem.W.Frag) : Sp := fun vs H Q _ => ∃ (m t : Nat) (a : Addr), vs = [.int m, .ref a] ∧ SqL K H a ((cfs m t).map V.int) ∧ 1 ≤ m ∧ m ≤ 40 ∧ t ≤ 200 ∧
  ∀ p H', H p = none → Ex H H' → H' p = some (.lst ((cfs m (t + 1)).map V.int)) → Q (.ref p) H'
def JA (H : Hp) (m t : Nat) (a p : Addr) (i : Nat) (σ' : L2.St) (H' : Hp) : Prop := ∃ l5, σ' = [some (.int m), some (.ref a), some (.ref p), some (.int (if i = 0 then 0 else lg m t (m + 1 - i))), l5] ∧ Ex H H' ∧ H' p = some (.lst (part m t i))
theorem ok_counts_after (T : Txt K mg) : FnOk P w K mg base CX0 1 T.f_counts_after T.fd_counts_after ["many", "counts"] (spAfter K) := by
  refine T.F_counts_after.ok sc_counts_after (fun vs H Q E h => ?_) (fun cdv A outer s H vs Q E hr h => ?_)
  · obtain ⟨m, t, a, rfl, _⟩ := h
    rfl
  · obtain ⟨m, t, a, rfl, hA, h1, h2, h3, k⟩ := h
    apply Exists.intro
    apply And.intro
    · apply pss_cons
      · exact (ps_set (i := 2) sc_counts_after.nd rfl (.inl rfl) (pe_op op_rep (pe_lst (pa_cons pe_int pa_nil)) (pe_op op_add (pv 0) pe_int)))
      apply pss_cons
      · exact (ps_set (i := 3) sc_counts_after.nd rfl (.inl rfl) pe_int)
      apply pss_cons
      · apply ps_for PassesOwn.never rfl
        · exact (pi_range3 (by rfl) T.n_range (pa_cons (pv 0) (pa_cons pe_int (pa_cons (pe_un un_neg pe_int) pa_nil))))
        · exact (pg_name (i := 4) sc_counts_after.nd rfl (.inl rfl))
        · apply pss_cons
          · exact (ps_set (i := 3) sc_counts_after.nd rfl (.inl rfl) (pe_op op_add (pe_ix (k_ix_list (K := K) rfl) (pv 1) (pv 4) (fun _ _ => rfl)) (pe_op op_mulX (pe_op op_sub (pv 0) (pv 4)) (pv 3))))
          apply pss_one
          exact (ps_asg (pe_op op_add (pe_ix (k_ix_list (K := K) rfl) (pv 1) (pe_op op_sub (pv 4) pe_int) (fun _ _ => rfl)) (pv 3)) (pg_sub (pv 2) (pv 4) set_list))
      apply pss_one
      exact (ps_ret (pv 2))
    walk_at "sx"
    refine ⟨sz_ok (by omega), fun z nz => ?_⟩
    refine repL upd_same (by omega) (by omega) (sz_ok (by simp; omega)) fun p np => ?_
    walk_at "sx"
    refine ⟨_, _, _, ⟨rfl, rfl, rfl⟩, _, RgC.neg (by omega) (by omega) (by omega) (by omega), ?_⟩
    have e1 : ((m : Int) - 0).toNat = m := by omega
    rw [e1]
    have e2 : ((m : Int) + 1).toNat = m + 1 := by omega
    have s1 : Ex H (upd H z (.lst [V.int 0])) := Ex.new nz
    have hp : H p = none := fresh_back s1 np
    refine lg_rngC (JA H m t a p) ⟨none, rfl, s1.trans (Ex.new np), ?_⟩ (fun i σ' H' hi hP => ?_) (fun σ' H' hP => ?_)
    · rw [upd_same, e2, rep_one, part_zero]
    · obtain ⟨l5, rfl, eH, hL⟩ := hP
      have hA' : SqL K H' a ((cfs m t).map V.int) := ex_l eH hA
      have ej : (m : Int) + (i : Nat) * (-1) = ((m - i : Nat) : Int) := by omega
      walk_at "sx"
      rw [ej]
      refine ixL hA' (atI_n rfl (cfs_at (by omega))) ?_
      walk_at "sx"
      have hlong : cf m t (m - i) + ((m : Int) - ((m - i : Nat) : Int)) * (if i = 0 then 0 else lg m t (m + 1 - i)) = lg m t (m - i) := by
        have := lg_step m t (m - i)
        by_cases h0 : i = 0
        · subst h0
          rw [if_pos rfl]
          have e3 : (m : Int) - ((m - 0 : Nat) : Int) = 0 := by omega
          rw [e3] at this ⊢
          omega
        · rw [if_neg h0]
          have e3 : m + 1 - i = m - i + 1 := by omega
          rw [e3]
          exact this
      refine ⟨.inl (.inl ⟨by omega, by omega⟩), ?_⟩
      rw [hlong]
      refine ixL hA' (atI_n (j := m - i - 1) (by omega) (cfs_at (by omega))) ?_
      walk_at "sx"
      refine setL hL (ixN_n rfl (by rw [part_len]; omega)) ?_
      have hst := cf_step m t (m - i) (by omega)
      rw [hst, part_set m t i hi]
      refine ⟨some (V.int ((m - i : Nat) : Int)), ?_, eH.mut hp, upd_same⟩
      have e4 : m + 1 - (i + 1) = m - i := by omega
      rw [if_neg (by omega), e4]
    · obtain ⟨l5, rfl, eH, hL⟩ := hP
      walk_at "sx"
      rw [part_last] at hL
      exact k p H' hp eH hL

theorem cfs_zero (m : Nat) : (cfs m 0).map V.int = V.int 1 :: List.replicate m (V.int 0) := by
  apply List.ext_getElem?
  intro j
  by_cases h : j < m + 1
  · rw [cfs_at (by omega)]
    cases j with
    | zero => rfl
    | succ j =>
      rw [List.getElem?_cons_succ, List.getElem?_replicate, if_pos (by omega)]
      unfold cf
      rw [if_neg (by omega), if_pos (by omega)]
  · rw [List.getElem?_eq_none (by rw [List.length_map, cfs_len]; omega), List.getElem?_eq_none (by rw [List.length_cons, List.length_replicate]; omega)]
def spCounts : Sp := fun vs H Q _ => ∃ (m t : Nat), vs = [.int m, .int t] ∧ 1 ≤ m ∧ m ≤ 40 ∧ t ≤ 201 ∧
  ∀ p H', H p = none → Ex H H' → H' p = some (.lst ((cfs m t).map V.int)) → Q (.ref p) H'
def JC (H : Hp) (m t : Nat) (i : Nat) (σ' : L2.St) (H' : Hp) : Prop := ∃ p l3, σ' = [some (.int m), some (.int t), some (.ref p), l3] ∧ Ex H H' ∧ H p = none ∧ H' p = some (.lst ((cfs m i).map V.int))
theorem ok_counts_of (T : Txt K mg) : FnOk P w K mg base CX0 2 T.f_counts_of T.fd_counts_of ["many", "times"] spCounts := by
  refine T.F_counts_of.ok sc_counts_of (fun vs H Q E h => ?_) (fun cdv A outer s H vs Q E hr h => ?_)
  · obtain ⟨m, t, rfl, _⟩ := h
    rfl
  · obtain ⟨m, t, rfl, h1, h2, h3, k⟩ := h
    apply Exists.intro
    apply And.intro
    · apply pss_cons
      · exact (ps_set (i := 2) sc_counts_of.nd rfl (.inl rfl) (pe_op op_cat (pe_lst (pa_cons pe_int pa_nil)) (pe_op op_rep (pe_lst (pa_cons pe_int pa_nil)) (pv 0))))
      apply pss_cons
      · apply ps_for PassesOwn.never rfl
        · exact (pi_range1 (by rfl) T.n_range (pa_cons (pv 1) pa_nil))
        · exact (pg_name (i := 3) sc_counts_of.nd rfl (.inl rfl))
        · apply pss_one
          exact (ps_set (i := 2) sc_counts_of.nd rfl (.inl rfl) (pe_call (ok_counts_after T) (hr.mono (by decide)) (by rfl) T.m_counts_after T.F_counts_after.kp T.b_counts_after .nil pass0 (pa_cons (pv 0) (pa_cons (pv 2) pa_nil))))
      apply pss_one
      exact (ps_ret (pv 2))
    walk_at "sx"
    refine ⟨sz_ok (by omega), fun z nz => ⟨sz_ok (by omega), fun y ny => ?_⟩⟩
    have s1 : Ex H (upd H z (.lst [V.int 1])) := Ex.new nz
    have s2 := s1.trans (Ex.new ny (o := .lst [V.int 0]))
    refine repL upd_same (by omega) (by omega) (sz_ok (by simp; omega)) fun x nx => ?_
    have s3 := s2.trans (Ex.new nx (o := .lst (List.replicate (m : Int).toNat [V.int 0]).flatten))
    have nzy : z ≠ y := ne_of_none upd_same ny
    have nzx : z ≠ x := ne_of_none (by rw [upd_ne nzy]; exact upd_same) nx
    refine catL (by rw [upd_ne nzx, upd_ne nzy, upd_same]) upd_same (sz_ok (by rw [rep_one]; simp; omega)) fun p np => ?_
    have s4 := s3.trans (Ex.new np (o := .lst ([V.int 1] ++ (List.replicate (m : Int).toNat [V.int 0]).flatten)))
    walk_at "sx"
    refine ⟨by omega, by omega, ?_⟩
    refine lg_rng (JC H m t) ⟨p, none, rfl, s4, fresh_back s3 np, ?_⟩ (fun i σ' H' hi hP => ?_) (fun σ' H' hP => ?_)
    · rw [upd_same, rep_one, cfs_zero]
      rfl
    · obtain ⟨p, l3, rfl, eH, hp, hL⟩ := hP
      walk_at "sx"
      refine ⟨m, i, p, rfl, .inl (.inl hL), h1, h2, by omega, fun q H2 nq e2 hq => ?_⟩
      walk_at "sx"
      exact ⟨q, _, rfl, eH.trans e2, fresh_back eH nq, hq⟩
    · obtain ⟨p, l3, rfl, eH, hp, hL⟩ := hP
      walk_at "sx"
      exact k p H' hp eH hL
def fls (m t : Nat) : List Int := (List.range (m + 1)).map fun l => fl m t l
theorem fls_at {m t j : Nat} (h : j ≤ m) : ((fls m t).map V.int)[j]? = some (.int (fl m t j)) := by
  unfold fls
  rw [List.getElem?_map, List.getElem?_map, List.getElem?_range (by omega)]
  rfl
theorem fls_len (m t : Nat) : (fls m t).length = m + 1 := by
  unfold fls
  rw [List.length_map, List.length_range]
theorem sum_range (f : Nat → Int) : ∀ n, ((List.range n).map f).sum = sumTo f n
  | 0 => rfl
  | n + 1 => by
    rw [List.range_succ, List.map_append, List.sum_append, sum_range f n]
    simp [FM.sumTo]
theorem fls_sum (m t : Nat) : (fls m t).sum = sumTo (fl m t) (m + 1) := sum_range _ _
def spAll : Sp := fun vs H Q _ => ∃ (m t : Nat), vs = [.int m, .int t] ∧ 1 ≤ m ∧ m ≤ 40 ∧ t ≤ 201 ∧
  ∀ p H', H p = none → Ex H H' → H' p = some (.lst ((fls m t).map V.int)) → Q (.ref p) H'
def JL (H : Hp) (m t : Nat) (c p : Addr) (i : Nat) (σ' : L2.St) (H' : Hp) : Prop := ∃ l4 l5, σ' = [some (.int m), some (.int t), some (.ref p), some (.int (pf m i)), l4, l5] ∧ Ex H H' ∧ H' c = some (.lst ((cfs m t).map V.int)) ∧ H' p = some (.lst (((fls m t).map V.int).take i))
theorem ok_all_by_length (T : Txt K mg) : FnOk P w K mg base CX0 3 T.f_all_by_length T.fd_all_by_length ["many", "times"] spAll := by
  refine T.F_all_by_length.ok sc_all_by_length (fun vs H Q E h => ?_) (fun cdv A outer s H vs Q E hr h => ?_)
  · obtain ⟨m, t, rfl, _⟩ := h
    rfl
  · obtain ⟨m, t, rfl, h1, h2, h3, k⟩ := h
    apply Exists.intro
    apply And.intro
    · apply pss_cons
      · exact (ps_par (i := 2) (j := 3) (by rfl) sc_all_by_length.nd rfl rfl (by decide) rfl rfl (pa_cons (pe_lst pa_nil) (pa_cons pe_int pa_nil)) (by rfl))
      apply pss_cons
      · apply ps_for PassesOwn.never rfl
        · exact (k_pi_enum (K := K) rfl (by rfl) T.n_enumerate (pa_cons (pe_call (ok_counts_of T) (hr.mono (by decide)) (by rfl) T.m_counts_of T.F_counts_of.kp T.b_counts_of .nil pass0 (pa_cons (pv 0) (pa_cons (pv 1) pa_nil))) pa_nil))
        · exact (k_tup (K := K) (n := 2) rfl rfl (pgs_cons (pg_name (i := 4) sc_all_by_length.nd rfl (.inl rfl)) (pgs_cons (pg_name (i := 5) sc_all_by_length.nd rfl (.inl rfl)) pgs_nil)))
        · apply pss_cons
          · exact (ps_expr (k_bm (K := K) rfl (pe_bm PySem.F.plainAttrs_list PySem.F.slot_list_append PySem.F.type_list_append mt_append (pv 2) (pa_cons (pe_op op_mulX (pv 3) (pv 5)) pa_nil))))
          apply pss_one
          exact (ps_aug (i := 3) sc_all_by_length.nd rfl (.inl rfl) (pe_op op_sub (pv 0) (pv 4)) ip_mulX)
      apply pss_one
      exact (ps_ret (pv 2))
    walk_at "sx"
    refine ⟨sz_ok (by omega), fun p np => ?_⟩
    have s1 : Ex H (upd H p (.lst [])) := Ex.new np
    walk_at "sx"
    refine ⟨_, _, ⟨rfl, rfl⟩, ?_⟩
    refine ⟨m, t, rfl, h1, h2, h3, fun c H1 nc e1 hc => ?_⟩
    walk_at "sx"
    refine ⟨_, .inl (.inl hc), ?_⟩
    have npc : p ≠ c := ne_of_none upd_same nc
    refine lg_enum (xs := (cfs m t).map V.int) (JL H m t c p)
      ⟨none, none, rfl, s1.trans e1, hc, e1 _ _ upd_same⟩ (fun i σ' H' hi hP => by obtain ⟨_, _, _, _, h, _⟩ := hP; exact .inl (.inl h)) (fun i x σ' H' T hx hP nT => ?_) (fun σ' H' hP => ?_)
    · obtain ⟨l4, l5, rfl, eH, hc', hp'⟩ := hP
      have hi' : i < m + 1 := by
        have := (List.getElem?_eq_some_iff.mp hx).1
        rw [List.length_map, cfs_len] at this
        exact this
      have ex : x = .int (cf m t i) := Option.some.inj (hx.symm.trans (cfs_at (by omega)))
      subst ex
      refine g_two upd_same ?_
      walk_at "sx"
      have npT : p ≠ T := ne_of_none hp' nT
      have hp2 : (upd H' T (.tup [V.int i, V.int (cf m t i)])) p = some (.lst (((fls m t).map V.int).take i)) := by rw [upd_ne npT]; exact hp'
      refine ⟨tyL hp2, .inr (wide_mul (pf_lt m i h2 (by omega)) (cf_lt m t i h1 h2 h3 (by omega)) (by omega) (by omega) (by omega)), ?_⟩
      refine appL hp2 (BC.sz_lt (by rw [List.length_take]; omega)) ?_
      walk_at "sx"
      refine ⟨.inl (.inr ⟨by omega, by omega⟩), ?_⟩
      have ncT : c ≠ T := ne_of_none hc' nT
      refine ⟨_, _, rfl, (eH.trans (Ex.new nT)).mut np, by rw [upd_ne npc.symm, upd_ne ncT]; exact hc', ?_⟩
      rw [upd_same, take_succ (fls_at (m := m) (t := t) (j := i) (by omega))]
      rfl
    · obtain ⟨l4, l5, rfl, eH, hc', hp'⟩ := hP
      walk_at "sx"
      rw [List.take_of_length_le (by rw [List.length_map, List.length_map, fls_len, cfs_len]; omega)] at hp'
      exact k p H' np eH hp'
def spGcd : Sp := fun vs H Q _ => ∃ (a b : Nat), vs = [.int a, .int b] ∧ ∀ H', Ex H H' → Q (.int (Nat.gcd a b : Nat)) H'
def JG (H : Hp) (g : Nat) (n : Nat) (σ' : L2.St) (H' : Hp) : Prop := ∃ a : Nat, σ' = [some (.int a), some (.int n)] ∧ Nat.gcd a n = g ∧ Ex H H'
theorem ok_common_divisor (T : Txt K mg) : FnOk P w K mg base CX0 1 T.f_common_divisor T.fd_common_divisor ["one", "other"] spGcd := by
  refine T.F_common_divisor.ok sc_common_divisor (fun vs H Q E h => ?_) (fun cdv A outer s H vs Q E hr h => ?_)
  · obtain ⟨a, b, rfl, _⟩ := h
    rfl
  · obtain ⟨a, b, rfl, k⟩ := h
    apply Exists.intro
    apply And.intro
    · apply pss_cons
      · apply ps_while PassesOwn.never
        · exact (pt_cmpR op_ne (pv 1) pe_int (by rfl))
        · apply pss_one
          exact (ps_par (i := 0) (j := 1) (by rfl) sc_common_divisor.nd rfl rfl (by decide) rfl rfl (pa_cons (pv 1) (pa_cons (pe_op op_modX (pv 0) (pv 1)) pa_nil)) (by rfl))
      apply pss_one
      exact (ps_ret (pv 0))
    walk_at "sx"
    refine ⟨JG H (Nat.gcd a b), ⟨b, a, rfl, rfl, Ex.refl H⟩, fun n σ' H' hP => ?_⟩
    obtain ⟨a', rfl, hg, eH⟩ := hP
    walk_at "sx"
    by_cases h0 : n = 0
    · subst h0
      have h1 : ((0 : Nat) : Int) = 0 := rfl
      simp only [h1]
      walk_at "sx"
      rw [Nat.gcd_zero_right] at hg
      rw [hg]
      exact k H' eH
    · have h1 : ¬ ((n : Int) = 0) := by omega
      simp only [h1, decide_false, Bool.not_false, if_true]
      refine ⟨fun σ' H' => ∃ n', n' < n ∧ JG H (Nat.gcd a b) n' σ' H', fun σ' H' h => h, ?_⟩
      walk_at "sx"
      refine ⟨by omega, _, _, ⟨rfl, rfl⟩, a' % n, Nat.mod_lt _ (by omega), n, ?_, ?_, eH⟩
      · rw [Int.natCast_emod]
      · rw [← hg, Nat.gcd_comm a' n, Nat.gcd_rec n a', Nat.gcd_comm]
end
section
variable {P : Program} {w : World} {K : PySem.W.Frag} {mg : Str → Option Value} {base : Heap}
def spBag : Sp := fun vs H Q _ => ∃ n : Int, vs = [.int n] ∧ ∀ p H', H p = none → Ex H H' → BagAt H' p 0 → Q (.ref p) H'
theorem ok_law_bag (T : Txt K mg) : FnOk P w K mg base CX0 1 T.f_law_bag T.fd_law_bag ["_law_cell"] spBag := by
  refine T.F_law_bag.ok sc_law_bag (fun vs H Q E h => ?_) (fun cdv A outer s H vs Q E hr h => ?_)
  · obtain ⟨n, rfl, _⟩ := h
    rfl
  · obtain ⟨n, rfl, k⟩ := h
    apply Exists.intro
    apply And.intro
    · apply pss_one
      exact (ps_ret (pe_lst (pa_cons (pe_callB (call_max2 rfl) (by rfl) T.n_max (by decide +kernel) (pa_cons pe_int (pa_cons (pe_op op_sub (pv 0) (pe_op op_powX pe_int pe_int)) pa_nil))) (pa_cons (pe_op op_modX (pv 0) (pe_op op_add (pe_op op_powX pe_int pe_int) pe_int)) (pa_cons pe_int pa_nil)))))
    walk_at "sx"
    have t18 : Int.toNat 18 = 18 := rfl
    have t37 : Int.toNat 37 = 37 := rfl
    rw [t37]
    refine ⟨⟨by decide, by decide, by decide⟩, _, _, ⟨rfl, rfl⟩, ⟨by decide, by decide, by decide⟩, by decide, sz_ok (by omega), fun p np => ?_⟩
    refine k p _ np (Ex.new np) ⟨_, _, _, upd_same, Int.emod_nonneg _ (by decide), Int.lt_trans (Int.emod_lt_of_pos _ (by decide)) (by decide), by omega, by omega⟩
theorem ok_law_draw (T : Txt K mg) : FnOk P w K mg base CX0 1 T.f_law_draw T.fd_law_draw ["_law_bag_here", "_law_most"] spDraw := by
  refine T.F_law_draw.ok sc_law_draw (fun vs H Q E h => ?_) (fun cdv A outer s H vs Q E hr h => ?_)
  · obtain ⟨b, m, c, rfl, _⟩ := h
    rfl
  · obtain ⟨b, m, c, rfl, h1, h2, hB, hc, k⟩ := h
    obtain ⟨x0, x1, x2, hb, h3, h4, h5, h6⟩ := hB
    apply Exists.intro
    apply And.intro
    · apply pss_cons
      · apply ps_if
        · exact (pt_cmpR op_gt (pe_ix (k_ix_list (K := K) rfl) (pv 0) pe_int (fun _ _ => rfl)) pe_int (by rfl))
        · apply pss_cons
          · exact (ps_set (i := 3) sc_law_draw.nd rfl (.inl rfl) (pe_op op_modX (pe_ix (k_ix_list (K := K) rfl) (pv 0) pe_int (fun _ _ => rfl)) (pv 1)))
          apply pss_cons
          · exact (ps_asg (pe_op op_fdivX (pe_ix (k_ix_list (K := K) rfl) (pv 0) pe_int (fun _ _ => rfl)) (pv 1)) (pg_sub (pv 0) pe_int set_list))
          apply pss_one
          exact (ps_ret (pv 3))
        · exact pss_nil
      apply pss_cons
      · exact (ps_asg (pe_op op_add (pe_ix (k_ix_list (K := K) rfl) (pv 0) pe_int (fun _ _ => rfl)) pe_int) (pg_sub (pv 0) pe_int set_list))
      apply pss_cons
      · exact (ps_set (i := 2) sc_law_draw.nd rfl (.inl rfl) (pe_op op_modX (pe_op op_powX (pe_op op_add (pe_ix (k_ix_list (K := K) rfl) (pv 0) pe_int (fun _ _ => rfl)) (pe_op op_mulX pe_int (pe_ix (k_ix_list (K := K) rfl) (pv 0) pe_int (fun _ _ => rfl)))) pe_int) (pe_op op_add (pe_op op_powX pe_int pe_int) pe_int)))
      apply pss_cons
      · exact (ps_set (i := 2) sc_law_draw.nd rfl (.inl rfl) (pe_op op_modX (pe_op op_powX (pe_op op_add (pv 2) (pe_op op_mulX pe_int (pe_ix (k_ix_list (K := K) rfl) (pv 0) pe_int (fun _ _ => rfl)))) pe_int) (pe_op op_add (pe_op op_powX pe_int pe_int) pe_int)))
      apply pss_one
      exact (ps_ret (pe_op op_modX (pe_op op_fdivX (pv 2) pe_int) (pv 1)))
    walk_at "sx"
    refine ixL (.inl (.inl hb)) (atI_n (j := 0) rfl rfl) ?_
    walk_at "sx"
    have hdm : ∀ i, CDivW i m := fun i => wide_div (b := 2001) h1 (big_lt h1 h2) (by omega) (by omega)
    by_cases h0 : 0 < x0
    · simp only [h0, if_true]
      refine ixL (.inl (.inl hb)) (atI_n (j := 0) rfl rfl) ?_
      walk_at "sx"
      refine ⟨h1, ?_⟩
      refine ixL (.inl (.inl hb)) (atI_n (j := 0) rfl rfl) ?_
      walk_at "sx"
      refine ⟨hdm _, ?_⟩
      refine setL hb (ixN_n (j := 0) rfl (by simp)) ?_
      exact k _ _ (Int.emod_nonneg _ (by omega)) (Int.emod_lt_of_pos _ h1) Fx.put ⟨_, _, _, upd_same, h3, h4, h5, by omega⟩
    · simp only [h0, if_false]
      refine ixL (.inl (.inl hb)) (atI_n (j := 2) rfl rfl) ?_
      walk_at "sx"
      refine setL hb (ixN_n (j := 2) rfl (by simp)) ?_
      have hb2 : (upd H b (.lst [V.int x0, V.int x1, V.int (x2 + 1)])) b = some (.lst [V.int x0, V.int x1, V.int (x2 + 1)]) := upd_same
      refine ixL (.inl (.inl hb2)) (atI_n (j := 1) rfl rfl) ?_
      walk_at "sx"
      refine ixL (.inl (.inl hb2)) (atI_n (j := 2) rfl rfl) ?_
      walk_at "sx"
      have c1 : CMulX 236887691 (x2 + 1) := .inl (.inl ⟨by decide, by decide⟩)
      have c2 : CMulX 32452867 (x2 + 1) := .inl (.inl ⟨by decide, by decide⟩)
      have c3 : CPowX (x1 + 236887691 * (x2 + 1)) 3 := ⟨by decide, by decide, Nat.lt_of_lt_of_le (log2_small (k := 300) (by decide) (by omega)) (by decide)⟩
      have t38 : Int.toNat 38 = 38 := rfl
      have t36 : Int.toNat 36 = 36 := rfl
      rw [t38, t36]
      refine ⟨c1, c3, ⟨by decide, by decide, by decide⟩, by decide, ?_⟩
      refine ixL (.inl (.inl hb2)) (atI_n (j := 2) rfl rfl) ?_
      walk_at "sx"
      generalize hz : (x1 + 236887691 * (x2 + 1)) ^ Int.toNat 3 % (10 ^ 38 + 133) = z
      have hz0 : 0 ≤ z := by rw [← hz]; exact Int.emod_nonneg _ (by decide)
      have hz1 : z < 10 ^ 38 + 133 := by rw [← hz]; exact Int.emod_lt_of_pos _ (by decide)
      have c4 : CPowX (z + 32452867 * (x2 + 1)) 5 := ⟨by decide, by decide, Nat.lt_of_lt_of_le (log2_small (k := 300) (by decide) (by omega)) (by decide)⟩
      refine ⟨c2, c4, ⟨by decide, by decide, by decide⟩, by decide, ⟨by decide, by decide⟩, h1, ?_⟩
      exact k _ _ (Int.emod_nonneg _ (by omega)) (Int.emod_lt_of_pos _ h1) Fx.put ⟨_, _, _, hb2, h3, h4, by omega, by omega⟩
end
end LW

set_option Elab.async false
set_option linter.all false
set_option maxRecDepth 100000
set_option maxHeartbeats 4000000
namespace LW
open PySem PySem.Spec PyProof.Rows L2 BC Evl TR
open FM
local macro_rules | `(tactic| walk_at "sx") => `(tactic| try simp only [x_callV, x_lcV, x_callKS, x_seq, x_next, x_brk, x_cnt, x_nev, x_ret, x_retN, x_drop, x_ifS, x_asg, x_gn, x_gsub, x_par, x_par3, x_aug, x_for, x_lc, x_rng1, x_rng2, x_rng3, x_ilist, x_itup, x_ienum, x_izip, x_izipA, x_istr, x_var, x_c, x_op, x_un, x_test, x_b, x_chain, x_and, x_or, x_not, x_andV, x_orV, x_notV, x_ife, x_nil, x_cons, x_lst, x_tup, x_cb, x_call, x_callK, x_callS, x_bm, x_bm0, x_tru, x_sl, x_nopart, x_part, x_revL, x_I0, x_I, x_U, x_ip, x_ipC, x_eqI, x_neI, x_eqB, x_neB, x_eqS, x_neS, x_isB, x_isNB, x_lrg, x_gall, x_lenSet, x_augS, x_sortSet, x_sortSetB, x_lenSetA, x_rg1, x_rg2,
  L2.start, List.map_cons, List.map_nil, List.length_cons, List.length_nil, Nat.reduceAdd, Nat.reduceSub, Nat.sub_self, Nat.zero_add, List.replicate, List.replicate_succ, List.replicate_zero, List.append_nil, List.cons_append, List.nil_append, List.set_cons_zero, List.set_cons_succ, List.getElem?_cons_zero, List.getElem?_cons_succ, Option.some.injEq, V.int.injEq, V.bl.injEq, V.ref.injEq, V.str.injEq, List.cons.injEq, and_true, true_and, exists_eq_left', exists_eq_left, exists_and_left, exists_eq, if_true, if_false, ite_true, ite_false, Bool.true_eq_false, Bool.false_eq_true, reduceIte, reduceCtorEq, Bool.not_true, Bool.not_false, decide_true, decide_false, decide_eq_true_eq, Bool.and_true, Bool.true_and, Bool.and_self, Bool.and_false, Bool.false_and, Bool.or_self, Bool.or_false, Bool.false_or, Bool.or_true, Bool.true_or, eq_self])
/-! ### free.py, with errors -/
section
variable {P : Program} {w : World} {K : PySem.W.Frag} {mg : Str → Option Value} {base : Heap}
theorem inR_int {lo hi : Int} {v : V} (h : inR lo hi v = true) : ∃ i, v = .int i ∧ lo ≤ i ∧ i ≤ hi := by
  cases v with
  | int i =>
    have h' : (decide (lo ≤ i) && decide (i ≤ hi)) = true := h
    rw [Bool.and_eq_true, decide_eq_true_eq, decide_eq_true_eq] at h'
    exact ⟨i, rfl, h'.1, h'.2⟩
  | _ => cases h
def spCkN (K : PySem.W.Frag) (C : Addr) : Sp := fun vs H Q E => ∃ (v : V) (lo hi : Int), vs = [v, .int lo, .int hi] ∧ Kd K H v ∧ (inR lo hi v = true → Q .non H) ∧ (inR lo hi v = false → E (.ref C) none H)
theorem ok_check_number (T : Txt K mg) : FnOk P w K mg base (L2N.CX P w) 2 T.f_check_number T.fd_check_number ["value", "least", "most"] (spCkN K T.C_InvalidNumberError) := by
  refine okXN T.F_check_number sc_check_number (fun vs H Q E h => ?_) (fun cdv A outer s H vs Q E hr h => ?_)
  · obtain ⟨v, lo, hi, rfl, _⟩ := h
    rfl
  · obtain ⟨v, lo, hi, rfl, kd, k1, k2⟩ := h
    apply Exists.intro
    apply And.intro
    · apply pss_one
      apply ps_if
      · exact (pt_not (pt_val (pe_call (ok_is_integer T) (hr.mono (by decide)) (by rfl) T.m_is_integer T.F_is_integer.kp T.b_is_integer .nil pass0 (pa_cons (pv 0) (pa_cons (pv 1) (pa_cons (pv 2) pa_nil))))))
      · apply pss_one
        exact (L2N.ps_raise rfl (L2N.takes_of rfl rfl rfl rfl) (L2N.pmk_own PySem.F.excBase_ValueError T.x_InvalidNumberError T.g_InvalidNumberError T.k_InvalidNumberError (raises_own T.b_InvalidNumberError T.t_InvalidNumberError) (by rfl)))
      · exact pss_nil
    walk_at "sx"
    refine ⟨v, lo, hi, rfl, kd, ?_⟩
    cases c : inR lo hi v with
    | true =>
      walk_at "sx"
      exact k1 c
    | false =>
      walk_at "sx"
      exact k2 c
def okF (v0 v1 : V) : Bool := inR 1 40 v0 && inR 0 200 v1
theorem okF_int {v0 v1 : V} (h : okF v0 v1 = true) : ∃ m t : Nat, v0 = .int m ∧ v1 = .int t ∧ 1 ≤ m ∧ m ≤ 40 ∧ t ≤ 200 := by
  unfold okF at h
  rw [Bool.and_eq_true] at h
  obtain ⟨i, rfl, i1, i2⟩ := inR_int h.1
  obtain ⟨j, rfl, j1, j2⟩ := inR_int h.2
  exact ⟨i.toNat, j.toNat, by rw [Int.toNat_of_nonneg (by omega)], by rw [Int.toNat_of_nonneg (by omega)], by omega, by omega, by omega⟩
def spCkF (K : PySem.W.Frag) (C : Addr) : Sp := fun vs H Q E => ∃ (v0 v1 : V), vs = [v0, v1] ∧ Kd K H v0 ∧ Kd K H v1 ∧ (okF v0 v1 = true → Q .non H) ∧ (okF v0 v1 = false → E (.ref C) none H)
theorem ok_check_free (T : Txt K mg) : FnOk P w K mg base (L2N.CX P w) 3 T.f_check_free T.fd_check_free ["many", "times"] (spCkF K T.C_InvalidNumberError) := by
  refine okXN T.F_check_free sc_check_free (fun vs H Q E h => ?_) (fun cdv A outer s H vs Q E hr h => ?_)
  · obtain ⟨v0, v1, rfl, _⟩ := h
    rfl
  · obtain ⟨v0, v1, rfl, d0, d1, k1, k2⟩ := h
    apply Exists.intro
    apply And.intro
    · apply pss_cons
      · exact (ps_expr (pe_callS (ok_check_number T) (hr.mono (by decide)) (by rfl) T.m_check_number T.F_check_number.kp T.b_check_number (fun σ => L2N.passAt (L2N.takes_of rfl rfl rfl rfl) σ) (pa_cons (pv 0) (pa_cons pe_int (pa_cons (pe_glob (v := .int 40) rfl T.c_MOST_PAGES ⟨_, rfl⟩) pa_nil)))))
      apply pss_one
      exact (ps_expr (pe_callS (ok_check_number T) (hr.mono (by decide)) (by rfl) T.m_check_number T.F_check_number.kp T.b_check_number (fun σ => L2N.passAt (L2N.takes_of rfl rfl rfl rfl) σ) (pa_cons (pv 1) (pa_cons pe_int (pa_cons (pe_glob (v := .int 200) rfl T.c_MOST_VISITS ⟨_, rfl⟩) pa_nil)))))
    walk_at "sx"
    refine ⟨v0, 1, 40, rfl, d0, fun c0 => ⟨v1, 0, 200, rfl, d1, fun c1 => k1 ?_, fun c1 => k2 ?_⟩, fun c0 => k2 ?_⟩
    · unfold okF; rw [c0, c1]; rfl
    · unfold okF; rw [c0, c1]; rfl
    · unfold okF; rw [c0]; rfl
def okC (v0 v1 v2 : V) : Bool := okF v0 v1 && match v0 with | .int m => inR 0 m v2 | _ => false
def spCFE (K : PySem.W.Frag) (C : Addr) : Sp := fun vs H Q E => ∃ (v0 v1 v2 : V), vs = [v0, v1, v2] ∧ Kd K H v0 ∧ Kd K H v1 ∧ Kd K H v2 ∧ (okC v0 v1 v2 = true → ∀ n H', Ex H H' → Q (.int n) H') ∧ (okC v0 v1 v2 = false → E (.ref C) none H)
theorem ok_count_free (T : Txt K mg) : FnOk P w K mg base (L2N.CX P w) 4 T.f_count_free T.fd_count_free ["many", "times", "length"] (spCFE K T.C_InvalidNumberError) := by
  refine okXN T.F_count_free sc_count_free (fun vs H Q E h => ?_) (fun cdv A outer s H vs Q E hr h => ?_)
  · obtain ⟨v0, v1, v2, rfl, _⟩ := h
    rfl
  · obtain ⟨v0, v1, v2, rfl, d0, d1, d2, k1, k2⟩ := h
    apply Exists.intro
    apply And.intro
    · apply pss_cons
      · exact (ps_expr (pe_callS (ok_check_free T) (hr.mono (by decide)) (by rfl) T.m_check_free T.F_check_free.kp T.b_check_free (fun σ => L2N.passAt (L2N.takes_of rfl rfl rfl rfl) σ) (pa_cons (pv 0) (pa_cons (pv 1) pa_nil))))
      apply pss_cons
      · exact (ps_expr (pe_callS (ok_check_number T) (hr.mono (by decide)) (by rfl) T.m_check_number T.F_check_number.kp T.b_check_number (fun σ => L2N.passAt (L2N.takes_of rfl rfl rfl rfl) σ) (pa_cons (pv 2) (pa_cons pe_int (pa_cons (pv 0) pa_nil)))))
      apply pss_one
      exact (ps_ret (pe_ix (k_ix_list (K := K) rfl) (pe_call (ok_counts_of T) (hr.mono (by decide)) (by rfl) T.m_counts_of T.F_counts_of.kp T.b_counts_of .nil pass0 (pa_cons (pv 0) (pa_cons (pv 1) pa_nil))) (pv 2) (fun _ _ => rfl)))
    walk_at "sx"
    refine ⟨v0, v1, rfl, d0, d1, fun c => ?_, fun c => k2 (by unfold okC; rw [c]; rfl)⟩
    obtain ⟨m, t, rfl, rfl, h1, h2, h3⟩ := okF_int c
    refine ⟨v2, 0, m, rfl, d2, fun c2 => ?_, fun c2 => k2 (by unfold okC; rw [c]; exact c2)⟩
    have kk := k1 (by unfold okC; rw [c]; exact c2)
    obtain ⟨l, rfl, l1, l2⟩ := inR_int c2
    obtain ⟨l, rfl⟩ : ∃ n : Nat, l = (n : Int) := ⟨l.toNat, by omega⟩
    refine ⟨m, t, rfl, h1, h2, by omega, fun p H1 np e1 hp => ?_⟩
    walk_at "sx"
    refine ixL (.inl (.inl hp)) (atI_n rfl (cfs_at (by omega))) ?_
    exact kk _ H1 e1
def spFBE (K : PySem.W.Frag) (C : Addr) : Sp := fun vs H Q E => ∃ (v0 v1 : V), vs = [v0, v1] ∧ Kd K H v0 ∧ Kd K H v1 ∧ (okF v0 v1 = true → ∀ p H', Ex H H' → Q (.ref p) H') ∧ (okF v0 v1 = false → E (.ref C) none H)
theorem ok_free_by_length (T : Txt K mg) : FnOk P w K mg base (L2N.CX P w) 4 T.f_free_by_length T.fd_free_by_length ["many", "times"] (spFBE K T.C_InvalidNumberError) := by
  refine okXN T.F_free_by_length sc_free_by_length (fun vs H Q E h => ?_) (fun cdv A outer s H vs Q E hr h => ?_)
  · obtain ⟨v0, v1, rfl, _⟩ := h
    rfl
  · obtain ⟨v0, v1, rfl, d0, d1, k1, k2⟩ := h
    apply Exists.intro
    apply And.intro
    · apply pss_cons
      · exact (ps_expr (pe_callS (ok_check_free T) (hr.mono (by decide)) (by rfl) T.m_check_free T.F_check_free.kp T.b_check_free (fun σ => L2N.passAt (L2N.takes_of rfl rfl rfl rfl) σ) (pa_cons (pv 0) (pa_cons (pv 1) pa_nil))))
      apply pss_one
      exact (ps_ret (pe_call (ok_all_by_length T) (hr.mono (by decide)) (by rfl) T.m_all_by_length T.F_all_by_length.kp T.b_all_by_length .nil pass0 (pa_cons (pv 0) (pa_cons (pv 1) pa_nil))))
    walk_at "sx"
    refine ⟨v0, v1, rfl, d0, d1, fun c => ?_, k2⟩
    have kk := k1 c
    obtain ⟨m, t, rfl, rfl, h1, h2, h3⟩ := okF_int c
    exact ⟨m, t, rfl, h1, h2, by omega, fun p H' np e hp => kk p H' e⟩
theorem ok_mean_length (T : Txt K mg) : FnOk P w K mg base (L2N.CX P w) 4 T.f_mean_length T.fd_mean_length ["many", "times"] (spFBE K T.C_InvalidNumberError) := by
  refine okXN T.F_mean_length sc_mean_length (fun vs H Q E h => ?_) (fun cdv A outer s H vs Q E hr h => ?_)
  · obtain ⟨v0, v1, rfl, _⟩ := h
    rfl
  · obtain ⟨v0, v1, rfl, d0, d1, k1, k2⟩ := h
    apply Exists.intro
    apply And.intro
    · apply pss_cons
      · exact (ps_expr (pe_callS (ok_check_free T) (hr.mono (by decide)) (by rfl) T.m_check_free T.F_check_free.kp T.b_check_free (fun σ => L2N.passAt (L2N.takes_of rfl rfl rfl rfl) σ) (pa_cons (pv 0) (pa_cons (pv 1) pa_nil))))
      apply pss_cons
      · exact (ps_set (i := 2) sc_mean_length.nd rfl (.inl rfl) (pe_call (ok_all_by_length T) (hr.mono (by decide)) (by rfl) T.m_all_by_length T.F_all_by_length.kp T.b_all_by_length .nil pass0 (pa_cons (pv 0) (pa_cons (pv 1) pa_nil))))
      apply pss_cons
      · exact (ps_par (i := 4) (j := 5) (by rfl) sc_mean_length.nd rfl rfl (by decide) rfl rfl (pa_cons (pe_callB (k_sum (K := K) rfl rfl) (by rfl) T.n_sum (by decide +kernel) (pa_cons (pe_lc (own := [("length", 6), ("count", 7)]) rfl sc_mean_length.nd (k_pi_enum (K := K) rfl (by rfl) T.n_enumerate (pa_cons (pv 2) pa_nil)) (blkOk_by (own := [("length", 6), ("count", 7)]) (N := ["many", "times", "counts", "divisor", "top", "bottom", "length", "count"]) (sc := defScope s_mean_length) (by decide +kernel)) (fun _ _ _ _ _ => by exact (k_tup (K := K) (n := 2) rfl rfl (pgs_cons (pg_name (i := 6) sc_mean_length.nd rfl (.inl rfl)) (pgs_cons (pg_name (i := 7) sc_mean_length.nd rfl (.inl rfl)) pgs_nil)))) (fun _ _ _ _ _ => by exact pts_nil) (fun _ _ _ _ _ => by exact (pe_op op_mulX (pv 6) (pv 7)))) pa_nil)) (pa_cons (pe_callB (k_sum (K := K) rfl rfl) (by rfl) T.n_sum (by decide +kernel) (pa_cons (pv 2) pa_nil)) pa_nil)) (by rfl))
      apply pss_cons
      · exact (ps_set (i := 3) sc_mean_length.nd rfl (.inl rfl) (pe_call (ok_common_divisor T) (hr.mono (by decide)) (by rfl) T.m_common_divisor T.F_common_divisor.kp T.b_common_divisor .nil pass0 (pa_cons (pv 4) (pa_cons (pv 5) pa_nil))))
      apply pss_one
      exact (ps_ret (pe_tup (pa_cons (pe_op op_fdivX (pv 4) (pv 3)) (pa_cons (pe_op op_fdivX (pv 5) (pv 3)) pa_nil))))
    walk_at "sx"
    refine ⟨v0, v1, rfl, d0, d1, fun c => ?_, k2⟩
    have kk := k1 c
    obtain ⟨m, t, rfl, rfl, h1, h2, h3⟩ := okF_int c
    refine ⟨m, t, rfl, h1, h2, by omega, fun c H1 nc e1 hc => ?_⟩
    walk_at "sx"
    refine ⟨_, .inl (.inl hc), fun D nD => ?_⟩
    refine lc_enum (xs := (fls m t).map V.int) (fun _ => true) (fun l => V.int (l * fl m t l)) (.inl (.inl hc)) nD (by rw [List.length_map, fls_len]; omega) (fun u v => rfl) (fun i x hx => tyes) (fun i x hx _ => ?_) (fun H2 e2 hD => ?_)
    · have hi : i < m + 1 := by
        have := (List.getElem?_eq_some_iff.mp hx).1
        rw [List.length_map, fls_len] at this
        exact this
      have ex : x = .int (fl m t i) := Option.some.inj (hx.symm.trans (fls_at (by omega)))
      subst ex
      exact ev_op (ev_var rfl) (ev_var rfl) (rv_I (.inl (.inl ⟨by omega, by omega⟩)))
    · rw [kept_all, List.length_map, fls_len] at hD
      have e3 : (List.range (m + 1)).map (fun l => V.int ((l : Nat) * fl m t l)) = ((List.range (m + 1)).map fun l => ((l : Nat) : Int) * fl m t l).map V.int := by rw [List.map_map]; rfl
      rw [e3] at hD
      refine sumL (.inl (.inl hD)) ?_
      refine sumL (.inl (.inl (e2 _ _ hc))) ?_
      rw [sum_range, top_eq, fls_sum, sum_all]
      refine ⟨_, _, ⟨rfl, rfl⟩, (top m t).toNat, m ^ t, ?_, fun H3 e4 => ?_⟩
      · have := top_nn m t
        rw [Int.toNat_of_nonneg this, Int.natCast_pow]
      · have hg : 0 < Nat.gcd (top m t).toNat (m ^ t) := Nat.gcd_pos_of_pos_right _ (Nat.pow_pos (by omega))
        have hgl : Nat.gcd (top m t).toNat (m ^ t) < 2 ^ 1300 := by
          refine Nat.lt_of_le_of_lt (Nat.gcd_le_right _ (Nat.pow_pos (by omega))) ?_
          have := pow_lt (m := m) (n := t) (e := 1300) (by omega) (by omega)
          rw [Int.natAbs_pow] at this
          exact this
        have hdv : ∀ i, CDivW i ((Nat.gcd (top m t).toNat (m ^ t) : Nat) : Int) := fun i => wide_div (b := 1300) (by omega) (by omega) (by omega) (by omega)
        walk_at "sx"
        refine ⟨hdv _, hdv _, sz_ok (by omega), fun p np => ?_⟩
        exact kk p _ (((e1.trans e2).trans e4).trans (Ex.new np))
end
end LW

set_option Elab.async false
set_option linter.all false
set_option maxRecDepth 100000
set_option maxHeartbeats 4000000
namespace LW
open PySem PySem.Spec PyProof.Rows L2 BC Evl TR
open FM
local macro_rules | `(tactic| walk_at "sx") => `(tactic| try simp only [x_callV, x_lcV, x_callKS, x_seq, x_next, x_brk, x_cnt, x_nev, x_ret, x_retN, x_drop, x_ifS, x_asg, x_gn, x_gsub, x_par, x_par3, x_aug, x_for, x_lc, x_rng1, x_rng2, x_rng3, x_ilist, x_itup, x_ienum, x_izip, x_izipA, x_istr, x_var, x_c, x_op, x_un, x_test, x_b, x_chain, x_and, x_or, x_not, x_andV, x_orV, x_notV, x_ife, x_nil, x_cons, x_lst, x_tup, x_cb, x_call, x_callK, x_callS, x_bm, x_bm0, x_tru, x_sl, x_nopart, x_part, x_revL, x_I0, x_I, x_U, x_ip, x_ipC, x_eqI, x_neI, x_eqB, x_neB, x_eqS, x_neS, x_isB, x_isNB, x_lrg, x_gall, x_lenSet, x_augS, x_sortSet, x_sortSetB, x_lenSetA, x_rg1, x_rg2,
  L2.start, List.map_cons, List.map_nil, List.length_cons, List.length_nil, Nat.reduceAdd, Nat.reduceSub, Nat.sub_self, Nat.zero_add, List.replicate, List.replicate_succ, List.replicate_zero, List.append_nil, List.cons_append, List.nil_append, List.set_cons_zero, List.set_cons_succ, List.getElem?_cons_zero, List.getElem?_cons_succ, Option.some.injEq, V.int.injEq, V.bl.injEq, V.ref.injEq, V.str.injEq, List.cons.injEq, and_true, true_and, exists_eq_left', exists_eq_left, exists_and_left, exists_eq, if_true, if_false, ite_true, ite_false, Bool.true_eq_false, Bool.false_eq_true, reduceIte, reduceCtorEq, Bool.not_true, Bool.not_false, decide_true, decide_false, decide_eq_true_eq, Bool.and_true, Bool.true_and, Bool.and_self, Bool.and_false, Bool.false_and, Bool.or_self, Bool.or_false, Bool.false_or, Bool.or_true, Bool.true_or, eq_self])
section
variable {P : Program} {w : World} {K : PySem.W.Frag} {mg : Str → Option Value} {base : Heap}
theorem isx {H : Hp} {Q : VK} {a D C : Addr} {l l2 : List Addr} (x : IsEx H a (.ref D)) (e : ExcC K D) (m : MroIs K D l) (hD : D ∈ l) (m2 : MroIs K C l2) (t : PySem.W.typeIn K (.ref C) = some (.type "type")) (q : Q (.bl (decide (C ∈ l))) H) : rIsX K [.ref a, .ref C] H Q :=
  ⟨a, D, _, _, _, rfl, x, e, .own C, kit_own m m2 t hD, q⟩
theorem isx_ve {H : Hp} {Q : VK} {a D : Addr} {l : List Addr} (x : IsEx H a (.ref D)) (e : ExcC K D) (m : MroIs K D l) (q : Q (.bl true) H) : rIsX K [.ref a, .ty "ValueError"] H Q :=
  ⟨a, D, _, _, _, rfl, x, e, .ty _, kit_ve m, q⟩
theorem nd_ne {l : List Addr} (h : l.Nodup) {i j : Nat} {x y : Addr} (hi : l[i]? = some x) (hj : l[j]? = some y) (ne : i ≠ j) : x ≠ y := fun e => ne (nd_at h hi (by rw [e]; exact hj))
theorem not2 {x F B : Addr} (h1 : x ≠ F) (h2 : x ≠ B) : decide (x ∈ [F, B]) = false := decide_eq_false (by simp [h1, h2])
def lab10 : List Str := [Str.ofString "number", Str.ofString "lengths", Str.ofString "visits", Str.ofString "trail", Str.ofString "page", Str.ofString "pages", Str.ofString "site", Str.ofString "effect", Str.ofString "format", Str.ofString "history"]
def lab12 : List Str := lab10 ++ [Str.ofString "base class", Str.ofString "value"]
def mark12 : List Bool := [true, false, false, false, false, false, false, false, false, false, true, true]
def faultS : List Str := [Str.ofString "number", Str.ofString "base class", Str.ofString "value"]
def spNames (K : PySem.W.Frag) (D : Addr) : Sp := fun vs H Q _ => ∃ (a : Addr), vs = [.ref a] ∧ IsExN H a (.ref D) ∧ ∀ p H', H p = none → Ex H H' → H' p = some (.lst (faultS.map V.str)) → Q (.ref p) H'
theorem ok_law_error_names (T : Txt K mg) : FnV P w K mg base 1 T.f_law_error_names T.fd_law_error_names ["_law_error"] (spNames K T.C_InvalidNumberError) := by
  refine fun_okV T.F_law_error_names sc_law_error_names (fun vs H Q E h => ?_) (fun xa cdv A outer s H vs Q E hh hv hr h => ?_)
  · obtain ⟨a, rfl, _⟩ := h
    rfl
  · obtain ⟨a, rfl, xN, k⟩ := h
    obtain rfl : a = xa := by cases hv; rfl
    have x := xN.ex
    apply Exists.intro
    apply And.intro
    · apply pss_cons
      · exact (ps_set (i := 1) sc_law_error_names.nd rfl (.inr rfl) (pe_lst (pa_cons (pe_callB (k_isX (K := K) rfl) (by rfl) T.n_isinstance (by decide +kernel) (pa_cons (pv 0) (pa_cons (pe_glob (v := .ref T.C_InvalidNumberError) (by rfl) T.g_InvalidNumberError rfl) pa_nil))) (pa_cons (pe_callB (k_isX (K := K) rfl) (by rfl) T.n_isinstance (by decide +kernel) (pa_cons (pv 0) (pa_cons (pe_glob (v := .ref T.C_InvalidLengthsError) (by rfl) T.g_InvalidLengthsError rfl) pa_nil))) pa_nil))))
      apply pss_cons
      · exact (ps_set (i := 1) sc_law_error_names.nd rfl (.inr rfl) (pe_op op_cat (pv 1) (pe_lst (pa_cons (pe_callB (k_isX (K := K) rfl) (by rfl) T.n_isinstance (by decide +kernel) (pa_cons (pv 0) (pa_cons (pe_glob (v := .ref T.C_InvalidVisitsError) (by rfl) T.g_InvalidVisitsError rfl) pa_nil))) (pa_cons (pe_callB (k_isX (K := K) rfl) (by rfl) T.n_isinstance (by decide +kernel) (pa_cons (pv 0) (pa_cons (pe_glob (v := .ref T.C_InvalidTrailError) (by rfl) T.g_InvalidTrailError rfl) pa_nil))) pa_nil)))))
      apply pss_cons
      · exact (ps_set (i := 1) sc_law_error_names.nd rfl (.inr rfl) (pe_op op_cat (pv 1) (pe_lst (pa_cons (pe_callB (k_isX (K := K) rfl) (by rfl) T.n_isinstance (by decide +kernel) (pa_cons (pv 0) (pa_cons (pe_glob (v := .ref T.C_InvalidPageError) (by rfl) T.g_InvalidPageError rfl) pa_nil))) (pa_cons (pe_callB (k_isX (K := K) rfl) (by rfl) T.n_isinstance (by decide +kernel) (pa_cons (pv 0) (pa_cons (pe_glob (v := .ref T.C_InvalidPagesError) (by rfl) T.g_InvalidPagesError rfl) pa_nil))) pa_nil)))))
      apply pss_cons
      · exact (ps_set (i := 1) sc_law_error_names.nd rfl (.inr rfl) (pe_op op_cat (pv 1) (pe_lst (pa_cons (pe_callB (k_isX (K := K) rfl) (by rfl) T.n_isinstance (by decide +kernel) (pa_cons (pv 0) (pa_cons (pe_glob (v := .ref T.C_InvalidSiteError) (by rfl) T.g_InvalidSiteError rfl) pa_nil))) (pa_cons (pe_callB (k_isX (K := K) rfl) (by rfl) T.n_isinstance (by decide +kernel) (pa_cons (pv 0) (pa_cons (pe_glob (v := .ref T.C_InvalidEffectError) (by rfl) T.g_InvalidEffectError rfl) pa_nil))) pa_nil)))))
      apply pss_cons
      · exact (ps_set (i := 1) sc_law_error_names.nd rfl (.inr rfl) (pe_op op_cat (pv 1) (pe_lst (pa_cons (pe_callB (k_isX (K := K) rfl) (by rfl) T.n_isinstance (by decide +kernel) (pa_cons (pv 0) (pa_cons (pe_glob (v := .ref T.C_InvalidFormatError) (by rfl) T.g_InvalidFormatError rfl) pa_nil))) (pa_cons (pe_callB (k_isX (K := K) rfl) (by rfl) T.n_isinstance (by decide +kernel) (pa_cons (pv 0) (pa_cons (pe_glob (v := .ref T.C_EmptyHistoryError) (by rfl) T.g_EmptyHistoryError rfl) pa_nil))) pa_nil)))))
      apply pss_cons
      · exact (ps_set (i := 1) sc_law_error_names.nd rfl (.inr rfl) (pe_op op_cat (pv 1) (pe_lst (pa_cons (pe_callB (k_isX (K := K) rfl) (by rfl) T.n_isinstance (by decide +kernel) (pa_cons (pv 0) (pa_cons (pe_glob (v := .ref T.C_BreadcrumbsError) (by rfl) T.g_BreadcrumbsError rfl) pa_nil))) (pa_cons (pe_callB (k_isX (K := K) rfl) (by rfl) T.n_isinstance (by decide +kernel) (pa_cons (pv 0) (pa_cons (pe_bltn (v := .ty "ValueError") (by rfl) T.n_ValueError (by decide +kernel) rfl) pa_nil))) pa_nil)))))
      apply pss_cons
      · exact (ps_set (i := 2) sc_law_error_names.nd rfl (.inr rfl) (pe_lst (pa_cons pe_str (pa_cons pe_str (pa_cons pe_str (pa_cons pe_str (pa_cons pe_str (pa_cons pe_str (pa_cons pe_str (pa_cons pe_str (pa_cons pe_str (pa_cons pe_str pa_nil))))))))))))
      apply pss_cons
      · exact (ps_set (i := 2) sc_law_error_names.nd rfl (.inr rfl) (pe_op op_cat (pv 2) (pe_lst (pa_cons pe_str (pa_cons pe_str pa_nil)))))
      apply pss_one
      exact (ps_ret (pe_lcV (own := [("_law_k", 3)]) hh sc_law_error_names.nd (pi_range1V (by rfl) T.n_range (pa_cons pe_int pa_nil)) (blkOk_by (own := [("_law_k", 3)]) (N := ["_law_error", "_law_some", "_law_labels", "_law_k"]) (sc := defScope s_law_error_names) (by decide +kernel)) (fun _ _ _ _ _ => by exact (pg_name (i := 3) sc_law_error_names.nd rfl (.inl rfl))) (fun _ _ _ _ _ => by exact (pts_one (pt_val (pe_ix (k_ix_list (K := K) rfl) (pv 1) (pv 3) (fun _ _ => rfl))))) (fun _ _ _ _ _ => by exact (pe_ix (k_ix_list (K := K) rfl) (pv 2) (pv 3) (fun _ _ => rfl)))))
    have e := T.e_InvalidNumberError
    have m := T.r_InvalidNumberError
    have hD : T.C_InvalidNumberError ∈ [T.C_InvalidNumberError, T.C_BreadcrumbsError] := List.mem_cons_self
    have nd := T.nd
    have n : ∀ {i : Nat} {y : Addr}, [T.C_BreadcrumbsError, T.C_EmptyHistoryError, T.C_InvalidEffectError, T.C_InvalidFormatError, T.C_InvalidLengthsError, T.C_InvalidNumberError, T.C_InvalidPageError, T.C_InvalidPagesError, T.C_InvalidSiteError, T.C_InvalidTrailError, T.C_InvalidVisitsError][i]? = some y → i ≠ 0 → i ≠ 5 → decide (y ∈ [T.C_InvalidNumberError, T.C_BreadcrumbsError]) = false := fun {i y} h h0 h3 => not2 (nd_ne nd h (j := 5) rfl h3) (nd_ne nd h (j := 0) rfl h0)
    have o1 := n (i := 1) rfl (by decide) (by decide)
    have o2 := n (i := 2) rfl (by decide) (by decide)
    have o3 := n (i := 3) rfl (by decide) (by decide)
    have o4 := n (i := 4) rfl (by decide) (by decide)
    have o6 := n (i := 6) rfl (by decide) (by decide)
    have o7 := n (i := 7) rfl (by decide) (by decide)
    have o8 := n (i := 8) rfl (by decide) (by decide)
    have o9 := n (i := 9) rfl (by decide) (by decide)
    have o10 := n (i := 10) rfl (by decide) (by decide)
    have o5 : decide (T.C_InvalidNumberError ∈ [T.C_InvalidNumberError, T.C_BreadcrumbsError]) = true := decide_eq_true hD
    have o0 : decide (T.C_BreadcrumbsError ∈ [T.C_InvalidNumberError, T.C_BreadcrumbsError]) = true := decide_eq_true (by simp)
    -- two more marks
    have two : ∀ {C D p : Addr} {lC lD : List Addr} {bC bD : Bool} {bs : List V} {H1 : Hp} {R : VK}, IsEx H1 a (.ref T.C_InvalidNumberError) → MroIs K C lC → MroIs K D lD → PySem.W.typeIn K (.ref C) = some (.type "type") → PySem.W.typeIn K (.ref D) = some (.type "type") →
        decide (C ∈ [T.C_InvalidNumberError, T.C_BreadcrumbsError]) = bC → decide (D ∈ [T.C_InvalidNumberError, T.C_BreadcrumbsError]) = bD → H1 p = some (.lst bs) → bs.length ≤ 100 →
        (∀ q H2, Ex H1 H2 → H1 q = none → H2 q = some (.lst (bs ++ [.bl bC, .bl bD])) → R (.ref q) H2) →
        rIsX K [.ref a, .ref C] H1 fun x H1 => rIsX K [.ref a, .ref D] H1 fun x_1 H1 => 2 ≤ sizeLine ∧ ∀ q, H1 q = none → rCat (.ref p) (.ref q) (upd H1 q (.lst [x, x_1])) R := fun {C D p lC lD bC bD bs H1 R} ix mC mD tC tD dC dD hp hl q => by
      refine isx ix e m hD mC tC (isx ix e m hD mD tD ⟨sz_ok (by omega), fun u nu => ?_⟩)
      rw [dC, dD]
      have eu := Ex.new nu (o := .lst [V.bl bC, V.bl bD])
      refine catL (eu _ _ hp) upd_same (sz_ok (by simp; omega)) fun v nv => q v _ (eu.trans (Ex.new nv)) (fresh_back eu nv) upd_same
    refine seq_asg (fun v H' => ∃ p, v = .ref p ∧ H p = none ∧ Ex H H' ∧ H' p = some (.lst [.bl true, .bl false])) (fun R hR => ?_) (fun v H1 hC => ?_)
    · walk_at "sx"
      refine isx x e m hD T.r_InvalidNumberError T.t_InvalidNumberError (isx x e m hD T.r_InvalidLengthsError T.t_InvalidLengthsError ⟨sz_ok (by omega), fun p np => ?_⟩)
      rw [o5, o4]
      exact hR _ _ ⟨p, rfl, np, Ex.new np, upd_same⟩
    obtain ⟨p1, rfl, n1, e1, h1⟩ := hC
    try simp only [L2.start, List.map_cons, List.map_nil, List.set_cons_zero, List.set_cons_succ]
    refine seq_asg (fun v H' => ∃ p, v = .ref p ∧ Ex H H' ∧ H' p = some (.lst [.bl true, .bl false, .bl false, .bl false])) (fun R hR => ?_) (fun v H2 hC => ?_)
    · walk_at "sx"
      exact two (x.at (e1 a)) T.r_InvalidVisitsError T.r_InvalidTrailError T.t_InvalidVisitsError T.t_InvalidTrailError o10 o9 h1 (by simp) fun q H2 e2 _ h2 => hR _ _ ⟨q, rfl, e1.trans e2, h2⟩
    obtain ⟨p2, rfl, e2, h2⟩ := hC
    try simp only [List.set_cons_zero, List.set_cons_succ]
    refine seq_asg (fun v H' => ∃ p, v = .ref p ∧ Ex H H' ∧ H' p = some (.lst [.bl true, .bl false, .bl false, .bl false, .bl false, .bl false])) (fun R hR => ?_) (fun v H3 hC => ?_)
    · walk_at "sx"
      exact two (x.at (e2 a)) T.r_InvalidPageError T.r_InvalidPagesError T.t_InvalidPageError T.t_InvalidPagesError o6 o7 h2 (by simp) fun q H3 e3 _ h3 => hR _ _ ⟨q, rfl, e2.trans e3, h3⟩
    obtain ⟨p3, rfl, e3, h3⟩ := hC
    try simp only [List.set_cons_zero, List.set_cons_succ]
    refine seq_asg (fun v H' => ∃ p, v = .ref p ∧ Ex H H' ∧ H' p = some (.lst [.bl true, .bl false, .bl false, .bl false, .bl false, .bl false, .bl false, .bl false])) (fun R hR => ?_) (fun v H4 hC => ?_)
    · walk_at "sx"
      exact two (x.at (e3 a)) T.r_InvalidSiteError T.r_InvalidEffectError T.t_InvalidSiteError T.t_InvalidEffectError o8 o2 h3 (by simp) fun q H4 e4 _ h4 => hR _ _ ⟨q, rfl, e3.trans e4, h4⟩
    obtain ⟨p4, rfl, e4, h4⟩ := hC
    try simp only [List.set_cons_zero, List.set_cons_succ]
    refine seq_asg (fun v H' => ∃ p, v = .ref p ∧ Ex H H' ∧ H' p = some (.lst [.bl true, .bl false, .bl false, .bl false, .bl false, .bl false, .bl false, .bl false, .bl false, .bl false])) (fun R hR => ?_) (fun v H5 hC => ?_)
    · walk_at "sx"
      exact two (x.at (e4 a)) T.r_InvalidFormatError T.r_EmptyHistoryError T.t_InvalidFormatError T.t_EmptyHistoryError o3 o1 h4 (by simp) fun q H5 e5 _ h5 => hR _ _ ⟨q, rfl, e4.trans e5, h5⟩
    obtain ⟨p5, rfl, e5, h5⟩ := hC
    try simp only [List.set_cons_zero, List.set_cons_succ]
    refine seq_asg (fun v H' => ∃ p, v = .ref p ∧ Ex H H' ∧ H' p = some (.lst ([true, false, false, false, false, false, false, false, false, false, true, true].map V.bl))) (fun R hR => ?_) (fun v H6 hC => ?_)
    · walk_at "sx"
      have x5 := x.at (e5 a)
      refine isx x5 e m hD T.r_BreadcrumbsError T.t_BreadcrumbsError (isx_ve x5 e m ⟨sz_ok (by omega), fun u nu => ?_⟩)
      rw [o0]
      have eu := Ex.new nu (o := .lst [V.bl true, V.bl true])
      refine catL (eu _ _ h5) upd_same (sz_ok (by simp)) fun v nv => hR _ _ ⟨v, rfl, e5.trans (eu.trans (Ex.new nv)), upd_same⟩
    obtain ⟨p6, rfl, e6, h6⟩ := hC
    try simp only [List.set_cons_zero, List.set_cons_succ]
    refine seq_asg (fun v H' => ∃ p, v = .ref p ∧ Ex H6 H' ∧ H' p = some (.lst (lab10.map V.str))) (fun R hR => ?_) (fun v H7 hC => ?_)
    · refine ⟨sz_ok (by show (10 : Nat) ≤ _; omega), fun p np => hR _ _ ⟨p, rfl, Ex.new np, upd_same⟩⟩
    obtain ⟨p7, rfl, e7, h7⟩ := hC
    try simp only [List.set_cons_zero, List.set_cons_succ]
    refine seq_asg (fun v H' => ∃ p, v = .ref p ∧ Ex H6 H' ∧ H' p = some (.lst (lab12.map V.str))) (fun R hR => ?_) (fun v H8 hC => ?_)
    · walk_at "sx"
      refine ⟨sz_ok (by omega), fun u nu => ?_⟩
      have eu := Ex.new nu (o := .lst [V.str (Str.ofString "base class"), V.str (Str.ofString "value")])
      refine catL (eu _ _ h7) upd_same (sz_ok (by show 10 + 2 ≤ _; omega)) fun v nv => hR _ _ ⟨v, rfl, e7.trans (eu.trans (Ex.new nv)), upd_same⟩
    obtain ⟨p8, rfl, e8, h8⟩ := hC
    have h68 := e8 _ _ h6
    try simp only [List.set_cons_zero, List.set_cons_succ]
    walk_at "sx"
    refine ⟨by omega, by omega, fun D nD => ?_⟩
    refine lc_rng (n := 12) (lo := 0) (fun i => (mark12.getD i false)) (fun i => V.str (lab12.getD i Str.empty)) nD (by omega) (fun u => rfl) (fun i hi => ?_) (fun i hi _ => ?_) (fun H9 e9 hD => ?_)
    · have hm : (([true, false, false, false, false, false, false, false, false, false, true, true].map V.bl : List V))[i]? = some (.bl (mark12.getD i false)) := by
        rw [List.getElem?_map, List.getD_eq_getElem?_getD]
        show (mark12[i]?).map V.bl = _
        cases c : mark12[i]? with
        | none => exact absurd (List.getElem?_eq_none_iff.mp c) (by show ¬ 12 ≤ i; omega)
        | some b => rfl
      intro H3 e3 R hR
      walk_at "sx"
      refine ⟨_, rfl, _, rfl, ?_⟩
      refine ixL (.inl (.inl (e3 _ _ h68))) (atI_n (j := i) (by omega) hm) ?_
      exact ⟨_, rfl, hR _ (Ex.refl _)⟩
    · refine ev_op (ev_var rfl) (ev_var rfl) (rv_ixL (.inl (.inl h8)) (atI_n (j := i) (by omega) ?_))
      rw [List.getElem?_map, List.getD_eq_getElem?_getD]
      cases c : lab12[i]? with
      | none => exact absurd (List.getElem?_eq_none_iff.mp c) (by show ¬ 12 ≤ i; omega)
      | some b => rfl
    · have hk : kept 12 (fun i => mark12.getD i false) (fun i => V.str (lab12.getD i Str.empty)) = faultS.map V.str := by rfl
      rw [hk] at hD
      have E := e6.trans (e8.trans e9)
      exact ⟨⟨_, xN.at (E _)⟩, k D H9 (fresh_back (e6.trans e8) nD) E hD⟩
end
end LW

set_option Elab.async false
set_option linter.all false
set_option maxRecDepth 100000
set_option maxHeartbeats 4000000
namespace LW
open PySem PySem.Spec PyProof.Rows L2 BC Evl TR
open FM
local macro_rules | `(tactic| walk_at "sx") => `(tactic| try simp only [x_callV, x_lcV, x_callKS, x_seq, x_next, x_brk, x_cnt, x_nev, x_ret, x_retN, x_drop, x_ifS, x_asg, x_gn, x_gsub, x_par, x_par3, x_aug, x_for, x_lc, x_rng1, x_rng2, x_rng3, x_ilist, x_itup, x_ienum, x_izip, x_izipA, x_istr, x_var, x_c, x_op, x_un, x_test, x_b, x_chain, x_and, x_or, x_not, x_andV, x_orV, x_notV, x_ife, x_nil, x_cons, x_lst, x_tup, x_cb, x_call, x_callK, x_callS, x_bm, x_bm0, x_tru, x_sl, x_nopart, x_part, x_revL, x_I0, x_I, x_U, x_ip, x_ipC, x_eqI, x_neI, x_eqB, x_neB, x_eqS, x_neS, x_isB, x_isNB, x_lrg, x_gall, x_lenSet, x_augS, x_sortSet, x_sortSetB, x_lenSetA, x_rg1, x_rg2,
  L2.start, List.map_cons, List.map_nil, List.length_cons, List.length_nil, Nat.reduceAdd, Nat.reduceSub, Nat.sub_self, Nat.zero_add, List.replicate, List.replicate_succ, List.replicate_zero, List.append_nil, List.cons_append, List.nil_append, List.set_cons_zero, List.set_cons_succ, List.getElem?_cons_zero, List.getElem?_cons_succ, Option.some.injEq, V.int.injEq, V.bl.injEq, V.ref.injEq, V.str.injEq, List.cons.injEq, and_true, true_and, exists_eq_left', exists_eq_left, exists_and_left, exists_eq, if_true, if_false, ite_true, ite_false, Bool.true_eq_false, Bool.false_eq_true, reduceIte, reduceCtorEq, Bool.not_true, Bool.not_false, decide_true, decide_false, decide_eq_true_eq, Bool.and_true, Bool.true_and, Bool.and_self, Bool.and_false, Bool.false_and, Bool.or_self, Bool.or_false, Bool.false_or, Bool.or_true, Bool.true_or, eq_self])
section
variable {P : Program} {w : World} {K : PySem.W.Frag} {mg : Str → Option Value} {base : Heap}
/-- the values of the law -/
inductive OV (H : Hp) : V → Prop
  | non : OV H .non
  | bl (b : Bool) : OV H (.bl b)
  | str : OV H (.str (Str.ofString "3"))
  | int {i : Int} (h : i.natAbs < 10 ^ 38) : OV H (.int i)
  | lst {a : Addr} (h : H a = some (.lst [.int 3])) : OV H (.ref a)
  | tup {a : Addr} (h : H a = some (.tup [.int 3])) : OV H (.ref a)
  | dic {a : Addr} (h : H a = some (.dK [])) : OV H (.ref a)
theorem OV.keep {H H' : Hp} {v : V} (o : OV H v) (h : ∀ a o, H a = some o → (o = .lst [.int 3] ∨ o = .tup [.int 3] ∨ o = .dK []) → H' a = some o) : OV H' v := by
  cases o with
  | non => exact .non
  | bl b => exact .bl b
  | str => exact .str
  | int q => exact .int q
  | lst q => exact .lst (h _ _ q (.inl rfl))
  | tup q => exact .tup (h _ _ q (.inr (.inl rfl)))
  | dic q => exact .dic (h _ _ q (.inr (.inr rfl)))
theorem OV.ex {H H' : Hp} {v : V} (o : OV H v) (e : Ex H H') : OV H' v := o.keep fun a o q _ => e _ _ q
theorem OV.fx {H H' : Hp} {v : V} {b : Addr} {c : Nat} (o : OV H v) (hb : BagAt H b c) (f : Fx b H H') : OV H' v := o.keep fun a o q k => by
  refine f _ _ ?_ q
  rintro rfl
  obtain ⟨x0, x1, x2, hb, _⟩ := hb
  rw [hb] at q
  cases q
  rcases k with k | k | k <;> cases k
theorem OV.kd {H : Hp} {v : V} (o : OV H v) : Kd K H v := by
  cases o with
  | non => exact kd_non
  | bl b => exact .bl b
  | str => exact kd_str _
  | int q => exact .int _
  | lst q => exact kd_lst q
  | tup q => exact kd_tup q
  | dic q => exact kd_dic q
theorem OV.sv {H : Hp} {v : V} (o : OV H v) : Sv K H 2 200 v := by
  cases o with
  | non => exact .non
  | bl b => exact .bl b
  | str => exact .str (by decide +kernel) (by decide +kernel)
  | int q => exact .int q (by omega)
  | lst q => exact Sv.lst (n := 0) (W := 130) (.inl (.inl q)) (fun x m => by rw [List.mem_singleton.mp m]; exact .int (by decide) (by omega)) (by omega) (by simp only [List.length_singleton]; omega)
  | tup q => exact Sv.tup (n := 0) (W := 130) (.inl (.inl q)) (fun x m => by rw [List.mem_singleton.mp m]; exact .int (by decide) (by omega)) (by omega) (by simp only [List.length_singleton]; omega)
  | dic q => exact .dic q (by omega)
def spFine (K : PySem.W.Frag) : Sp := fun vs H Q _ => ∃ (v : V) (lo hi : Int), vs = [v, .int lo, .int hi] ∧ Kd K H v ∧ Q (.bl (inR lo hi v)) H
theorem ok_law_is_fine (T : Txt K mg) : FnOk P w K mg base CX0 1 T.f_law_is_fine T.fd_law_is_fine ["_law_one", "_law_low", "_law_high"] (spFine K) := by
  refine T.F_law_is_fine.ok sc_law_is_fine (fun vs H Q E h => ?_) (fun cdv A outer s H vs Q E hr h => ?_)
  · obtain ⟨v, lo, hi, rfl, _⟩ := h
    rfl
  · obtain ⟨v, lo, hi, rfl, kd, k⟩ := h
    apply Exists.intro
    apply And.intro
    · apply pss_one
      exact (ps_ret (pe_and (pe_callB (k_isi (K := K) rfl) (by rfl) T.n_isinstance (by decide +kernel) (pa_cons (pv 0) (pa_cons (pe_bltn (v := .ty "int") (by rfl) T.n_int (by decide +kernel) rfl) pa_nil))) (pe_and (pe_not (pe_callB (k_isi (K := K) rfl) (by rfl) T.n_isinstance (by decide +kernel) (pa_cons (pv 0) (pa_cons (pe_bltn (v := .ty "bool") (by rfl) T.n_bool (by decide +kernel) rfl) pa_nil)))) (pe_one (pe_chain op_le op_le (pv 1) (pv 0) (pv 2))))))
    walk_at "sx"
    cases kd with
    | int i =>
      refine isi_int (b := true) (by decide +kernel) ?_
      walk_at "sx"
      refine isi_int (b := false) (by decide +kernel) ?_
      have k' : Q (.bl (decide (lo ≤ i) && decide (i ≤ hi))) H := k
      walk_at "sx"
      by_cases h1 : lo ≤ i
      · simpa [h1] using k'
      · simpa [h1] using k'
    | bl b =>
      refine ⟨.bl b, .ty "int", .type "bool", .type "int", true, rfl, .ty "int", .base (.bl b), kit_ty (by decide +kernel), ?_⟩
      walk_at "sx"
      refine ⟨.bl b, .ty "bool", .type "bool", .type "bool", true, rfl, .ty "bool", .base (.bl b), kit_ty (by decide +kernel), ?_⟩
      walk_at "sx"
      exact k
    | odd ty n =>
      refine ⟨v, .ty "int", _, .type "int", false, rfl, .ty "int", ty, n, ?_⟩
      have e : inR lo hi v = false := by
        cases v with
        | int i =>
          cases ty with
          | base h => cases h; exact absurd n (by rw [kit_ty (r := true) (by decide +kernel)]; simp)
        | _ => rfl
      rw [e] at k
      walk_at "sx"
      exact k
def spNoNum (K : PySem.W.Frag) : Sp := fun vs H Q _ => ∃ (b : Addr) (lo hi : Int) (c : Nat), vs = [.ref b, .int lo, .int hi] ∧ 0 ≤ lo ∧ lo ≤ 1 ∧ 0 ≤ hi ∧ hi ≤ 200 ∧ BagAt H b c ∧ c ≤ 100000 ∧ ∀ v H', Fx b H H' → BagAt H' b (c + 3) → OV H' v → inR lo hi v = false → Q v H'
theorem ok_law_no_number (T : Txt K mg) : FnOk P w K mg base CX0 2 T.f_law_no_number T.fd_law_no_number ["_law_bag_here", "_law_low", "_law_high"] (spNoNum K) := by
  refine T.F_law_no_number.ok sc_law_no_number (fun vs H Q E h => ?_) (fun cdv A outer s H vs Q E hr h => ?_)
  · obtain ⟨b, lo, hi, c, rfl, _⟩ := h
    rfl
  · obtain ⟨b, lo, hi, c, rfl, l0, l1, h0, h1, hB, hc, k⟩ := h
    apply Exists.intro
    apply And.intro
    · apply pss_cons
      · exact (ps_set (i := 3) sc_law_no_number.nd rfl (.inl rfl) (pe_lst (pa_cons pe_non (pa_cons pe_bl (pa_cons pe_bl (pa_cons pe_str (pa_cons (pe_lst (pa_cons pe_int pa_nil)) (pa_cons (pe_tup (pa_cons pe_int pa_nil)) (pa_cons pe_dnewK (pa_cons (pe_op op_sub (pv 1) pe_int) (pa_cons (pe_op op_add (pv 2) pe_int) (pa_cons (pe_op op_sub (pv 1) pe_int) (pa_cons (pe_op op_add (pv 2) pe_int) (pa_cons (pe_op op_powX pe_int pe_int) (pa_cons (pe_op op_sub pe_int (pe_op op_powX pe_int pe_int)) pa_nil)))))))))))))))
      apply pss_cons
      · exact (ps_set (i := 3) sc_law_no_number.nd rfl (.inl rfl) (pe_op op_cat (pv 3) (pe_lst (pa_cons (pe_un un_neg pe_int) (pa_cons (pe_un un_neg pe_int) (pa_cons (pe_op op_sub pe_int (pv 2)) (pa_cons (pe_op op_sub (pe_un un_neg pe_int) (pv 2)) (pa_cons (pe_op op_sub (pe_un un_neg pe_int) (pe_call (ok_law_draw T) (hr.mono (by decide)) (by rfl) T.m_law_draw T.F_law_draw.kp T.b_law_draw .nil pass0 (pa_cons (pv 0) (pa_cons pe_int pa_nil)))) (pa_cons (pe_op op_add (pe_op op_add (pv 2) pe_int) (pe_call (ok_law_draw T) (hr.mono (by decide)) (by rfl) T.m_law_draw T.F_law_draw.kp T.b_law_draw .nil pass0 (pa_cons (pv 0) (pa_cons pe_int pa_nil)))) pa_nil)))))))))
      apply pss_cons
      · exact (ps_setLc (i := 4) (own := [("_law_one", 5)]) rfl sc_law_no_number.nd rfl rfl (sw_true rfl rfl rfl (by decide +kernel)) (k_pi_list (K := K) rfl (pv 3)) (blkOk_by (own := [("_law_one", 5)]) (N := ["_law_bag_here", "_law_low", "_law_high", "_law_odd", "_law_fitting", "_law_one"]) (sc := defScope s_law_no_number) (by decide +kernel)) (fun _ _ _ _ _ => by exact (pg_name (i := 5) sc_law_no_number.nd rfl (.inl rfl))) (fun _ _ _ _ _ => by exact (pts_one (pt_not (pt_val (pe_call (ok_law_is_fine T) (hr.mono (by decide)) (by rfl) T.m_law_is_fine T.F_law_is_fine.kp T.b_law_is_fine .nil pass0 (pa_cons (pv 5) (pa_cons (pv 1) (pa_cons (pv 2) pa_nil)))))))) (fun _ _ _ _ _ => by exact (pv 5)))
      apply pss_one
      exact (ps_ret (pe_ix (k_ix_list (K := K) rfl) (pv 4) (pe_call (ok_law_draw T) (hr.mono (by decide)) (by rfl) T.m_law_draw T.F_law_draw.kp T.b_law_draw .nil pass0 (pa_cons (pv 0) (pa_cons (pe_callB (k_len (K := K) rfl) (by rfl) T.n_len PySem.boot_len (pa_cons (pv 4) pa_nil)) pa_nil))) (fun _ _ => rfl)))
    refine seq_asg (fun v H' => ∃ (p : Addr) (xs : List V), v = .ref p ∧ Ex H H' ∧ H' p = some (.lst xs) ∧ xs.length = 13 ∧ xs[0]? = some .non ∧ ∀ x ∈ xs, OV H' x) (fun R hR => ?_) (fun v H1 hC => ?_)
    · walk_at "sx"
      refine ⟨sz_ok (by omega), fun q nq => ⟨sz_ok (by omega), fun t nt => fun d nd => ?_⟩⟩
      have hq := upd_same (H := H) (a := q) (o := .lst [V.int 3])
      have eq := Ex.new nq (o := .lst [V.int 3])
      generalize upd H q (.lst [V.int 3]) = H1 at hq eq nt nd ⊢
      have ht := upd_same (H := H1) (a := t) (o := .tup [V.int 3])
      have et := Ex.new nt (o := .tup [V.int 3])
      generalize upd H1 t (.tup [V.int 3]) = H2 at ht et nd ⊢
      have hd := upd_same (H := H2) (a := d) (o := .dK [])
      have ed := Ex.new nd (o := .dK [])
      generalize upd H2 d (.dK []) = H3 at hd ed ⊢
      have cp : CPowX 10 30 := ⟨by decide, by decide, by decide⟩
      refine ⟨cp, cp, sz_ok (by omega), fun p np => ?_⟩
      have ep := Ex.new np (o := .lst [V.non, V.bl true, V.bl false, V.str (Str.ofString "3"), V.ref q, V.ref t, V.ref d, V.int (lo - 1), V.int (hi + 1), V.int (lo - 2), V.int (hi + 2), V.int (10 ^ Int.toNat 30), V.int (0 - 10 ^ Int.toNat 30)])
      refine hR _ _ ⟨p, _, rfl, ((eq.trans et).trans ed).trans ep, upd_same, rfl, rfl, fun x m => ?_⟩
      simp only [List.mem_cons, List.mem_nil_iff, or_false] at m
      rcases m with rfl | rfl | rfl | rfl | rfl | rfl | rfl | rfl | rfl | rfl | rfl | rfl | rfl
      · exact .non
      · exact .bl _
      · exact .bl _
      · exact .str
      · exact .lst (ep _ _ (ed _ _ (et _ _ hq)))
      · exact .tup (ep _ _ (ed _ _ ht))
      · exact .dic (ep _ _ hd)
      · exact .int (Nat.lt_of_lt_of_le (m := 2000) (by omega) (by decide))
      · exact .int (Nat.lt_of_lt_of_le (m := 2000) (by omega) (by decide))
      · exact .int (Nat.lt_of_lt_of_le (m := 2000) (by omega) (by decide))
      · exact .int (Nat.lt_of_lt_of_le (m := 2000) (by omega) (by decide))
      · exact .int (by decide)
      · exact .int (by decide)
    obtain ⟨p, xs, rfl, e1, hp, xl, x0, hx⟩ := hC
    try simp only [L2.start, List.map_cons, List.map_nil, List.set_cons_zero, List.set_cons_succ]
    walk_at "sx"
    have nbp : b ≠ p := by
      rintro rfl
      obtain ⟨y0, y1, y2, hb, _⟩ := hB.ex e1
      rw [hb] at hp
      cases hp
      exact absurd xl (by simp)
    refine ⟨b, _, c, rfl, by omega, big_of (by omega), hB.ex e1, by omega, fun r1 H2 r10 r11 f2 b2 => ?_⟩
    walk_at "sx"
    refine ⟨b, _, _, rfl, by omega, big_of (by omega), b2, by omega, fun r2 H3 r20 r21 f3 b3 => ?_⟩
    walk_at "sx"
    refine ⟨sz_ok (by omega), fun q nq => ?_⟩
    have eq := Ex.new nq (o := .lst [V.int (-1), V.int (-2), V.int (0 - hi), V.int (-1 - hi), V.int (-3 - r1), V.int (hi + 3 + r2)])
    have hp3 := eq _ _ (f3 _ _ (Ne.symm nbp) (f2 _ _ (Ne.symm nbp) hp))
    refine catL hp3 upd_same (sz_ok (by rw [xl]; show 13 + 6 ≤ _; omega)) fun z nz1 => ?_
    have ez := Ex.new nz1 (o := .lst (xs ++ [V.int (-1), V.int (-2), V.int (0 - hi), V.int (-1 - hi), V.int (-3 - r1), V.int (hi + 3 + r2)]))
    have ov : ∀ x ∈ xs ++ [V.int (-1), V.int (-2), V.int (0 - hi), V.int (-1 - hi), V.int (-3 - r1), V.int (hi + 3 + r2)], OV H3 x := fun x hm => by
      rcases List.mem_append.mp hm with m | m
      · exact ((hx x m).fx (hB.ex e1) f2).fx b2 f3
      · simp only [List.mem_cons, List.mem_nil_iff, or_false] at m
        rcases m with rfl | rfl | rfl | rfl | rfl | rfl <;> exact .int (Nat.lt_of_lt_of_le (m := 2000) (by omega) (by decide))
    have E := eq.trans ez
    have b4 := b3.ex E
    have fE := (Fx.of e1 (b := b)).trans (f2.trans f3)
    generalize hys : xs ++ [V.int (-1), V.int (-2), V.int (0 - hi), V.int (-1 - hi), V.int (-3 - r1), V.int (hi + 3 + r2)] = ys at ov E b4 ⊢
    have yl : ys.length = 19 := by rw [← hys, List.length_append, xl]; rfl
    have y0 : ys[0]? = some .non := by rw [← hys, List.getElem?_append_left (by omega)]; exact x0
    have hz : (upd (upd H3 q (.lst [V.int (-1), V.int (-2), V.int (0 - hi), V.int (-1 - hi), V.int (-3 - r1), V.int (hi + 3 + r2)])) z (.lst ys)) z = some (.lst ys) := upd_same
    generalize upd (upd H3 q (.lst [V.int (-1), V.int (-2), V.int (0 - hi), V.int (-1 - hi), V.int (-3 - r1), V.int (hi + 3 + r2)])) z (.lst ys) = H4 at E b4 hz ⊢
    have ov4 : ∀ x ∈ ys, OV H4 x := fun x m => (ov x m).ex E
    refine ⟨z, rfl, ⟨_, .inl (.inl hz)⟩, fun D nD => ?_⟩
    refine lc_list (xs := ys) (fun i => !(inR lo hi (ys.getD i .non))) (fun i => ys.getD i .non) (.inl (.inl hz)) nD (by omega) (fun u => rfl) (fun i x hx => ?_) (fun i x hx _ => ?_) (fun H5 e5 hD => ?_)
    · intro H6 e6 R hR
      walk_at "sx"
      refine ⟨_, rfl, _, rfl, _, rfl, x, lo, hi, rfl, ((ov4 x (List.mem_of_getElem? hx)).ex e6).kd, ⟨_, rfl, ?_⟩⟩
      rw [List.getD_eq_getElem?_getD, hx] at hR
      exact hR _ (Ex.refl _)
    · refine ev_is (ev_var rfl) ?_
      rw [List.getD_eq_getElem?_getD, hx]
      rfl
    · have mem : ∀ x ∈ kept ys.length (fun i => !(inR lo hi (ys.getD i .non))) (fun i => ys.getD i .non), x ∈ ys ∧ inR lo hi x = false := fun x m => by
        obtain ⟨i, hi', rfl⟩ := List.mem_map.mp m
        obtain ⟨h1, h2⟩ := List.mem_filter.mp hi'
        rw [List.mem_range] at h1
        refine ⟨?_, by simpa using h2⟩
        rw [List.getD_eq_getElem?_getD, List.getElem?_eq_getElem h1]
        exact List.getElem_mem h1
      have pos : 1 ≤ (kept ys.length (fun i => !(inR lo hi (ys.getD i .non))) (fun i => ys.getD i .non)).length := by
        have : ys.getD 0 .non ∈ kept ys.length (fun i => !(inR lo hi (ys.getD i .non))) (fun i => ys.getD i .non) := by
          refine List.mem_map.mpr ⟨0, List.mem_filter.mpr ⟨List.mem_range.mpr (by omega), ?_⟩, rfl⟩
          rw [List.getD_eq_getElem?_getD, y0]
          rfl
        exact List.length_pos_iff.mpr (List.ne_nil_of_mem this)
      have small : (kept ys.length (fun i => !(inR lo hi (ys.getD i .non))) (fun i => ys.getD i .non)).length ≤ 19 := by
        unfold kept
        rw [List.length_map]
        have := List.length_filter_le (fun i => !(inR lo hi (ys.getD i .non))) (List.range ys.length)
        rw [List.length_range] at this
        omega
      generalize kept ys.length (fun i => !(inR lo hi (ys.getD i .non))) (fun i => ys.getD i .non) = zs at mem pos small hD
      refine lenL (.inl (.inl hD)) ?_
      have nDb : D ≠ b := b4.apart nD
      refine ⟨b, _, _, rfl, by omega, big_of (by omega), b4.ex e5, by omega, fun r3 H6 r30 r31 f6 b6 => ?_⟩
      have hz3 : zs[r3.toNat]? = some (zs[r3.toNat]'(by omega)) := List.getElem?_eq_getElem (by omega)
      generalize zs[r3.toNat]'(by omega) = v at hz3
      obtain ⟨m1, m2⟩ := mem v (List.mem_of_getElem? hz3)
      refine ixL (.inl (.inl (f6 _ _ nDb hD))) (atI_n (j := r3.toNat) (by omega) hz3) ?_
      exact k v H6 ((fE.trans (Fx.of (E.trans e5))).trans f6) (b6.mono (by omega)) (((ov4 v m1).ex e5).fx (b4.ex e5) f6) m2
end
end LW

set_option Elab.async false
set_option linter.all false
set_option maxRecDepth 100000
set_option maxHeartbeats 4000000
namespace LW
open PySem PySem.Spec PyProof.Rows L2 BC Evl TR
open FM
local macro_rules | `(tactic| walk_at "sx") => `(tactic| try simp only [x_callV, x_lcV, x_callKS, x_seq, x_next, x_brk, x_cnt, x_nev, x_ret, x_retN, x_drop, x_ifS, x_asg, x_gn, x_gsub, x_par, x_par3, x_aug, x_for, x_lc, x_rng1, x_rng2, x_rng3, x_ilist, x_itup, x_ienum, x_izip, x_izipA, x_istr, x_var, x_c, x_op, x_un, x_test, x_b, x_chain, x_and, x_or, x_not, x_andV, x_orV, x_notV, x_ife, x_nil, x_cons, x_lst, x_tup, x_cb, x_call, x_callK, x_callS, x_bm, x_bm0, x_tru, x_sl, x_nopart, x_part, x_revL, x_I0, x_I, x_U, x_ip, x_ipC, x_eqI, x_neI, x_eqB, x_neB, x_eqS, x_neS, x_isB, x_isNB, x_lrg, x_gall, x_lenSet, x_augS, x_sortSet, x_sortSetB, x_lenSetA, x_rg1, x_rg2,
  L2.start, List.map_cons, List.map_nil, List.length_cons, List.length_nil, Nat.reduceAdd, Nat.reduceSub, Nat.sub_self, Nat.zero_add, List.replicate, List.replicate_succ, List.replicate_zero, List.append_nil, List.cons_append, List.nil_append, List.set_cons_zero, List.set_cons_succ, List.getElem?_cons_zero, List.getElem?_cons_succ, Option.some.injEq, V.int.injEq, V.bl.injEq, V.ref.injEq, V.str.injEq, List.cons.injEq, and_true, true_and, exists_eq_left', exists_eq_left, exists_and_left, exists_eq, if_true, if_false, ite_true, ite_false, Bool.true_eq_false, Bool.false_eq_true, reduceIte, reduceCtorEq, Bool.not_true, Bool.not_false, decide_true, decide_false, decide_eq_true_eq, Bool.and_true, Bool.true_and, Bool.and_self, Bool.and_false, Bool.false_and, Bool.or_self, Bool.or_false, Bool.false_or, Bool.or_true, Bool.true_or, eq_self])
section
variable {P : Program} {w : World} {K : PySem.W.Frag} {mg : Str → Option Value} {base : Heap}
def okW (n : Nat) (v0 v1 v2 : V) : Bool := if n = 0 then okC v0 v1 v2 else okF v0 v1
def resS (b : Bool) : List Str := if b then [] else faultS
def spRaised (K : PySem.W.Frag) : Sp := fun vs H Q _ => ∃ (g : Addr) (n : Nat) (v0 v1 v2 : V), vs = [.int n, .ref g] ∧ n ≤ 2 ∧ H g = some (.lst [v0, v1, v2]) ∧ OV H v0 ∧ OV H v1 ∧ OV H v2 ∧ ∀ p H', H p = none → Ex H H' → H' p = some (.lst ((resS (okW n v0 v1 v2)).map V.str)) → Q (.ref p) H'
theorem ok_law_raised (T : Txt K mg) : FnOk P w K mg base CX0 5 T.f_law_raised T.fd_law_raised ["_law_which", "_law_given"] (spRaised K) := by
  refine T.F_law_raised.ok sc_law_raised (fun vs H Q E h => ?_) (fun cdv A outer s H vs Q E hr h => ?_)
  · obtain ⟨g, n, v0, v1, v2, rfl, _⟩ := h
    rfl
  · obtain ⟨g, n, v0, v1, v2, rfl, hn, hg, o0, o1, o2, k⟩ := h
    apply Exists.intro
    apply And.intro
    · apply pss_cons
      · exact (ps_try_trkN (i := 2) rfl rfl rfl sc_law_raised.nd rfl rfl ⟨rfl, by decide, .inl T.g_BreadcrumbsError⟩ takes0N (fun W pn xe tk _ => (pss_one (ps_if (pt_cmpR op_eq (pv 0) pe_int (by rfl)) (pss_one (ps_expr (pe_callKS0 (ok_count_free T) (hr.mono (by decide)) (by rfl) T.m_count_free T.F_count_free.kp T.k_count_free_0_2_1_0 (fun σ => L2N.passAt tk σ) (pk_cons (pe_ix (k_ix_list (K := K) rfl) (pv 1) pe_int (fun _ _ => rfl)) (pk_cons (pe_ix (k_ix_list (K := K) rfl) (pv 1) pe_int (fun _ _ => rfl)) (pk_cons (pe_ix (k_ix_list (K := K) rfl) (pv 1) pe_int (fun _ _ => rfl)) pk_nil)))))) (pss_one (ps_if (pt_cmpR op_eq (pv 0) pe_int (by rfl)) (pss_one (ps_expr (pe_callKS0 (ok_free_by_length T) (hr.mono (by decide)) (by rfl) T.m_free_by_length T.F_free_by_length.kp T.k_free_by_length_0_1_0 (fun σ => L2N.passAt tk σ) (pk_cons (pe_ix (k_ix_list (K := K) rfl) (pv 1) pe_int (fun _ _ => rfl)) (pk_cons (pe_ix (k_ix_list (K := K) rfl) (pv 1) pe_int (fun _ _ => rfl)) pk_nil))))) (pss_one (ps_expr (pe_callKS0 (ok_mean_length T) (hr.mono (by decide)) (by rfl) T.m_mean_length T.F_mean_length.kp T.k_mean_length_0_1_0 (fun σ => L2N.passAt tk σ) (pk_cons (pe_ix (k_ix_list (K := K) rfl) (pv 1) pe_int (fun _ _ => rfl)) (pk_cons (pe_ix (k_ix_list (K := K) rfl) (pv 1) pe_int (fun _ _ => rfl)) pk_nil)))))))))) (fun a cls d pn => (pss_one (ps_ret (pe_callV (ok_law_error_names T) (roomM (L2H.roomH_of (hr.mono (by decide)))) (by rfl) T.m_law_error_names T.F_law_error_names.kp T.b_law_error_names pass0 rfl (pa_cons (pv 2) pa_nil))))))
      apply pss_one
      exact (ps_ret (pe_lst pa_nil))
    walk_at "sx"
    have bad : (∀ p H', H p = none → Ex H H' → H' p = some (.lst (faultS.map V.str)) → Q (.ref p) H') → WE (wTrkN K (Value.ref T.C_BreadcrumbsError) 2 (fun a cls d => tRet (tCallV a (spNames K T.C_InvalidNumberError) E0 (tCons (tVar 2) tNil))) (fun _ _ _ _ => False) { nx := tRet (tLst tNil) { nx := fun x H' => Q V.non H', rt := Q }, rt := Q }) [some (V.int ((n : Nat) : Int)), some (V.ref g), none] (.ref T.C_InvalidNumberError) none H := fun kq => by
      refine ⟨true, exm_yes T.r_InvalidNumberError T.e_BreadcrumbsError T.t_BreadcrumbsError (by simp), fun _ e ne => ?_, fun z => nomatch z⟩
      have x2 := Ex.new ne (o := ExTN (.ref T.C_InvalidNumberError) none e)
      walk_at "sx"
      exact ⟨e, rfl, isExN_T upd_same, fun p H2 np e2 hp => kq p H2 (fresh_back x2 np) (x2.trans e2) hp⟩
    have good : (∀ p H', H p = none → Ex H H' → H' p = some (.lst (([] : List Str).map V.str)) → Q (.ref p) H') → ∀ H1, Ex H H1 → 0 ≤ sizeLine ∧ ∀ (p : Addr), H1 p = none → Q (V.ref p) (upd H1 p (HO.lst [])) := fun kq H1 e1 => ⟨sz_ok (by omega), fun p np => kq p _ (fresh_back e1 np) (e1.trans (Ex.new np)) upd_same⟩
    have g0 : ([v0, v1, v2] : List V)[0]? = some v0 := rfl
    have g1 : ([v0, v1, v2] : List V)[1]? = some v1 := rfl
    have g2 : ([v0, v1, v2] : List V)[2]? = some v2 := rfl
    by_cases c0 : n = 0
    · subst c0
      rw [if_pos (show ((0 : Nat) : Int) = 0 from rfl)]
      refine ixL (.inl (.inl hg)) (atI_n (j := 2) rfl g2) (ixL (.inl (.inl hg)) (atI_n (j := 1) rfl g1) (ixL (.inl (.inl hg)) (atI_n (j := 0) rfl g0) ?_))
      refine ⟨v0, v1, v2, rfl, o0.kd, o1.kd, o2.kd, fun c r H' e => ?_, fun c => ?_⟩
      · refine good ?_ H' e
        have e1 : okW 0 v0 v1 v2 = true := by unfold okW; rw [if_pos rfl]; exact c
        rw [e1] at k
        exact k
      · refine bad ?_
        have e1 : okW 0 v0 v1 v2 = false := by unfold okW; rw [if_pos rfl]; exact c
        rw [e1] at k
        exact k
    · rw [if_neg (by omega)]
      have ew : okW n v0 v1 v2 = okF v0 v1 := by unfold okW; rw [if_neg c0]
      rw [ew] at k
      have rest : rIxL K (V.ref g) (V.int 1) H fun x H1 => rIxL K (V.ref g) (V.int 0) H1 fun x_1 H1 => spFBE K T.C_InvalidNumberError (kg V.non 0 2 [1, 0] [] [x, x_1]) H1 (fun x H1 => 0 ≤ sizeLine ∧ ∀ (p : Addr), H1 p = none → Q (V.ref p) (upd H1 p (HO.lst []))) (WE (wTrkN K (Value.ref T.C_BreadcrumbsError) 2 (fun a cls d => tRet (tCallV a (spNames K T.C_InvalidNumberError) E0 (tCons (tVar 2) tNil))) (fun _ _ _ _ => False) { nx := tRet (tLst tNil) { nx := fun x H' => Q V.non H', rt := Q }, rt := Q }) [some (V.int ((n : Nat) : Int)), some (V.ref g), none]) := by
        refine ixL (.inl (.inl hg)) (atI_n (j := 1) rfl g1) (ixL (.inl (.inl hg)) (atI_n (j := 0) rfl g0) ?_)
        refine ⟨v0, v1, rfl, o0.kd, o1.kd, fun c r H' e => ?_, fun c => ?_⟩
        · rw [c] at k
          exact good k H' e
        · rw [c] at k
          exact bad k
      by_cases c1 : n = 1
      · rw [if_pos (by omega)]
        exact rest
      · rw [if_neg (by omega)]
        exact rest
end
end LW

set_option Elab.async false
set_option linter.all false
set_option maxRecDepth 100000
set_option maxHeartbeats 4000000
namespace LW
open PySem PySem.Spec PyProof.Rows L2 BC Evl TR
open FM
local macro_rules | `(tactic| walk_at "sx") => `(tactic| try simp only [x_callV, x_lcV, x_callKS, x_seq, x_next, x_brk, x_cnt, x_nev, x_ret, x_retN, x_drop, x_ifS, x_asg, x_gn, x_gsub, x_par, x_par3, x_aug, x_for, x_lc, x_rng1, x_rng2, x_rng3, x_ilist, x_itup, x_ienum, x_izip, x_izipA, x_istr, x_var, x_c, x_op, x_un, x_test, x_b, x_chain, x_and, x_or, x_not, x_andV, x_orV, x_notV, x_ife, x_nil, x_cons, x_lst, x_tup, x_cb, x_call, x_callK, x_callS, x_bm, x_bm0, x_tru, x_sl, x_nopart, x_part, x_revL, x_I0, x_I, x_U, x_ip, x_ipC, x_eqI, x_neI, x_eqB, x_neB, x_eqS, x_neS, x_isB, x_isNB, x_lrg, x_gall, x_lenSet, x_augS, x_sortSet, x_sortSetB, x_lenSetA, x_rg1, x_rg2,
  L2.start, List.map_cons, List.map_nil, List.length_cons, List.length_nil, Nat.reduceAdd, Nat.reduceSub, Nat.sub_self, Nat.zero_add, List.replicate, List.replicate_succ, List.replicate_zero, List.append_nil, List.cons_append, List.nil_append, List.set_cons_zero, List.set_cons_succ, List.getElem?_cons_zero, List.getElem?_cons_succ, Option.some.injEq, V.int.injEq, V.bl.injEq, V.ref.injEq, V.str.injEq, List.cons.injEq, and_true, true_and, exists_eq_left', exists_eq_left, exists_and_left, exists_eq, if_true, if_false, ite_true, ite_false, Bool.true_eq_false, Bool.false_eq_true, reduceIte, reduceCtorEq, Bool.not_true, Bool.not_false, decide_true, decide_false, decide_eq_true_eq, Bool.and_true, Bool.true_and, Bool.and_self, Bool.and_false, Bool.false_and, Bool.or_self, Bool.or_false, Bool.false_or, Bool.or_true, Bool.true_or, eq_self])
section
variable {P : Program} {w : World} {K : PySem.W.Frag} {mg : Str → Option Value} {base : Heap}
def spLaw (K : PySem.W.Frag) : Sp := fun vs H Q _ => ∃ (a : Addr) (ns : List Int), vs = [.ref a] ∧ SqL K H a (ns.map V.int) ∧ ns.length ≤ 63 ∧ ∀ H', Q (.bl true) H'
def JO (H1 : Hp) (a : Addr) (i : Nat) (σ' : L2.St) (H' : Hp) : Prop := ∃ l1 l2 l3 l4 l5 l6 l7 l8 l9 l10 l11 l12 l13, σ' = [some (.ref a), l1, l2, l3, l4, l5, l6, l7, l8, l9, l10, l11, l12, l13] ∧ Ex H1 H'
def JT (Hb : Hp) (a b : Addr) (i : Nat) (n : Int) (j : Nat) (σ' : L2.St) (H' : Hp) : Prop := ∃ l4 l5 l6 l7 l8 l9 l10 l11 l12 l13, σ' = [some (.ref a), some (.int i), some (.int n), some (.ref b), l4, l5, l6, l7, l8, l9, l10, l11, l12, l13] ∧ Fx b Hb H' ∧ BagAt H' b (100 * j)
def loX : List Int := [1, 0, 0]
def hiX (wd : Nat) : List Int := [40, 200, (wd : Int)]
theorem lo_at : ∀ {m : Nat}, m < 3 → ([V.int 1, V.int 0, V.int 0] : List V)[m]? = some (.int (loX.getD m 0))
  | 0, _ => rfl
  | 1, _ => rfl
  | 2, _ => rfl
theorem hi_at {wd : Nat} : ∀ {m : Nat}, m < 3 → ([V.int 40, V.int 200, V.int (wd : Int)] : List V)[m]? = some (.int ((hiX wd).getD m 0))
  | 0, _ => rfl
  | 1, _ => rfl
  | 2, _ => rfl
theorem lohi {wd : Nat} (h : wd ≤ 40) : ∀ {m : Nat}, m < 3 → 0 ≤ loX.getD m 0 ∧ loX.getD m 0 ≤ 1 ∧ 0 ≤ (hiX wd).getD m 0 ∧ (hiX wd).getD m 0 ≤ 200
  | 0, _ => ⟨by decide, by decide, (by decide : (0 : Int) ≤ 40), (by decide : (40 : Int) ≤ 200)⟩
  | 1, _ => ⟨by decide, by decide, (by decide : (0 : Int) ≤ 200), (by decide : (200 : Int) ≤ 200)⟩
  | 2, _ => ⟨by decide, by decide, (by omega : (0 : Int) ≤ (wd : Int)), (by omega : (wd : Int) ≤ 200)⟩
/-- the values within the loop of the marks -/
def Vok (wd t l : Nat) (bs : List Bool) (j : Nat) (vs : List V) : Prop := vs.length = 3 ∧ ∀ m, m < 3 → (m < j → bs.getD m false = true → inR (loX.getD m 0) ((hiX wd).getD m 0) (vs.getD m .non) = false) ∧ (¬ (m < j ∧ bs.getD m false = true) → vs[m]? = ([V.int (wd : Int), V.int (t : Int), V.int (l : Int)] : List V)[m]?)
def JM (H4 : Hp) (b g D : Addr) (wd t l c : Nat) (bs : List Bool) (σ0 : Option V → L2.St) (j : Nat) (σ' : L2.St) (H' : Hp) : Prop := ∃ l8 vs, σ' = σ0 l8 ∧ (∀ a o, H4 a = some o → a ≠ b → a ≠ g → H' a = some o) ∧ BagAt H' b (c + 3 * j) ∧ H' g = some (.lst vs) ∧ (∀ v ∈ vs, OV H' v) ∧ Vok wd t l bs j vs
theorem judge {wd t l : Nat} {b0 b1 b2 : Bool} {v0 v1 v2 : V} (w1 : 1 ≤ wd) (w40 : wd ≤ 40) (t200 : t ≤ 200) (hl : l ≤ wd) (h : ∀ m, m < 3 → (m < 3 → ([b0, b1, b2] : List Bool).getD m false = true → inR (loX.getD m 0) ((hiX wd).getD m 0) (([v0, v1, v2] : List V).getD m .non) = false) ∧ (¬ (m < 3 ∧ ([b0, b1, b2] : List Bool).getD m false = true) → ([v0, v1, v2] : List V)[m]? = ([V.int (wd : Int), V.int (t : Int), V.int (l : Int)] : List V)[m]?)) :
    okC v0 v1 v2 = !(b0 || b1 || b2) ∧ okF v0 v1 = !(b0 || b1) := by
  have h0 := h 0 (by omega)
  have h1 := h 1 (by omega)
  have h2 := h 2 (by omega)
  have a0 : b0 = true → inR 1 40 v0 = false := h0.1 (by omega)
  have a1 : b1 = true → inR 0 200 v1 = false := h1.1 (by omega)
  have a2 : b2 = true → inR 0 (wd : Int) v2 = false := h2.1 (by omega)
  have c0 : b0 = false → v0 = .int (wd : Int) := fun e => Option.some.inj (h0.2 fun z => by have : b0 = true := z.2; rw [e] at this; cases this)
  have c1 : b1 = false → v1 = .int (t : Int) := fun e => Option.some.inj (h1.2 fun z => by have : b1 = true := z.2; rw [e] at this; cases this)
  have c2 : b2 = false → v2 = .int (l : Int) := fun e => Option.some.inj (h2.2 fun z => by have : b2 = true := z.2; rw [e] at this; cases this)
  have g0 : inR 1 40 v0 = !b0 := by
    cases b0 with
    | true => exact a0 rfl
    | false =>
      rw [c0 rfl]
      show (decide ((1 : Int) ≤ (wd : Int)) && decide (((wd : Nat) : Int) ≤ 40)) = true
      rw [decide_eq_true (by omega), decide_eq_true (by omega)]
      rfl
  have g1 : inR 0 200 v1 = !b1 := by
    cases b1 with
    | true => exact a1 rfl
    | false =>
      rw [c1 rfl]
      show (decide ((0 : Int) ≤ (t : Int)) && decide (((t : Nat) : Int) ≤ 200)) = true
      rw [decide_eq_true (by omega), decide_eq_true (by omega)]
      rfl
  have g2 : inR 0 (wd : Int) v2 = !b2 := by
    cases b2 with
    | true => exact a2 rfl
    | false =>
      rw [c2 rfl]
      show (decide ((0 : Int) ≤ (l : Int)) && decide (((l : Nat) : Int) ≤ (wd : Int))) = true
      rw [decide_eq_true (by omega), decide_eq_true (by omega)]
      rfl
  have gF : okF v0 v1 = !(b0 || b1) := by
    unfold okF
    rw [g0, g1]
    cases b0 <;> cases b1 <;> rfl
  refine ⟨?_, gF⟩
  unfold okC
  rw [gF]
  cases b0 with
  | true => rfl
  | false =>
    rw [c0 rfl]
    show (!(false || b1) && inR 0 (wd : Int) v2) = _
    rw [g2]
    cases b1 <;> cases b2 <;> rfl
theorem cut_test {b0 b1 b2 : Bool} {v0 v1 v2 : V} (jC : okC v0 v1 v2 = !(b0 || b1 || b2)) (jF : okF v0 v1 = !(b0 || b1)) : ∀ {m : Nat} {x : V}, m < 3 → ([V.int 3, V.int 2, V.int 2] : List V)[m]? = some x → ∃ k : Int, x = .int k ∧ inV (.bl true) (cutV (([b0, b1, b2] : List Bool).map V.bl) none (some k)) = !okW m v0 v1 v2
  | 0, _, _, h => ⟨3, (Option.some.inj h).symm, by
    rw [show okW 0 v0 v1 v2 = okC v0 v1 v2 from rfl, jC]
    cases b0 <;> cases b1 <;> cases b2 <;> decide +kernel⟩
  | 1, _, _, h => ⟨2, (Option.some.inj h).symm, by
    rw [show okW 1 v0 v1 v2 = okF v0 v1 from rfl, jF]
    cases b0 <;> cases b1 <;> cases b2 <;> decide +kernel⟩
  | 2, _, _, h => ⟨2, (Option.some.inj h).symm, by
    rw [show okW 2 v0 v1 v2 = okF v0 v1 from rfl, jF]
    cases b0 <;> cases b1 <;> cases b2 <;> decide +kernel⟩
/-- a new list of lists of strings, so far -/
def PvR (HC : Hp) (D2 : Addr) (F : Nat → List Str) (m : Nat) (H' : Hp) : Prop := ∃ rs : List Addr, rs.length = m ∧ Ex HC H' ∧ H' D2 = some (.lst (rs.map V.ref)) ∧ ∀ q r, rs[q]? = some r → r ≠ D2 ∧ H' r = some (.lst ((F q).map V.str))
theorem PvR.push {HC H' H2 : Hp} {D2 r : Addr} {F : Nat → List Str} {m : Nat} (h : PvR HC D2 F m H') (nD : HC D2 = none) (e : Ex H' H2) (hr : H2 r = some (.lst ((F m).map V.str))) (ne : r ≠ D2) (hm : m ≤ 1000) : ∃ acc, H2 D2 = some (.lst acc) ∧ acc.length < sizeLine ∧ PvR HC D2 F (m + 1) (upd H2 D2 (.lst (acc ++ [.ref r]))) := by
  obtain ⟨rs, rl, eH, hD2, hrs⟩ := h
  refine ⟨_, e _ _ hD2, BC.sz_lt (by rw [List.length_map]; omega), rs ++ [r], by rw [List.length_append, rl]; rfl, (eH.trans e).mut nD, by rw [upd_same, List.map_append]; rfl, fun q u hq => ?_⟩
  by_cases c : q < rs.length
  · rw [List.getElem?_append_left c] at hq
    obtain ⟨h1, h2⟩ := hrs q u hq
    exact ⟨h1, by rw [upd_ne h1]; exact e _ _ h2⟩
  · rw [List.getElem?_append_right (by omega)] at hq
    have : q = rs.length := by
      have := (List.getElem?_eq_some_iff.mp hq).1
      rw [List.length_singleton] at this
      omega
    subst this
    rw [Nat.sub_self] at hq
    obtain rfl : r = u := Option.some.inj hq
    exact ⟨ne, by rw [upd_ne ne, rl]; exact hr⟩
def dSS (F : Nat → List Str) : PyData := .list [.list ((F 0).map PyData.str), .list ((F 1).map PyData.str), .list ((F 2).map PyData.str)]
theorem dp_strs {H : Hp} : ∀ ws : List Str, DpAll K H (ws.map V.str) (ws.map PyData.str)
  | [] => .nil
  | x :: ws => .cons (.str x) (dp_strs ws)
theorem dp_ss {H : Hp} {p : Addr} {rs : List Addr} {F : Nat → List Str} (hp : H p = some (.lst (rs.map V.ref))) (hl : rs.length = 3) (h : ∀ q r, rs[q]? = some r → H r = some (.lst ((F q).map V.str))) : Dp K H (.ref p) (dSS F) := by
  match rs, hl with
  | [x, y, z], _ => exact .lst (.inl (.inl hp)) (.cons (.lst (.inl (.inl (h 0 x rfl))) (dp_strs _)) (.cons (.lst (.inl (.inl (h 1 y rfl))) (dp_strs _)) (.cons (.lst (.inl (.inl (h 2 z rfl))) (dp_strs _)) .nil)))
theorem ss_ok (c0 c1 c2 : Bool) : SeqAt.shaped (.list [.list ((resS c0).map PyData.str), .list ((resS c1).map PyData.str), .list ((resS c2).map PyData.str)]) = true ∧ PyData.eqv (.list [.list ((resS c0).map PyData.str), .list ((resS c1).map PyData.str), .list ((resS c2).map PyData.str)]) (.list [.list ((resS c0).map PyData.str), .list ((resS c1).map PyData.str), .list ((resS c2).map PyData.str)]) = true := by
  revert c0 c1 c2
  decide +kernel
theorem ok_law (T : Txt K mg) : FnG P w K mg base CX0 6 T.f_law T.fd_law ["_law_script"] (spLaw K) := by
  refine fun_okN T.F_law sc_law (fun vs H Q E h => ?_) (fun cdv A outer s H vs Q E hG hr h => ?_)
  · obtain ⟨a, ns, rfl, _⟩ := h
    rfl
  · obtain ⟨a, ns, rfl, hA, hn, k⟩ := h
    apply Exists.intro
    apply And.intro
    · apply pss_cons
      · apply ps_for PassesOwn.never rfl
        · exact (k_pi_enum (K := K) rfl (by rfl) T.n_enumerate (pa_cons (pe_op op_cat (pe_slice (k_sl_list (K := K) rfl) (pv 0) po_none (po_some pe_int)) (pe_lst (pa_cons pe_int pa_nil))) pa_nil))
        · exact (k_tup (K := K) (n := 2) rfl rfl (pgs_cons (pg_name (i := 1) sc_law.nd rfl (.inl rfl)) (pgs_cons (pg_name (i := 2) sc_law.nd rfl (.inl rfl)) pgs_nil)))
        · apply pss_cons
          · exact (ps_set (i := 3) sc_law.nd rfl (.inr rfl) (pe_call (ok_law_bag T) (hr.mono (by decide)) (by rfl) T.m_law_bag T.F_law_bag.kp T.b_law_bag .nil pass0 (pa_cons (pv 2) pa_nil)))
          apply pss_one
          apply ps_for PassesOwn.never rfl
          · exact (pi_range1 (by rfl) T.n_range (pa_cons pe_int pa_nil))
          · exact (pg_name (i := 4) sc_law.nd rfl (.inl rfl))
          · apply pss_cons
            · exact (ps_set (i := 5) sc_law.nd rfl (.inl rfl) (pe_ix (k_ix_list (K := K) rfl) (pe_lst (pa_cons pe_int (pa_cons pe_int (pa_cons (pe_op op_add pe_int (pe_call (ok_law_draw T) (hr.mono (by decide)) (by rfl) T.m_law_draw T.F_law_draw.kp T.b_law_draw .nil pass0 (pa_cons (pv 3) (pa_cons pe_int pa_nil)))) pa_nil)))) (pe_call (ok_law_draw T) (hr.mono (by decide)) (by rfl) T.m_law_draw T.F_law_draw.kp T.b_law_draw .nil pass0 (pa_cons (pv 3) (pa_cons pe_int pa_nil))) (fun _ _ => rfl)))
            apply pss_cons
            · exact (ps_set (i := 6) sc_law.nd rfl (.inr rfl) (pe_lst (pa_cons (pv 5) (pa_cons (pe_ix (k_ix_list (K := K) rfl) (pe_lst (pa_cons pe_int (pa_cons pe_int (pa_cons (pe_call (ok_law_draw T) (hr.mono (by decide)) (by rfl) T.m_law_draw T.F_law_draw.kp T.b_law_draw .nil pass0 (pa_cons (pv 3) (pa_cons pe_int pa_nil))) pa_nil)))) (pe_call (ok_law_draw T) (hr.mono (by decide)) (by rfl) T.m_law_draw T.F_law_draw.kp T.b_law_draw .nil pass0 (pa_cons (pv 3) (pa_cons pe_int pa_nil))) (fun _ _ => rfl)) pa_nil))))
            apply pss_cons
            · exact (ps_expr (k_bm (K := K) rfl (pe_bm PySem.F.plainAttrs_list PySem.F.slot_list_append PySem.F.type_list_append mt_append (pv 6) (pa_cons (pe_ix (k_ix_list (K := K) rfl) (pe_lst (pa_cons pe_int (pa_cons (pv 5) (pa_cons (pe_call (ok_law_draw T) (hr.mono (by decide)) (by rfl) T.m_law_draw T.F_law_draw.kp T.b_law_draw .nil pass0 (pa_cons (pv 3) (pa_cons (pe_op op_add (pv 5) pe_int) pa_nil))) pa_nil)))) (pe_op op_modX (pv 4) pe_int) (fun _ _ => rfl)) pa_nil))))
            apply pss_cons
            · exact (ps_set (i := 7) sc_law.nd rfl (.inr rfl) (pe_lc (own := [("_law_mark", 8)]) rfl sc_law.nd (pi_range1 (by rfl) T.n_range (pa_cons pe_int pa_nil)) (blkOk_by (own := [("_law_mark", 8)]) (N := ["_law_script", "_law_k", "_law_cell", "_law_bag_here", "_law_turn", "_law_wide", "_law_given", "_law_bad", "_law_mark", "_law_due", "_law_kept", "_law_fault", "_law_some", "_law_which"]) (sc := defScope s_law) (by decide +kernel)) (fun _ _ _ _ _ => by exact (pg_name (i := 8) sc_law.nd rfl (.inl rfl))) (fun _ _ _ _ _ => by exact pts_nil) (fun _ _ _ _ _ => by exact (pe_cmpR op_eq (pe_call (ok_law_draw T) (hr.mono (by decide)) (by rfl) T.m_law_draw T.F_law_draw.kp T.b_law_draw .nil pass0 (pa_cons (pv 3) (pa_cons pe_int pa_nil))) pe_int (by rfl)))))
            apply pss_cons
            · apply ps_for PassesOwn.never rfl
              · exact (pi_range1 (by rfl) T.n_range (pa_cons pe_int pa_nil))
              · exact (pg_name (i := 8) sc_law.nd rfl (.inl rfl))
              · apply pss_one
                apply ps_if
                · exact (pt_val (pe_ix (k_ix_list (K := K) rfl) (pv 7) (pv 8) (fun _ _ => rfl)))
                · apply pss_one
                  exact (ps_asg (pe_call (ok_law_no_number T) (hr.mono (by decide)) (by rfl) T.m_law_no_number T.F_law_no_number.kp T.b_law_no_number .nil pass0 (pa_cons (pv 3) (pa_cons (pe_ix (k_ix_list (K := K) rfl) (pe_lst (pa_cons pe_int (pa_cons pe_int (pa_cons pe_int pa_nil)))) (pv 8) (fun _ _ => rfl)) (pa_cons (pe_ix (k_ix_list (K := K) rfl) (pe_lst (pa_cons pe_int (pa_cons pe_int (pa_cons (pv 5) pa_nil)))) (pv 8) (fun _ _ => rfl)) pa_nil)))) (pg_sub (pv 6) (pv 8) set_list))
                · exact pss_nil
            apply pss_cons
            · exact (ps_asg (pe_tup (pa_cons (pe_callB (k_reprA (K := K) rfl hG hr.units) (by rfl) T.n_repr (by decide +kernel) (pa_cons (pv 6) pa_nil)) (pa_cons (pe_lst (pa_cons pe_str (pa_cons pe_str (pa_cons pe_str pa_nil)))) pa_nil))) (k_tup (K := K) (n := 2) rfl rfl (pgs_cons (pg_name (i := 10) sc_law.nd rfl (.inl rfl)) (pgs_cons (pg_name (i := 11) sc_law.nd rfl (.inr rfl)) pgs_nil))))
            apply pss_cons
            · exact (ps_setLc (i := 9) (own := [("_law_some", 12)]) rfl sc_law.nd rfl rfl (sw_true rfl rfl rfl (by decide +kernel)) (k_pi_list (K := K) rfl (pe_lst (pa_cons pe_int (pa_cons pe_int (pa_cons pe_int pa_nil))))) (blkOk_by (own := [("_law_some", 12)]) (N := ["_law_script", "_law_k", "_law_cell", "_law_bag_here", "_law_turn", "_law_wide", "_law_given", "_law_bad", "_law_mark", "_law_due", "_law_kept", "_law_fault", "_law_some", "_law_which"]) (sc := defScope s_law) (by decide +kernel)) (fun _ _ _ _ _ => by exact (pg_name (i := 12) sc_law.nd rfl (.inl rfl))) (fun _ _ _ _ _ => by exact pts_nil) (fun _ _ _ _ _ => by exact (pe_ifExp (pt_cmpR (k_in (K := K) rfl) pe_bl (pe_slice (k_sl_list (K := K) rfl) (pv 7) po_none (po_some (pv 12))) (by rfl)) (pv 11) (pe_lst pa_nil))))
            apply pss_one
            apply ps_if
            · exact (PW.pt (pw_or (pt_cmpR (k_neD (K := K) rfl hr.units) (pe_lc (own := [("_law_which", 13)]) rfl sc_law.nd (pi_range1 (by rfl) T.n_range (pa_cons pe_int pa_nil)) (blkOk_by (own := [("_law_which", 13)]) (N := ["_law_script", "_law_k", "_law_cell", "_law_bag_here", "_law_turn", "_law_wide", "_law_given", "_law_bad", "_law_mark", "_law_due", "_law_kept", "_law_fault", "_law_some", "_law_which"]) (sc := defScope s_law) (by decide +kernel)) (fun _ _ _ _ _ => by exact (pg_name (i := 13) sc_law.nd rfl (.inl rfl))) (fun _ _ _ _ _ => by exact pts_nil) (fun _ _ _ _ _ => by exact (pe_call (ok_law_raised T) (hr.mono (by decide)) (by rfl) T.m_law_raised T.F_law_raised.kp T.b_law_raised .nil pass0 (pa_cons (pv 13) (pa_cons (pv 6) pa_nil))))) (pv 9) (by rfl)) (pw_or1 (pt_cmpR op_ne (pe_callB (k_reprA (K := K) rfl hG hr.units) (by rfl) T.n_repr (by decide +kernel) (pa_cons (pv 6) pa_nil)) (pv 10) (by rfl)))))
            · apply pss_one
              exact (ps_ret pe_bl)
            · exact pss_nil
      apply pss_one
      exact (ps_ret pe_bl)
    walk_at "sx"
    refine slL hA fun z nz1 => ⟨sz_ok (by omega), fun y ny => ?_⟩
    have ez := Ex.new nz1 (o := .lst (cutV (ns.map V.int) none (some 8)))
    have ey := Ex.new ny (o := .lst [V.int 0])
    have hmem : ∀ x ∈ cutV (ns.map V.int) none (some 8) ++ [V.int 0], ∃ n, x = V.int n := fun x hx => by
      rcases List.mem_append.mp hx with h | h
      · obtain ⟨n, _, e⟩ := List.mem_map.mp (cutV_mem h)
        exact ⟨n, e.symm⟩
      · exact ⟨0, List.mem_singleton.mp h⟩
    have hlen := cutV_len (ns.map V.int) none (some 8)
    rw [List.length_map] at hlen
    refine catL (ey _ _ upd_same) upd_same (sz_ok (by rw [List.length_singleton]; omega)) fun L nL => ?_
    have hL : (upd (upd (upd H z (.lst (cutV (ns.map V.int) none (some 8)))) y (.lst [V.int 0])) L (.lst (cutV (ns.map V.int) none (some 8) ++ [V.int 0]))) L = some (.lst (cutV (ns.map V.int) none (some 8) ++ [V.int 0])) := upd_same
    generalize upd (upd (upd H z (.lst (cutV (ns.map V.int) none (some 8)))) y (.lst [V.int 0])) L (.lst (cutV (ns.map V.int) none (some 8) ++ [V.int 0])) = H1 at hL ⊢
    have hxl : (cutV (ns.map V.int) none (some 8) ++ [V.int 0]).length ≤ 64 := by rw [List.length_append, List.length_singleton]; omega
    generalize cutV (ns.map V.int) none (some 8) ++ [V.int 0] = xs at hL hmem hxl ⊢
    refine ⟨L, rfl, xs, .inl (.inl hL), ?_⟩
    refine lg_enum (xs := xs) (JO H1 a) ⟨none, none, none, none, none, none, none, none, none, none, none, none, none, rfl, Ex.refl H1⟩ (fun i σ' H' hi hP => by obtain ⟨_, _, _, _, _, _, _, _, _, _, _, _, _, _, e⟩ := hP; exact .inl (.inl (e _ _ hL)))
      (fun i x σ' H' T hx hP nT => ?_) (fun σ' H' hP => ?_)
    rotate_left
    · obtain ⟨l1, l2, l3, l4, l5, l6, l7, l8, l9, l10, l11, l12, l13, rfl, e⟩ := hP
      walk_at "sx"
      exact k _
    · obtain ⟨l1, l2, l3, l4, l5, l6, l7, l8, l9, l10, l11, l12, l13, rfl, e⟩ := hP
      obtain ⟨n, rfl⟩ := hmem x (List.mem_of_getElem? hx)
      have hi := (List.getElem?_eq_some_iff.mp hx).1
      refine g_two upd_same ?_
      have eT := Ex.new nT (o := .tup [V.int i, V.int n])
      generalize upd H' T (.tup [V.int i, V.int n]) = HA at eT ⊢
      try simp only [List.set_cons_zero, List.set_cons_succ]
      refine seq_asg (fun v H' => ∃ b, v = .ref b ∧ HA b = none ∧ Ex HA H' ∧ BagAt H' b 0) (fun R hR => ?_) (fun v HB hC => ?_)
      · walk_at "sx"
        exact ⟨n, rfl, fun b H2 nb e2 hb => hR _ _ ⟨b, rfl, nb, e2, hb⟩⟩
      obtain ⟨b, rfl, nb, eB, hb⟩ := hC
      obtain ⟨ob, hob⟩ := hb.some
      have nbH : H' b = none := fresh_back eT nb
      try simp only [List.set_cons_zero, List.set_cons_succ]
      walk_at "sx"
      refine ⟨by omega, by omega, ?_⟩
      refine lg_rng (JT HB a b i n) ⟨l4, l5, l6, l7, l8, l9, l10, l11, l12, l13, rfl, Fx.refl _ _, by simpa using hb⟩ (fun j σ' H5 hj hP => ?_) (fun σ' H5 hP => ?_)
      rotate_left
      · obtain ⟨l4, l5, l6, l7, l8, l9, l10, l11, l12, l13, rfl, f5, b5⟩ := hP
        exact ⟨_, _, _, _, _, _, _, _, _, _, _, _, _, rfl, e.trans (((Fx.of (eT.trans eB)).trans f5).ex nbH)⟩
      · obtain ⟨l4, l5, l6, l7, l8, l9, l10, l11, l12, l13, rfl, f5, b5⟩ := hP
        have hj8 : j < 8 := hj
        try simp only [x_gn, List.set_cons_zero, List.set_cons_succ]
        -- the number of pages
        refine seq_asg (fun v H' => ∃ wd : Nat, v = .int wd ∧ 1 ≤ wd ∧ wd ≤ 40 ∧ Fx b H5 H' ∧ BagAt H' b (100 * j + 2)) (fun R hR => ?_) (fun v H6 hC => ?_)
        · walk_at "sx"
          refine ⟨b, _, _, rfl, by omega, big_of (by omega), b5, by omega, fun r1 H6 r10 r11 f6 b6 => ?_⟩
          walk_at "sx"
          refine ⟨sz_ok (by omega), fun z nz => ?_⟩
          have ez := Ex.new nz (o := .lst [V.int 1, V.int 40, V.int (1 + r1)])
          refine ⟨b, _, _, rfl, by omega, big_of (by omega), b6.ex ez, by omega, fun r3 H7 r30 r31 f7 b7 => ?_⟩
          obtain ⟨x, hx, em⟩ := pickI (ns := [1, 40, 1 + r1]) r30 r31
          simp only [List.mem_cons, List.mem_nil_iff, or_false] at hx
          refine ixL (.inl (.inl (f7 _ _ (b6.apart nz) upd_same))) em ?_
          exact hR _ _ ⟨x.toNat, by rw [Int.toNat_of_nonneg (by omega)], by omega, by omega, (f6.trans (Fx.of ez)).trans f7, b7⟩
        obtain ⟨wd, rfl, w1, w40, f6, b6⟩ := hC
        try simp only [List.set_cons_zero, List.set_cons_succ]
        -- pages and visits
        refine seq_asg (fun v H' => ∃ (g : Addr) (t : Nat), v = .ref g ∧ H6 g = none ∧ g ≠ b ∧ t ≤ 200 ∧ Fx b H6 H' ∧ BagAt H' b (100 * j + 4) ∧ H' g = some (.lst [V.int wd, V.int t])) (fun R hR => ?_) (fun v H7 hC => ?_)
        · walk_at "sx"
          refine ⟨b, _, _, rfl, by omega, big_of (by omega), b6, by omega, fun r1 H7 r10 r11 f7 b7 => ?_⟩
          walk_at "sx"
          refine ⟨sz_ok (by omega), fun z nz => ?_⟩
          have ez := Ex.new nz (o := .lst [V.int 0, V.int 200, V.int r1])
          refine ⟨b, _, _, rfl, by omega, big_of (by omega), b7.ex ez, by omega, fun r3 H8 r30 r31 f8 b8 => ?_⟩
          obtain ⟨x, hx, em⟩ := pickI (ns := [0, 200, r1]) r30 r31
          simp only [List.mem_cons, List.mem_nil_iff, or_false] at hx
          refine ixL (.inl (.inl (f8 _ _ (b7.apart nz) upd_same))) em ?_
          refine ⟨sz_ok (by omega), fun g ng => ?_⟩
          have eg := Ex.new ng (o := .lst [V.int wd, V.int x])
          have ngb := b8.apart ng
          have fA := (f7.trans (Fx.of ez)).trans f8
          refine hR _ _ ⟨g, x.toNat, rfl, fx_none fA ng ngb, ngb, by omega, fA.trans (Fx.of eg), b8.ex eg, ?_⟩
          rw [upd_same, Int.toNat_of_nonneg (by omega)]
        obtain ⟨g, t, rfl, ng, ngb, t200, f7, b7, hg7⟩ := hC
        try simp only [List.set_cons_zero, List.set_cons_succ]
        -- the size
        refine seq_cut (fun σ' H' => ∃ l : Nat, σ' = [some (.ref a), some (.int i), some (.int n), some (.ref b), some (.int (0 + (j : Int))), some (.int wd), some (.ref g), l7, l8, l9, l10, l11, l12, l13] ∧ l ≤ wd ∧ Fx b H6 H' ∧ BagAt H' b (100 * j + 5) ∧ H' g = some (.lst [V.int wd, V.int t, V.int l])) (fun N hN => ?_) (fun σ8 H8 hC => ?_)
        · walk_at "sx"
          refine ⟨tyL hg7, b, _, _, rfl, by omega, big_of (by omega), b7, by omega, fun r1 H8 r10 r11 f8 b8 => ?_⟩
          walk_at "sx"
          refine ⟨sz_ok (by omega), fun z nz => ?_⟩
          have ez := Ex.new nz (o := .lst [V.int 0, V.int wd, V.int r1])
          refine ⟨by omega, ?_⟩
          obtain ⟨x, hx, em⟩ := pickI (ns := [0, (wd : Int), r1]) (r := (0 + (j : Int)) % 3) (by omega) (by show _ < (3 : Int); omega)
          simp only [List.mem_cons, List.mem_nil_iff, or_false] at hx
          refine ixL (.inl (.inl upd_same)) em ?_
          refine appL (ez _ _ (f8 _ _ ngb hg7)) (BC.sz_lt (by simp)) ?_
          refine hN _ _ ⟨x.toNat, rfl, by omega, ((f7.trans f8).trans (Fx.of ez)).mut ng, (b8.ex ez).off ngb, ?_⟩
          rw [upd_same, Int.toNat_of_nonneg (by omega)]
          rfl
        obtain ⟨l, rfl, hlw, f8, b8, hg8⟩ := hC
        -- the marks
        refine seq_asg (fun v H' => ∃ (D : Addr) (bs : List Bool), v = .ref D ∧ H8 D = none ∧ bs.length = 3 ∧ Fx b H8 H' ∧ BagAt H' b (100 * j + 8) ∧ H' D = some (.lst (bs.map V.bl))) (fun R hR => ?_) (fun v H9 hC => ?_)
        · walk_at "sx"
          refine ⟨by omega, by omega, fun D nD => ?_⟩
          have nDb : D ≠ b := b8.apart nD
          refine lc_rngE (n := 3) (fun m H' => ∃ bs : List Bool, bs.length = m ∧ Fx b H8 H' ∧ BagAt H' b (100 * j + 5 + m) ∧ H' D = some (.lst (bs.map V.bl))) ⟨[], rfl, Fx.of (Ex.new nD), b8.ex (Ex.new nD), upd_same⟩ (fun m H' hm hP => ?_) (fun H' hP => ?_)
          · obtain ⟨bs, hb1, fx, bb, hD⟩ := hP
            refine ⟨rfl, ?_⟩
            walk_at "sx"
            refine ⟨_, rfl, b, _, _, rfl, by omega, big_of (by omega), bb, by omega, fun r1 H9 r10 r11 f9 b9 => ?_⟩
            walk_at "sx"
            have hD9 := f9 _ _ nDb hD
            refine ⟨_, hD9, BC.sz_lt (by rw [List.length_map]; omega), bs ++ [decide (r1 = 0)], by rw [List.length_append, hb1]; rfl, (fx.trans f9).mut nD, (b9.off nDb).mono (by omega), ?_⟩
            rw [upd_same, List.map_append]
            rfl
          · obtain ⟨bs, hb1, fx, bb, hD⟩ := hP
            exact hR _ _ ⟨D, bs, rfl, nD, hb1, fx, bb, hD⟩
        obtain ⟨D, bs, rfl, nD, bl3, f9, b9, hD9⟩ := hC
        have nDb : D ≠ b := b8.apart nD
        have nDg : D ≠ g := fun e => by rw [e, hg8] at nD; cases nD
        have hg9 := f9 _ _ ngb hg8
        try simp only [List.set_cons_zero, List.set_cons_succ]
        refine seq_cut (fun σ' H' => ∃ l8 vs, σ' = [some (.ref a), some (.int i), some (.int n), some (.ref b), some (.int (0 + (j : Int))), some (.int wd), some (.ref g), some (.ref D), l8, l9, l10, l11, l12, l13] ∧ (∀ a o, H9 a = some o → a ≠ b → a ≠ g → H' a = some o) ∧ BagAt H' b (100 * j + 20) ∧ H' g = some (.lst vs) ∧ (∀ v ∈ vs, OV H' v) ∧ Vok wd t l bs 3 vs) (fun N hN => ?_) (fun σA HA' hC => ?_)
        · walk_at "sx"
          refine ⟨by omega, by omega, ?_⟩
          refine lg_rng (n := 3) (JM H9 b g D wd t l (100 * j + 8) bs fun l8 => [some (.ref a), some (.int i), some (.int n), some (.ref b), some (.int (0 + (j : Int))), some (.int wd), some (.ref g), some (.ref D), l8, l9, l10, l11, l12, l13]) ⟨l8, _, rfl, fun _ _ h _ _ => h, b9.mono (by omega), hg9, fun v hv => ?_, rfl, fun m hm => ⟨fun h => absurd h (by omega), fun _ => rfl⟩⟩ (fun m σ' H' hm hP => ?_) (fun σ' H' hP => ?_)
          · simp only [List.mem_cons, List.mem_nil_iff, or_false] at hv
            rcases hv with rfl | rfl | rfl <;> exact .int (Nat.lt_of_lt_of_le (m := 201) (by omega) (by decide))
          · obtain ⟨l8, vs, rfl, kp, bb, hg, ov, vl, vk⟩ := hP
            have hm3 : m < 3 := hm
            have hD := kp _ _ hD9 nDb nDg
            have hbm : (bs.map V.bl)[m]? = some (.bl (bs.getD m false)) := by
              rw [List.getElem?_map, List.getD_eq_getElem?_getD, List.getElem?_eq_getElem (by omega)]
              rfl
            walk_at "sx"
            refine ixL (.inl (.inl hD)) (atI_n (j := m) (by omega) hbm) ⟨_, rfl, ?_⟩
            cases c : bs.getD m false with
            | false =>
              rw [if_neg (by decide)]
              refine ⟨_, vs, rfl, kp, bb.mono (by omega), hg, ov, vl, fun q hq => ⟨fun h1 h2 => ?_, fun h1 => ?_⟩⟩
              · refine (vk q hq).1 ?_ h2
                rcases Nat.lt_or_ge q m with h | h
                · exact h
                · rw [show q = m by omega, c] at h2
                  cases h2
              · exact (vk q hq).2 fun z => h1 ⟨by omega, z.2⟩
            | true =>
              rw [if_pos rfl]
              refine ⟨sz_ok (by omega), fun p np => ?_⟩
              have ep := Ex.new np (o := .lst [V.int 1, V.int 0, V.int 0])
              refine ixL (.inl (.inl upd_same)) (atI_n (j := m) (by omega) (lo_at hm3)) ?_
              refine ⟨sz_ok (by omega), fun q nq => ?_⟩
              have eq := Ex.new nq (o := .lst [V.int 40, V.int 200, V.int ((wd : Nat) : Int)])
              refine ixL (.inl (.inl upd_same)) (atI_n (j := m) (by omega) (hi_at hm3)) ?_
              obtain ⟨k1, k2, k3, k4⟩ := lohi (wd := wd) w40 hm3
              have E := ep.trans eq
              refine ⟨b, _, _, _, rfl, k1, k2, k3, k4, bb.ex E, by omega, fun v H3 fx b3 o3 hin => ?_⟩
              have hg3 := fx _ _ ngb (E _ _ hg)
              refine setL hg3 (ixN_n (j := m) (by omega) (by rw [vl]; omega)) ?_
              refine ⟨_, vs.set m v, rfl, fun x o h1 h2 h3 => ?_, (b3.off ngb).mono (by omega), upd_same, fun u hu => ?_, by rw [List.length_set]; exact vl, fun q hq => ⟨fun h1 h2 => ?_, fun h1 => ?_⟩⟩
              · rw [upd_ne h3]
                exact fx _ _ h2 (E _ _ (kp _ _ h1 h2 h3))
              · have o4 : OV H3 u := by
                  rcases List.mem_or_eq_of_mem_set hu with h | h
                  · exact ((ov u h).ex E).fx (bb.ex E) fx
                  · rw [h]; exact o3
                refine o4.keep fun x o h1 h2 => ?_
                rw [upd_ne]
                · exact h1
                · rintro rfl
                  rw [hg3] at h1
                  cases h1
                  rcases h2 with h2 | h2 | h2
                  · have h2 : vs = [V.int 3] := HO.lst.inj h2
                    rw [h2] at vl
                    exact absurd vl (by simp)
                  · cases h2
                  · cases h2
              · by_cases e : q = m
                · subst e
                  have ev : (vs.set q v).getD q V.non = v := by
                    rw [List.getD_eq_getElem?_getD, List.getElem?_set_self (by rw [vl]; omega)]
                    rfl
                  rw [ev]
                  exact hin
                · have := (vk q hq).1 (by omega) h2
                  have ev : (vs.set m v).getD q V.non = vs.getD q V.non := by
                    rw [List.getD_eq_getElem?_getD, List.getD_eq_getElem?_getD, List.getElem?_set_ne (by omega)]
                  rw [ev]
                  exact this
              · have e : q ≠ m := fun e => h1 ⟨by omega, by rw [e]; exact c⟩
                rw [List.getElem?_set_ne (by omega)]
                exact (vk q hq).2 fun z => h1 ⟨by omega, z.2⟩
          · obtain ⟨l8, vs, rfl, kp, bb, hg, ov, vk⟩ := hP
            exact hN _ _ ⟨l8, vs, rfl, kp, bb.mono (by omega), hg, ov, vk⟩
        obtain ⟨l8, vs, rfl, kp, bA, hgA, ov, vl, vk⟩ := hC
        obtain ⟨b0, b1, b2, rfl⟩ : ∃ b0 b1 b2, bs = [b0, b1, b2] := by
          match bs, bl3 with
          | [x, y, z], _ => exact ⟨x, y, z, rfl⟩
        obtain ⟨v0, v1, v2, rfl⟩ : ∃ v0 v1 v2, vs = [v0, v1, v2] := by
          match vs, vl with
          | [x, y, z], _ => exact ⟨x, y, z, rfl⟩
        obtain ⟨jC, jF⟩ := judge w1 w40 t200 hlw vk
        obtain ⟨d0, de0, gd0⟩ := (ov v0 (by simp)).sv (K := K)
        obtain ⟨d1, de1, gd1⟩ := (ov v1 (by simp)).sv (K := K)
        obtain ⟨d2, de2, gd2⟩ := (ov v2 (by simp)).sv (K := K)
        have deA : De K HA' (.ref g) (.list [d0, d1, d2]) := .lst (.inl (.inl hgA)) (.cons de0 (.cons de1 (.cons de2 .nil)))
        have gdA : Gd (2 + 1) ((200 + 1) * ([d0, d1, d2] : List PyData).length) (.list [d0, d1, d2]) := Gd.list fun d m => by
          simp only [List.mem_cons, List.mem_nil_iff, or_false] at m
          rcases m with rfl | rfl | rfl
          · exact gd0
          · exact gd1
          · exact gd2
        have hDA := kp _ _ hD9 nDb nDg
        clear vk
        refine seq_cut (fun σ' H' => ∃ (ft : Addr), σ' = [some (.ref a), some (.int i), some (.int n), some (.ref b), some (.int (0 + (j : Int))), some (.int wd), some (.ref g), some (.ref D), l8, l9, some (.str (PyData.list [d0, d1, d2]).shown), some (.ref ft), l12, l13] ∧ Ex HA' H' ∧ H' ft = some (.lst (faultS.map V.str))) (fun N hN => ?_) (fun σB HC hC => ?_)
        · walk_at "sx"
          refine reprA deA gdA (by omega) (by simp) ⟨sz_ok (by omega), fun p np => ⟨sz_ok (by omega), fun T nT => g_two upd_same ?_⟩⟩
          have e1 := Ex.new np (o := .lst [V.str (Str.ofString "number"), V.str (Str.ofString "base class"), V.str (Str.ofString "value")])
          have e2 := Ex.new nT (o := .tup [V.str (PyData.list [d0, d1, d2]).shown, V.ref p])
          exact hN _ _ ⟨p, rfl, e1.trans e2, e2 _ _ upd_same⟩
        obtain ⟨ft, rfl, eC, hft⟩ := hC
        have hDC := eC _ _ hDA
        have hgC := eC _ _ hgA
        have ovC : ∀ v ∈ ([v0, v1, v2] : List V), OV HC v := fun v m => (ov v m).ex eC
        -- what is due
        refine seq_asg (fun v H' => ∃ (dl : Addr) (rs : List Addr), v = .ref dl ∧ Ex HC H' ∧ H' dl = some (.lst (rs.map V.ref)) ∧ rs.length = 3 ∧ ∀ m r, rs[m]? = some r → H' r = some (.lst ((resS (okW m v0 v1 v2)).map V.str))) (fun R hR => ?_) (fun v HE hC => ?_)
        · walk_at "sx"
          refine ⟨sz_ok (by omega), fun p np => ⟨⟨_, .inl (.inl upd_same)⟩, fun D2 nD2 => ?_⟩⟩
          have ep := Ex.new np (o := .lst [V.int 3, V.int 2, V.int 2])
          have hp := upd_same (H := HC) (a := p) (o := .lst [V.int 3, V.int 2, V.int 2])
          generalize upd HC p (.lst [V.int 3, V.int 2, V.int 2]) = HD at ep hp nD2 ⊢
          have hDD := ep _ _ hDC
          have hftD := ep _ _ hft
          refine lc_listE (xs := [V.int 3, V.int 2, V.int 2]) (PvR HD D2 fun m => resS (okW m v0 v1 v2)) ⟨[], rfl, Ex.new nD2, upd_same, fun q r h => by simp at h⟩ (fun m H' _ hP => by obtain ⟨_, _, e, _⟩ := hP; exact .inl (.inl (e _ _ hp))) (fun m x H' hx hP => ?_) (fun H' hP => ?_)
          · have eH : Ex HD H' := by obtain ⟨_, _, e, _⟩ := hP; exact e
            have hm3 : m < 3 := (List.getElem?_eq_some_iff.mp hx).1
            obtain ⟨kx, rfl, htest⟩ := cut_test jC jF hm3 hx
            refine ⟨rfl, ?_⟩
            walk_at "sx"
            refine ⟨_, rfl, _, rfl, kx, rfl, slL (.inl (.inl (eH _ _ hDD))) fun z nz => ?_⟩
            have ez := Ex.new nz (o := .lst (cutV (([b0, b1, b2] : List Bool).map V.bl) none (some kx)))
            refine ⟨z, _, rfl, .inl (.inl (.inl upd_same)), rfl, ?_, ?_⟩
            · rw [List.all_eq_true]
              intro u hu
              obtain ⟨y, _, rfl⟩ := List.mem_map.mp (cutV_mem hu)
              rfl
            · rw [if_neg (by decide), htest]
              refine ⟨_, rfl, ?_⟩
              cases c : okW m v0 v1 v2 with
              | false =>
                rw [if_pos (by rfl)]
                refine ⟨_, rfl, hP.push nD2 ez ?_ (fun e => by rw [e, nD2] at hftD; cases hftD) (by omega)⟩
                show _ = some (HO.lst ((resS (okW m v0 v1 v2)).map V.str))
                rw [c]
                exact ez _ _ (eH _ _ hftD)
              | true =>
                rw [if_neg (by decide)]
                refine ⟨sz_ok (by omega), fun r nr => ?_⟩
                have er := Ex.new nr (o := .lst [])
                refine hP.push nD2 (ez.trans er) ?_ (fun e => ?_) (by omega)
                · show _ = some (HO.lst ((resS (okW m v0 v1 v2)).map V.str))
                  rw [c]
                  exact upd_same
                · obtain ⟨_, _, _, h2, _⟩ := id hP
                  rw [e, ez _ _ h2] at nr
                  cases nr
          · obtain ⟨rs, rl, eH, hD2, hrs⟩ := hP
            exact hR _ _ ⟨D2, rs, rfl, ep.trans eH, hD2, rl, fun q r h => (hrs q r h).2⟩
        obtain ⟨dl, rs, rfl, eE, hdl, rl3, hrs⟩ := hC
        try simp only [List.set_cons_zero, List.set_cons_succ]
        have hgE := eE _ _ hgC
        walk_at "sx"
        refine ⟨by decide, by decide, fun D3 nD3 => ?_⟩
        have ovE : ∀ v ∈ ([v0, v1, v2] : List V), OV HE v := fun v m => (ovC v m).ex eE
        refine lc_rngE (n := 3) (PvR HE D3 fun m => resS (okW m v0 v1 v2)) ⟨[], rfl, Ex.new nD3, upd_same, fun q r h => by simp at h⟩ (fun m H' hm hP => ?_) (fun HF hP => ?_)
        · have hm3 : m < 3 := hm
          have eH : Ex HE H' := by obtain ⟨_, _, e, _⟩ := hP; exact e
          refine ⟨rfl, ?_⟩
          walk_at "sx"
          refine ⟨_, rfl, _, rfl, g, m, v0, v1, v2, by rw [Int.zero_add], by omega, eH _ _ hgE, (ovE v0 (by simp)).ex eH, (ovE v1 (by simp)).ex eH, (ovE v2 (by simp)).ex eH, fun p H2 np e2 hp => ?_⟩
          refine hP.push nD3 e2 hp (fun e => ?_) (by omega)
          obtain ⟨_, _, _, h2, _⟩ := id hP
          rw [e, h2] at np
          cases np
        · obtain ⟨ts, tl3, eF, hD3, hts⟩ := hP
          obtain ⟨s1, s2⟩ := ss_ok (okW 0 v0 v1 v2) (okW 1 v0 v1 v2) (okW 2 v0 v1 v2)
          refine ⟨dSS fun m => resS (okW m v0 v1 v2), dSS fun m => resS (okW m v0 v1 v2), dp_ss hD3 tl3 fun q r h => (hts q r h).2, dp_ss (eF _ _ hdl) rl3 fun q r h => eF _ _ (hrs q r h), s1, s1, ?_⟩
          refine ⟨_, rfl, ?_⟩
          rw [show PyData.eqv (dSS fun m => resS (okW m v0 v1 v2)) (dSS fun m => resS (okW m v0 v1 v2)) = true from s2, if_neg (by decide)]
          have E := (eC.trans eE).trans eF
          refine reprA (De.ex E _ _ deA) gdA (by omega) (by simp) ?_
          refine x_neS.mpr ⟨_, rfl, ?_⟩
          rw [decide_eq_true rfl, if_neg (by decide)]
          have f6A : Fx b H6 HA' := fun x o nb h => kp x o (f9 x o nb (f8 x o nb h)) nb fun e => by rw [e, ng] at h; cases h
          exact ⟨_, _, _, _, _, _, _, _, _, _, rfl, ((f5.trans f6).trans f6A).trans (Fx.of E), (bA.ex E).mono (by omega)⟩
end
end LW

set_option Elab.async false
set_option linter.all false
set_option maxRecDepth 100000
set_option maxHeartbeats 4000000
namespace LW
open PySem PySem.Spec PyProof.Rows L2 BC Evl TR
open FM
theorem all_mk {l : PySem.W.OpenLaw} {w : World} {K : PySem.W.Frag} {h : Heap} {mg : Str → Option Value} {fa : Addr} (X : K.In h) (G : h.Ns mainGlobals mg) (hfa : mg "law" = some (.ref fa))
    {X0 : Addr} {cdX0 : ClassData}
    {X1 : Addr} {cdX1 : ClassData}
    {X2 : Addr} {cdX2 : ClassData}
    {X3 : Addr} {cdX3 : ClassData}
    {X4 : Addr} {cdX4 : ClassData}
    {X5 : Addr} {cdX5 : ClassData}
    {X6 : Addr} {cdX6 : ClassData}
    {X7 : Addr} {cdX7 : ClassData}
    {X8 : Addr} {cdX8 : ClassData}
    {X9 : Addr} {cdX9 : ClassData}
    {X10 : Addr} {cdX10 : ClassData}
    {f0 : Addr} {od0 an0 : Option Addr} {sl0 : Array (Option Value)} {oc0 kV0 dc0 pm0 cd0 ct0 : Value}
    {f1 : Addr} {od1 an1 : Option Addr} {sl1 : Array (Option Value)} {oc1 kV1 dc1 pm1 cd1 ct1 : Value}
    {f2 : Addr} {od2 an2 : Option Addr} {sl2 : Array (Option Value)} {oc2 kV2 dc2 pm2 cd2 ct2 : Value}
    {f3 : Addr} {od3 an3 : Option Addr} {sl3 : Array (Option Value)} {oc3 kV3 dc3 pm3 cd3 ct3 : Value}
    {f4 : Addr} {od4 an4 : Option Addr} {sl4 : Array (Option Value)} {oc4 kV4 dc4 pm4 cd4 ct4 : Value}
    {f5 : Addr} {od5 an5 : Option Addr} {sl5 : Array (Option Value)} {oc5 kV5 dc5 pm5 cd5 ct5 : Value}
    {f6 : Addr} {od6 an6 : Option Addr} {sl6 : Array (Option Value)} {oc6 kV6 dc6 pm6 cd6 ct6 : Value}
    {f7 : Addr} {od7 an7 : Option Addr} {sl7 : Array (Option Value)} {oc7 kV7 dc7 pm7 cd7 ct7 : Value}
    {f8 : Addr} {od8 an8 : Option Addr} {sl8 : Array (Option Value)} {oc8 kV8 dc8 pm8 cd8 ct8 : Value}
    {f9 : Addr} {od9 an9 : Option Addr} {sl9 : Array (Option Value)} {oc9 kV9 dc9 pm9 cd9 ct9 : Value}
    {f10 : Addr} {od10 an10 : Option Addr} {sl10 : Array (Option Value)} {oc10 kV10 dc10 pm10 cd10 ct10 : Value}
    {f11 : Addr} {od11 an11 : Option Addr} {sl11 : Array (Option Value)} {oc11 kV11 dc11 pm11 cd11 ct11 : Value}
    {f12 : Addr} {od12 an12 : Option Addr} {sl12 : Array (Option Value)} {oc12 kV12 dc12 pm12 cd12 ct12 : Value}
    {f13 : Addr} {od13 an13 : Option Addr} {sl13 : Array (Option Value)} {oc13 kV13 dc13 pm13 cd13 ct13 : Value}
    {f14 : Addr} {od14 an14 : Option Addr} {sl14 : Array (Option Value)} {oc14 kV14 dc14 pm14 cd14 ct14 : Value}
    {f15 : Addr} {od15 an15 : Option Addr} {sl15 : Array (Option Value)} {oc15 kV15 dc15 pm15 cd15 ct15 : Value}
    {f16 : Addr} {od16 an16 : Option Addr} {sl16 : Array (Option Value)} {oc16 kV16 dc16 pm16 cd16 ct16 : Value}
    {tt_MOST_PAGES : Tok}
    {tt_MOST_VISITS : Tok}
    (xn : PySem.W.specialIn K (.builtin "object.__class__") "__get__" = some (some (.builtin "getset_descriptor.__get__"))) (xt : PySem.W.takesIn K (.builtin "object.__class__") = some true)
    (ax0 : PySem.W.nsIn K mainGlobals "BreadcrumbsError" = some (some (.ref X0)))
    (kx0 : PySem.W.keepIn K (.ref X0) = true)
    (xx0 : PySem.W.excIn K X0 [.type "ValueError", .type "Exception", .type "BaseException", .type "object"] "ValueError.__new__" = true)
    (gx0 : PySem.W.findIn K (.ref X0) "__getattribute__" = some (some (.builtin "BaseException.__getattribute__")))
    (hx0 : PySem.W.findIn K (.ref X0) "__getattr__" = some none)
    (bx0 : PySem.W.subIn K (.ref X0) (.type "BaseException") = some true)
    (dx0 : PySem.W.hasDictIn K X0 = true)
    (cx0 : PySem.W.findIn K (.ref X0) "__class__" = some (some (.builtin "object.__class__")))
    (mx0 : PySem.W.mroIn K X0 (.type "object") = some true)
    (tx0 : PySem.W.typeIn K (.ref X0) = some (.type "type"))
    (lx0 : PySem.W.clsIn K X0 = some cdX0)
    (rx0 : cdX0.mro = [X0].map Value.ref ++ HandSPX.veTail)
    (ax1 : PySem.W.nsIn K mainGlobals "EmptyHistoryError" = some (some (.ref X1)))
    (kx1 : PySem.W.keepIn K (.ref X1) = true)
    (xx1 : PySem.W.excIn K X1 [.type "ValueError", .type "Exception", .type "BaseException", .type "object"] "ValueError.__new__" = true)
    (gx1 : PySem.W.findIn K (.ref X1) "__getattribute__" = some (some (.builtin "BaseException.__getattribute__")))
    (hx1 : PySem.W.findIn K (.ref X1) "__getattr__" = some none)
    (bx1 : PySem.W.subIn K (.ref X1) (.type "BaseException") = some true)
    (dx1 : PySem.W.hasDictIn K X1 = true)
    (cx1 : PySem.W.findIn K (.ref X1) "__class__" = some (some (.builtin "object.__class__")))
    (mx1 : PySem.W.mroIn K X1 (.type "object") = some true)
    (tx1 : PySem.W.typeIn K (.ref X1) = some (.type "type"))
    (lx1 : PySem.W.clsIn K X1 = some cdX1)
    (rx1 : cdX1.mro = [X1, X0].map Value.ref ++ HandSPX.veTail)
    (ax2 : PySem.W.nsIn K mainGlobals "InvalidEffectError" = some (some (.ref X2)))
    (kx2 : PySem.W.keepIn K (.ref X2) = true)
    (xx2 : PySem.W.excIn K X2 [.type "ValueError", .type "Exception", .type "BaseException", .type "object"] "ValueError.__new__" = true)
    (gx2 : PySem.W.findIn K (.ref X2) "__getattribute__" = some (some (.builtin "BaseException.__getattribute__")))
    (hx2 : PySem.W.findIn K (.ref X2) "__getattr__" = some none)
    (bx2 : PySem.W.subIn K (.ref X2) (.type "BaseException") = some true)
    (dx2 : PySem.W.hasDictIn K X2 = true)
    (cx2 : PySem.W.findIn K (.ref X2) "__class__" = some (some (.builtin "object.__class__")))
    (mx2 : PySem.W.mroIn K X2 (.type "object") = some true)
    (tx2 : PySem.W.typeIn K (.ref X2) = some (.type "type"))
    (lx2 : PySem.W.clsIn K X2 = some cdX2)
    (rx2 : cdX2.mro = [X2, X0].map Value.ref ++ HandSPX.veTail)
    (ax3 : PySem.W.nsIn K mainGlobals "InvalidFormatError" = some (some (.ref X3)))
    (kx3 : PySem.W.keepIn K (.ref X3) = true)
    (xx3 : PySem.W.excIn K X3 [.type "ValueError", .type "Exception", .type "BaseException", .type "object"] "ValueError.__new__" = true)
    (gx3 : PySem.W.findIn K (.ref X3) "__getattribute__" = some (some (.builtin "BaseException.__getattribute__")))
    (hx3 : PySem.W.findIn K (.ref X3) "__getattr__" = some none)
    (bx3 : PySem.W.subIn K (.ref X3) (.type "BaseException") = some true)
    (dx3 : PySem.W.hasDictIn K X3 = true)
    (cx3 : PySem.W.findIn K (.ref X3) "__class__" = some (some (.builtin "object.__class__")))
    (mx3 : PySem.W.mroIn K X3 (.type "object") = some true)
    (tx3 : PySem.W.typeIn K (.ref X3) = some (.type "type"))
    (lx3 : PySem.W.clsIn K X3 = some cdX3)
    (rx3 : cdX3.mro = [X3, X0].map Value.ref ++ HandSPX.veTail)
    (ax4 : PySem.W.nsIn K mainGlobals "InvalidLengthsError" = some (some (.ref X4)))
    (kx4 : PySem.W.keepIn K (.ref X4) = true)
    (xx4 : PySem.W.excIn K X4 [.type "ValueError", .type "Exception", .type "BaseException", .type "object"] "ValueError.__new__" = true)
    (gx4 : PySem.W.findIn K (.ref X4) "__getattribute__" = some (some (.builtin "BaseException.__getattribute__")))
    (hx4 : PySem.W.findIn K (.ref X4) "__getattr__" = some none)
    (bx4 : PySem.W.subIn K (.ref X4) (.type "BaseException") = some true)
    (dx4 : PySem.W.hasDictIn K X4 = true)
    (cx4 : PySem.W.findIn K (.ref X4) "__class__" = some (some (.builtin "object.__class__")))
    (mx4 : PySem.W.mroIn K X4 (.type "object") = some true)
    (tx4 : PySem.W.typeIn K (.ref X4) = some (.type "type"))
    (lx4 : PySem.W.clsIn K X4 = some cdX4)
    (rx4 : cdX4.mro = [X4, X0].map Value.ref ++ HandSPX.veTail)
    (ax5 : PySem.W.nsIn K mainGlobals "InvalidNumberError" = some (some (.ref X5)))
    (kx5 : PySem.W.keepIn K (.ref X5) = true)
    (xx5 : PySem.W.excIn K X5 [.type "ValueError", .type "Exception", .type "BaseException", .type "object"] "ValueError.__new__" = true)
    (gx5 : PySem.W.findIn K (.ref X5) "__getattribute__" = some (some (.builtin "BaseException.__getattribute__")))
    (hx5 : PySem.W.findIn K (.ref X5) "__getattr__" = some none)
    (bx5 : PySem.W.subIn K (.ref X5) (.type "BaseException") = some true)
    (dx5 : PySem.W.hasDictIn K X5 = true)
    (cx5 : PySem.W.findIn K (.ref X5) "__class__" = some (some (.builtin "object.__class__")))
    (mx5 : PySem.W.mroIn K X5 (.type "object") = some true)
    (tx5 : PySem.W.typeIn K (.ref X5) = some (.type "type"))
    (lx5 : PySem.W.clsIn K X5 = some cdX5)
    (rx5 : cdX5.mro = [X5, X0].map Value.ref ++ HandSPX.veTail)
    (ax6 : PySem.W.nsIn K mainGlobals "InvalidPageError" = some (some (.ref X6)))
    (kx6 : PySem.W.keepIn K (.ref X6) = true)
    (xx6 : PySem.W.excIn K X6 [.type "ValueError", .type "Exception", .type "BaseException", .type "object"] "ValueError.__new__" = true)
    (gx6 : PySem.W.findIn K (.ref X6) "__getattribute__" = some (some (.builtin "BaseException.__getattribute__")))
    (hx6 : PySem.W.findIn K (.ref X6) "__getattr__" = some none)
    (bx6 : PySem.W.subIn K (.ref X6) (.type "BaseException") = some true)
    (dx6 : PySem.W.hasDictIn K X6 = true)
    (cx6 : PySem.W.findIn K (.ref X6) "__class__" = some (some (.builtin "object.__class__")))
    (mx6 : PySem.W.mroIn K X6 (.type "object") = some true)
    (tx6 : PySem.W.typeIn K (.ref X6) = some (.type "type"))
    (lx6 : PySem.W.clsIn K X6 = some cdX6)
    (rx6 : cdX6.mro = [X6, X0].map Value.ref ++ HandSPX.veTail)
    (ax7 : PySem.W.nsIn K mainGlobals "InvalidPagesError" = some (some (.ref X7)))
    (kx7 : PySem.W.keepIn K (.ref X7) = true)
    (xx7 : PySem.W.excIn K X7 [.type "ValueError", .type "Exception", .type "BaseException", .type "object"] "ValueError.__new__" = true)
    (gx7 : PySem.W.findIn K (.ref X7) "__getattribute__" = some (some (.builtin "BaseException.__getattribute__")))
    (hx7 : PySem.W.findIn K (.ref X7) "__getattr__" = some none)
    (bx7 : PySem.W.subIn K (.ref X7) (.type "BaseException") = some true)
    (dx7 : PySem.W.hasDictIn K X7 = true)
    (cx7 : PySem.W.findIn K (.ref X7) "__class__" = some (some (.builtin "object.__class__")))
    (mx7 : PySem.W.mroIn K X7 (.type "object") = some true)
    (tx7 : PySem.W.typeIn K (.ref X7) = some (.type "type"))
    (lx7 : PySem.W.clsIn K X7 = some cdX7)
    (rx7 : cdX7.mro = [X7, X0].map Value.ref ++ HandSPX.veTail)
    (ax8 : PySem.W.nsIn K mainGlobals "InvalidSiteError" = some (some (.ref X8)))
    (kx8 : PySem.W.keepIn K (.ref X8) = true)
    (xx8 : PySem.W.excIn K X8 [.type "ValueError", .type "Exception", .type "BaseException", .type "object"] "ValueError.__new__" = true)
    (gx8 : PySem.W.findIn K (.ref X8) "__getattribute__" = some (some (.builtin "BaseException.__getattribute__")))
    (hx8 : PySem.W.findIn K (.ref X8) "__getattr__" = some none)
    (bx8 : PySem.W.subIn K (.ref X8) (.type "BaseException") = some true)
    (dx8 : PySem.W.hasDictIn K X8 = true)
    (cx8 : PySem.W.findIn K (.ref X8) "__class__" = some (some (.builtin "object.__class__")))
    (mx8 : PySem.W.mroIn K X8 (.type "object") = some true)
    (tx8 : PySem.W.typeIn K (.ref X8) = some (.type "type"))
    (lx8 : PySem.W.clsIn K X8 = some cdX8)
    (rx8 : cdX8.mro = [X8, X0].map Value.ref ++ HandSPX.veTail)
    (ax9 : PySem.W.nsIn K mainGlobals "InvalidTrailError" = some (some (.ref X9)))
    (kx9 : PySem.W.keepIn K (.ref X9) = true)
    (xx9 : PySem.W.excIn K X9 [.type "ValueError", .type "Exception", .type "BaseException", .type "object"] "ValueError.__new__" = true)
    (gx9 : PySem.W.findIn K (.ref X9) "__getattribute__" = some (some (.builtin "BaseException.__getattribute__")))
    (hx9 : PySem.W.findIn K (.ref X9) "__getattr__" = some none)
    (bx9 : PySem.W.subIn K (.ref X9) (.type "BaseException") = some true)
    (dx9 : PySem.W.hasDictIn K X9 = true)
    (cx9 : PySem.W.findIn K (.ref X9) "__class__" = some (some (.builtin "object.__class__")))
    (mx9 : PySem.W.mroIn K X9 (.type "object") = some true)
    (tx9 : PySem.W.typeIn K (.ref X9) = some (.type "type"))
    (lx9 : PySem.W.clsIn K X9 = some cdX9)
    (rx9 : cdX9.mro = [X9, X0].map Value.ref ++ HandSPX.veTail)
    (ax10 : PySem.W.nsIn K mainGlobals "InvalidVisitsError" = some (some (.ref X10)))
    (kx10 : PySem.W.keepIn K (.ref X10) = true)
    (xx10 : PySem.W.excIn K X10 [.type "ValueError", .type "Exception", .type "BaseException", .type "object"] "ValueError.__new__" = true)
    (gx10 : PySem.W.findIn K (.ref X10) "__getattribute__" = some (some (.builtin "BaseException.__getattribute__")))
    (hx10 : PySem.W.findIn K (.ref X10) "__getattr__" = some none)
    (bx10 : PySem.W.subIn K (.ref X10) (.type "BaseException") = some true)
    (dx10 : PySem.W.hasDictIn K X10 = true)
    (cx10 : PySem.W.findIn K (.ref X10) "__class__" = some (some (.builtin "object.__class__")))
    (mx10 : PySem.W.mroIn K X10 (.type "object") = some true)
    (tx10 : PySem.W.typeIn K (.ref X10) = some (.type "type"))
    (lx10 : PySem.W.clsIn K X10 = some cdX10)
    (rx10 : cdX10.mro = [X10, X0].map Value.ref ++ HandSPX.veTail)
    (ndx : [X0, X1, X2, X3, X4, X5, X6, X7, X8, X9, X10].Nodup)
    (a0 : PySem.W.nsIn K mainGlobals "is_integer" = some (some (.ref f0))) (l0 : K.lookup f0 = some ⟨oc0, od0, .func (PySem.W.fnOf "is_integer" "is_integer" (defArgs s_is_integer) (defBody s_is_integer) (defScope s_is_integer) .none kV0 dc0 pm0 an0 cd0 ct0), sl0⟩) (c0 : PySem.W.codeIn K cd0 "is_integer" = true) (k0 : PySem.W.keepIn K (.ref f0) = true)
    (a1 : PySem.W.nsIn K mainGlobals "check_number" = some (some (.ref f1))) (l1 : K.lookup f1 = some ⟨oc1, od1, .func (PySem.W.fnOf "check_number" "check_number" (defArgs s_check_number) (defBody s_check_number) (defScope s_check_number) .none kV1 dc1 pm1 an1 cd1 ct1), sl1⟩) (c1 : PySem.W.codeIn K cd1 "check_number" = true) (k1 : PySem.W.keepIn K (.ref f1) = true)
    (a2 : PySem.W.nsIn K mainGlobals "check_free" = some (some (.ref f2))) (l2 : K.lookup f2 = some ⟨oc2, od2, .func (PySem.W.fnOf "check_free" "check_free" (defArgs s_check_free) (defBody s_check_free) (defScope s_check_free) .none kV2 dc2 pm2 an2 cd2 ct2), sl2⟩) (c2 : PySem.W.codeIn K cd2 "check_free" = true) (k2 : PySem.W.keepIn K (.ref f2) = true)
    (a3 : PySem.W.nsIn K mainGlobals "counts_after" = some (some (.ref f3))) (l3 : K.lookup f3 = some ⟨oc3, od3, .func (PySem.W.fnOf "counts_after" "counts_after" (defArgs s_counts_after) (defBody s_counts_after) (defScope s_counts_after) .none kV3 dc3 pm3 an3 cd3 ct3), sl3⟩) (c3 : PySem.W.codeIn K cd3 "counts_after" = true) (k3 : PySem.W.keepIn K (.ref f3) = true)
    (a4 : PySem.W.nsIn K mainGlobals "counts_of" = some (some (.ref f4))) (l4 : K.lookup f4 = some ⟨oc4, od4, .func (PySem.W.fnOf "counts_of" "counts_of" (defArgs s_counts_of) (defBody s_counts_of) (defScope s_counts_of) .none kV4 dc4 pm4 an4 cd4 ct4), sl4⟩) (c4 : PySem.W.codeIn K cd4 "counts_of" = true) (k4 : PySem.W.keepIn K (.ref f4) = true)
    (a5 : PySem.W.nsIn K mainGlobals "all_by_length" = some (some (.ref f5))) (l5 : K.lookup f5 = some ⟨oc5, od5, .func (PySem.W.fnOf "all_by_length" "all_by_length" (defArgs s_all_by_length) (defBody s_all_by_length) (defScope s_all_by_length) .none kV5 dc5 pm5 an5 cd5 ct5), sl5⟩) (c5 : PySem.W.codeIn K cd5 "all_by_length" = true) (k5 : PySem.W.keepIn K (.ref f5) = true)
    (a6 : PySem.W.nsIn K mainGlobals "common_divisor" = some (some (.ref f6))) (l6 : K.lookup f6 = some ⟨oc6, od6, .func (PySem.W.fnOf "common_divisor" "common_divisor" (defArgs s_common_divisor) (defBody s_common_divisor) (defScope s_common_divisor) .none kV6 dc6 pm6 an6 cd6 ct6), sl6⟩) (c6 : PySem.W.codeIn K cd6 "common_divisor" = true) (k6 : PySem.W.keepIn K (.ref f6) = true)
    (a7 : PySem.W.nsIn K mainGlobals "count_free" = some (some (.ref f7))) (l7 : K.lookup f7 = some ⟨oc7, od7, .func (PySem.W.fnOf "count_free" "count_free" (defArgs s_count_free) (defBody s_count_free) (defScope s_count_free) .none kV7 dc7 pm7 an7 cd7 ct7), sl7⟩) (c7 : PySem.W.codeIn K cd7 "count_free" = true) (k7 : PySem.W.keepIn K (.ref f7) = true)
    (a8 : PySem.W.nsIn K mainGlobals "free_by_length" = some (some (.ref f8))) (l8 : K.lookup f8 = some ⟨oc8, od8, .func (PySem.W.fnOf "free_by_length" "free_by_length" (defArgs s_free_by_length) (defBody s_free_by_length) (defScope s_free_by_length) .none kV8 dc8 pm8 an8 cd8 ct8), sl8⟩) (c8 : PySem.W.codeIn K cd8 "free_by_length" = true) (k8 : PySem.W.keepIn K (.ref f8) = true)
    (a9 : PySem.W.nsIn K mainGlobals "mean_length" = some (some (.ref f9))) (l9 : K.lookup f9 = some ⟨oc9, od9, .func (PySem.W.fnOf "mean_length" "mean_length" (defArgs s_mean_length) (defBody s_mean_length) (defScope s_mean_length) .none kV9 dc9 pm9 an9 cd9 ct9), sl9⟩) (c9 : PySem.W.codeIn K cd9 "mean_length" = true) (k9 : PySem.W.keepIn K (.ref f9) = true)
    (a10 : PySem.W.nsIn K mainGlobals "_law_bag" = some (some (.ref f10))) (l10 : K.lookup f10 = some ⟨oc10, od10, .func (PySem.W.fnOf "_law_bag" "_law_bag" (defArgs s_law_bag) (defBody s_law_bag) (defScope s_law_bag) .none kV10 dc10 pm10 an10 cd10 ct10), sl10⟩) (c10 : PySem.W.codeIn K cd10 "_law_bag" = true) (k10 : PySem.W.keepIn K (.ref f10) = true)
    (a11 : PySem.W.nsIn K mainGlobals "_law_draw" = some (some (.ref f11))) (l11 : K.lookup f11 = some ⟨oc11, od11, .func (PySem.W.fnOf "_law_draw" "_law_draw" (defArgs s_law_draw) (defBody s_law_draw) (defScope s_law_draw) .none kV11 dc11 pm11 an11 cd11 ct11), sl11⟩) (c11 : PySem.W.codeIn K cd11 "_law_draw" = true) (k11 : PySem.W.keepIn K (.ref f11) = true)
    (a12 : PySem.W.nsIn K mainGlobals "_law_error_names" = some (some (.ref f12))) (l12 : K.lookup f12 = some ⟨oc12, od12, .func (PySem.W.fnOf "_law_error_names" "_law_error_names" (defArgs s_law_error_names) (defBody s_law_error_names) (defScope s_law_error_names) .none kV12 dc12 pm12 an12 cd12 ct12), sl12⟩) (c12 : PySem.W.codeIn K cd12 "_law_error_names" = true) (k12 : PySem.W.keepIn K (.ref f12) = true)
    (a13 : PySem.W.nsIn K mainGlobals "_law_no_number" = some (some (.ref f13))) (l13 : K.lookup f13 = some ⟨oc13, od13, .func (PySem.W.fnOf "_law_no_number" "_law_no_number" (defArgs s_law_no_number) (defBody s_law_no_number) (defScope s_law_no_number) .none kV13 dc13 pm13 an13 cd13 ct13), sl13⟩) (c13 : PySem.W.codeIn K cd13 "_law_no_number" = true) (k13 : PySem.W.keepIn K (.ref f13) = true)
    (a14 : PySem.W.nsIn K mainGlobals "_law_is_fine" = some (some (.ref f14))) (l14 : K.lookup f14 = some ⟨oc14, od14, .func (PySem.W.fnOf "_law_is_fine" "_law_is_fine" (defArgs s_law_is_fine) (defBody s_law_is_fine) (defScope s_law_is_fine) .none kV14 dc14 pm14 an14 cd14 ct14), sl14⟩) (c14 : PySem.W.codeIn K cd14 "_law_is_fine" = true) (k14 : PySem.W.keepIn K (.ref f14) = true)
    (a15 : PySem.W.nsIn K mainGlobals "_law_raised" = some (some (.ref f15))) (l15 : K.lookup f15 = some ⟨oc15, od15, .func (PySem.W.fnOf "_law_raised" "_law_raised" (defArgs s_law_raised) (defBody s_law_raised) (defScope s_law_raised) .none kV15 dc15 pm15 an15 cd15 ct15), sl15⟩) (c15 : PySem.W.codeIn K cd15 "_law_raised" = true) (k15 : PySem.W.keepIn K (.ref f15) = true)
    (a16 : PySem.W.nsIn K mainGlobals "law" = some (some (.ref f16))) (l16 : K.lookup f16 = some ⟨oc16, od16, .func (PySem.W.fnOf "law" "law" (defArgs s_law) (defBody s_law) (defScope s_law) .none kV16 dc16 pm16 an16 cd16 ct16), sl16⟩) (c16 : PySem.W.codeIn K cd16 "law" = true) (k16 : PySem.W.keepIn K (.ref f16) = true)
    (q_MOST_PAGES : PySem.W.nsIn K mainGlobals "MOST_PAGES" = some (some (.int 40 tt_MOST_PAGES)))
    (q_MOST_VISITS : PySem.W.nsIn K mainGlobals "MOST_VISITS" = some (some (.int 200 tt_MOST_VISITS)))
    (z_ValueError : PySem.W.nsIn K mainGlobals "ValueError" = some none)
    (z_bool : PySem.W.nsIn K mainGlobals "bool" = some none)
    (z_enumerate : PySem.W.nsIn K mainGlobals "enumerate" = some none)
    (z_int : PySem.W.nsIn K mainGlobals "int" = some none)
    (z_isinstance : PySem.W.nsIn K mainGlobals "isinstance" = some none)
    (z_len : PySem.W.nsIn K mainGlobals "len" = some none)
    (z_max : PySem.W.nsIn K mainGlobals "max" = some none)
    (z_range : PySem.W.nsIn K mainGlobals "range" = some none)
    (z_repr : PySem.W.nsIn K mainGlobals "repr" = some none)
    (z_sum : PySem.W.nsIn K mainGlobals "sum" = some none) :
    ∃ fd : FuncData, (∀ (s : Shared) (v : Value), BindsTo s fd ⟨[v], []⟩ [("_law_script", v)]) ∧ ∀ base : Heap, K.In base → base.Ns mainGlobals mg → FnG l.prog w K mg base CX0 6 fa fd ["_law_script"] (spLaw K) := by
  have e := hfa.symm.trans (PySem.W.mg_of X G a16)
  cases e
  let T : Txt K mg := ⟨X0, PySem.W.mg_of X G ax0, kx0, xx0, ⟨gx0, hx0, bx0, dx0, cx0, xn, xt, mx0⟩, tx0, bx0, ⟨cdX0, lx0, rx0⟩,
    X1, PySem.W.mg_of X G ax1, kx1, xx1, ⟨gx1, hx1, bx1, dx1, cx1, xn, xt, mx1⟩, tx1, bx1, ⟨cdX1, lx1, rx1⟩,
    X2, PySem.W.mg_of X G ax2, kx2, xx2, ⟨gx2, hx2, bx2, dx2, cx2, xn, xt, mx2⟩, tx2, bx2, ⟨cdX2, lx2, rx2⟩,
    X3, PySem.W.mg_of X G ax3, kx3, xx3, ⟨gx3, hx3, bx3, dx3, cx3, xn, xt, mx3⟩, tx3, bx3, ⟨cdX3, lx3, rx3⟩,
    X4, PySem.W.mg_of X G ax4, kx4, xx4, ⟨gx4, hx4, bx4, dx4, cx4, xn, xt, mx4⟩, tx4, bx4, ⟨cdX4, lx4, rx4⟩,
    X5, PySem.W.mg_of X G ax5, kx5, xx5, ⟨gx5, hx5, bx5, dx5, cx5, xn, xt, mx5⟩, tx5, bx5, ⟨cdX5, lx5, rx5⟩,
    X6, PySem.W.mg_of X G ax6, kx6, xx6, ⟨gx6, hx6, bx6, dx6, cx6, xn, xt, mx6⟩, tx6, bx6, ⟨cdX6, lx6, rx6⟩,
    X7, PySem.W.mg_of X G ax7, kx7, xx7, ⟨gx7, hx7, bx7, dx7, cx7, xn, xt, mx7⟩, tx7, bx7, ⟨cdX7, lx7, rx7⟩,
    X8, PySem.W.mg_of X G ax8, kx8, xx8, ⟨gx8, hx8, bx8, dx8, cx8, xn, xt, mx8⟩, tx8, bx8, ⟨cdX8, lx8, rx8⟩,
    X9, PySem.W.mg_of X G ax9, kx9, xx9, ⟨gx9, hx9, bx9, dx9, cx9, xn, xt, mx9⟩, tx9, bx9, ⟨cdX9, lx9, rx9⟩,
    X10, PySem.W.mg_of X G ax10, kx10, xx10, ⟨gx10, hx10, bx10, dx10, cx10, xn, xt, mx10⟩, tx10, bx10, ⟨cdX10, lx10, rx10⟩,
    ndx,
    f0, _, fun_mk (st := s_is_integer) l0 c0 k0, PySem.W.mg_of X G a0, (fun_mk (st := s_is_integer) l0 c0 k0).binds fun _ _ _ _ _ _ us hl => match us, hl with | [_, _, _], _ => rfl,
    f1, _, fun_mk (st := s_check_number) l1 c1 k1, PySem.W.mg_of X G a1, (fun_mk (st := s_check_number) l1 c1 k1).binds fun _ _ _ _ _ _ us hl => match us, hl with | [_, _, _], _ => rfl,
    f2, _, fun_mk (st := s_check_free) l2 c2 k2, PySem.W.mg_of X G a2, (fun_mk (st := s_check_free) l2 c2 k2).binds fun _ _ _ _ _ _ us hl => match us, hl with | [_, _], _ => rfl,
    f3, _, fun_mk (st := s_counts_after) l3 c3 k3, PySem.W.mg_of X G a3, (fun_mk (st := s_counts_after) l3 c3 k3).binds fun _ _ _ _ _ _ us hl => match us, hl with | [_, _], _ => rfl,
    f4, _, fun_mk (st := s_counts_of) l4 c4 k4, PySem.W.mg_of X G a4, (fun_mk (st := s_counts_of) l4 c4 k4).binds fun _ _ _ _ _ _ us hl => match us, hl with | [_, _], _ => rfl,
    f5, _, fun_mk (st := s_all_by_length) l5 c5 k5, PySem.W.mg_of X G a5, (fun_mk (st := s_all_by_length) l5 c5 k5).binds fun _ _ _ _ _ _ us hl => match us, hl with | [_, _], _ => rfl,
    f6, _, fun_mk (st := s_common_divisor) l6 c6 k6, PySem.W.mg_of X G a6, (fun_mk (st := s_common_divisor) l6 c6 k6).binds fun _ _ _ _ _ _ us hl => match us, hl with | [_, _], _ => rfl,
    f7, _, fun_mk (st := s_count_free) l7 c7 k7, PySem.W.mg_of X G a7, (fun_mk (st := s_count_free) l7 c7 k7).binds fun _ _ _ _ _ _ us hl => match us, hl with | [_, _, _], _ => rfl,
    f8, _, fun_mk (st := s_free_by_length) l8 c8 k8, PySem.W.mg_of X G a8, (fun_mk (st := s_free_by_length) l8 c8 k8).binds fun _ _ _ _ _ _ us hl => match us, hl with | [_, _], _ => rfl,
    f9, _, fun_mk (st := s_mean_length) l9 c9 k9, PySem.W.mg_of X G a9, (fun_mk (st := s_mean_length) l9 c9 k9).binds fun _ _ _ _ _ _ us hl => match us, hl with | [_, _], _ => rfl,
    f10, _, fun_mk (st := s_law_bag) l10 c10 k10, PySem.W.mg_of X G a10, (fun_mk (st := s_law_bag) l10 c10 k10).binds fun _ _ _ _ _ _ us hl => match us, hl with | [_], _ => rfl,
    f11, _, fun_mk (st := s_law_draw) l11 c11 k11, PySem.W.mg_of X G a11, (fun_mk (st := s_law_draw) l11 c11 k11).binds fun _ _ _ _ _ _ us hl => match us, hl with | [_, _], _ => rfl,
    f12, _, fun_mk (st := s_law_error_names) l12 c12 k12, PySem.W.mg_of X G a12, (fun_mk (st := s_law_error_names) l12 c12 k12).binds fun _ _ _ _ _ _ us hl => match us, hl with | [_], _ => rfl,
    f13, _, fun_mk (st := s_law_no_number) l13 c13 k13, PySem.W.mg_of X G a13, (fun_mk (st := s_law_no_number) l13 c13 k13).binds fun _ _ _ _ _ _ us hl => match us, hl with | [_, _, _], _ => rfl,
    f14, _, fun_mk (st := s_law_is_fine) l14 c14 k14, PySem.W.mg_of X G a14, (fun_mk (st := s_law_is_fine) l14 c14 k14).binds fun _ _ _ _ _ _ us hl => match us, hl with | [_, _, _], _ => rfl,
    f15, _, fun_mk (st := s_law_raised) l15 c15 k15, PySem.W.mg_of X G a15, (fun_mk (st := s_law_raised) l15 c15 k15).binds fun _ _ _ _ _ _ us hl => match us, hl with | [_, _], _ => rfl,
    fa, _, fun_mk (st := s_law) l16 c16 k16, PySem.W.mg_of X G a16, (fun_mk (st := s_law) l16 c16 k16).binds fun _ _ _ _ _ _ us hl => match us, hl with | [_], _ => rfl,
    BC.Fun.kb (fun_mk (st := s_count_free) l7 c7 k7) fun _ _ _ _ _ _ us ws h1 h2 => match us, h1, ws, h2 with | [], _, [_, _, _], _ => rfl,
    BC.Fun.kb (fun_mk (st := s_free_by_length) l8 c8 k8) fun _ _ _ _ _ _ us ws h1 h2 => match us, h1, ws, h2 with | [], _, [_, _], _ => rfl,
    BC.Fun.kb (fun_mk (st := s_mean_length) l9 c9 k9) fun _ _ _ _ _ _ us ws h1 h2 => match us, h1, ws, h2 with | [], _, [_, _], _ => rfl,
    tt_MOST_PAGES, PySem.W.mg_of X G q_MOST_PAGES,
    tt_MOST_VISITS, PySem.W.mg_of X G q_MOST_VISITS,
    PySem.W.mg_none_of X G z_ValueError,
    PySem.W.mg_none_of X G z_bool,
    PySem.W.mg_none_of X G z_enumerate,
    PySem.W.mg_none_of X G z_int,
    PySem.W.mg_none_of X G z_isinstance,
    PySem.W.mg_none_of X G z_len,
    PySem.W.mg_none_of X G z_max,
    PySem.W.mg_none_of X G z_range,
    PySem.W.mg_none_of X G z_repr,
    PySem.W.mg_none_of X G z_sum⟩
  exact ⟨T.fd_law, fun s v => .of_eq rfl, fun base _ _ => ok_law T⟩

end LW
open PySem PySem.W PyProof.Rows
set_option maxHeartbeats 0 in
theorem PySem.Challenge.cw_breadcrumbs_k61_free_visits_errors_holds : PySem.Challenge.rw_breadcrumbs_k61_free_visits_errors.Holds := by
  w_on; o_law; k_head; (case hw => w_witness2)
  k_fill
  refine BC.walk_G (l := PySem.Challenge.rw_breadcrumbs_k61_free_visits_errors) (n := 63) (k := 6) (x := "_law_script") (sp := fun w => LW.spLaw _) rfl (by decide) rfl ⟨rfl, by decide, by decide⟩ (fun w h Y => PySem.W.kIn_of Y) ?F (fun w H a ns hl hS => ⟨a, ns, rfl, hS, hl, fun _ => rfl⟩)
  case F =>
    intro w mg fa h KX G hmg
    refine' LW.all_mk KX G hmg ?xn ?xt ?ax0 ?kx0 ?xx0 ?gx0 ?hx0 ?bx0 ?dx0 ?cx0 ?mx0 ?tx0 ?lx0 ?rx0 ?ax1 ?kx1 ?xx1 ?gx1 ?hx1 ?bx1 ?dx1 ?cx1 ?mx1 ?tx1 ?lx1 ?rx1 ?ax2 ?kx2 ?xx2 ?gx2 ?hx2 ?bx2 ?dx2 ?cx2 ?mx2 ?tx2 ?lx2 ?rx2 ?ax3 ?kx3 ?xx3 ?gx3 ?hx3 ?bx3 ?dx3 ?cx3 ?mx3 ?tx3 ?lx3 ?rx3 ?ax4 ?kx4 ?xx4 ?gx4 ?hx4 ?bx4 ?dx4 ?cx4 ?mx4 ?tx4 ?lx4 ?rx4 ?ax5 ?kx5 ?xx5 ?gx5 ?hx5 ?bx5 ?dx5 ?cx5 ?mx5 ?tx5 ?lx5 ?rx5 ?ax6 ?kx6 ?xx6 ?gx6 ?hx6 ?bx6 ?dx6 ?cx6 ?mx6 ?tx6 ?lx6 ?rx6 ?ax7 ?kx7 ?xx7 ?gx7 ?hx7 ?bx7 ?dx7 ?cx7 ?mx7 ?tx7 ?lx7 ?rx7 ?ax8 ?kx8 ?xx8 ?gx8 ?hx8 ?bx8 ?dx8 ?cx8 ?mx8 ?tx8 ?lx8 ?rx8 ?ax9 ?kx9 ?xx9 ?gx9 ?hx9 ?bx9 ?dx9 ?cx9 ?mx9 ?tx9 ?lx9 ?rx9 ?ax10 ?kx10 ?xx10 ?gx10 ?hx10 ?bx10 ?dx10 ?cx10 ?mx10 ?tx10 ?lx10 ?rx10 ?ndx ?a0 ?l0 ?c0 ?k0 ?a1 ?l1 ?c1 ?k1 ?a2 ?l2 ?c2 ?k2 ?a3 ?l3 ?c3 ?k3 ?a4 ?l4 ?c4 ?k4 ?a5 ?l5 ?c5 ?k5 ?a6 ?l6 ?c6 ?k6 ?a7 ?l7 ?c7 ?k7 ?a8 ?l8 ?c8 ?k8 ?a9 ?l9 ?c9 ?k9 ?a10 ?l10 ?c10 ?k10 ?a11 ?l11 ?c11 ?k11 ?a12 ?l12 ?c12 ?k12 ?a13 ?l13 ?c13 ?k13 ?a14 ?l14 ?c14 ?k14 ?a15 ?l15 ?c15 ?k15 ?a16 ?l16 ?c16 ?k16 ?q_MOST_PAGES ?q_MOST_VISITS ?z_ValueError ?z_bool ?z_enumerate ?z_int ?z_isinstance ?z_len ?z_max ?z_range ?z_repr ?z_sum
    (case xn => k_is); (case xt => k_is); (case ax0 => k_is); (case kx0 => k_is); (case xx0 => k_exc); (case gx0 => k_is); (case hx0 => k_is); (case bx0 => k_is); (case dx0 => k_is); (case cx0 => k_is); (case mx0 => k_is); (case tx0 => k_is); (case lx0 => k_is); (case rx0 => rfl); (case ax1 => k_is); (case kx1 => k_is); (case xx1 => k_exc); (case gx1 => k_is); (case hx1 => k_is); (case bx1 => k_is); (case dx1 => k_is); (case cx1 => k_is); (case mx1 => k_is); (case tx1 => k_is); (case lx1 => k_is); (case rx1 => rfl); (case ax2 => k_is); (case kx2 => k_is); (case xx2 => k_exc); (case gx2 => k_is); (case hx2 => k_is); (case bx2 => k_is); (case dx2 => k_is); (case cx2 => k_is); (case mx2 => k_is); (case tx2 => k_is); (case lx2 => k_is); (case rx2 => rfl); (case ax3 => k_is); (case kx3 => k_is); (case xx3 => k_exc); (case gx3 => k_is); (case hx3 => k_is); (case bx3 => k_is); (case dx3 => k_is); (case cx3 => k_is); (case mx3 => k_is); (case tx3 => k_is); (case lx3 => k_is); (case rx3 => rfl); (case ax4 => k_is); (case kx4 => k_is); (case xx4 => k_exc); (case gx4 => k_is); (case hx4 => k_is); (case bx4 => k_is); (case dx4 => k_is); (case cx4 => k_is); (case mx4 => k_is); (case tx4 => k_is); (case lx4 => k_is); (case rx4 => rfl); (case ax5 => k_is); (case kx5 => k_is); (case xx5 => k_exc); (case gx5 => k_is); (case hx5 => k_is); (case bx5 => k_is); (case dx5 => k_is); (case cx5 => k_is); (case mx5 => k_is); (case tx5 => k_is); (case lx5 => k_is); (case rx5 => rfl); (case ax6 => k_is); (case kx6 => k_is); (case xx6 => k_exc); (case gx6 => k_is); (case hx6 => k_is); (case bx6 => k_is); (case dx6 => k_is); (case cx6 => k_is); (case mx6 => k_is); (case tx6 => k_is); (case lx6 => k_is); (case rx6 => rfl); (case ax7 => k_is); (case kx7 => k_is); (case xx7 => k_exc); (case gx7 => k_is); (case hx7 => k_is); (case bx7 => k_is); (case dx7 => k_is); (case cx7 => k_is); (case mx7 => k_is); (case tx7 => k_is); (case lx7 => k_is); (case rx7 => rfl); (case ax8 => k_is); (case kx8 => k_is); (case xx8 => k_exc); (case gx8 => k_is); (case hx8 => k_is); (case bx8 => k_is); (case dx8 => k_is); (case cx8 => k_is); (case mx8 => k_is); (case tx8 => k_is); (case lx8 => k_is); (case rx8 => rfl); (case ax9 => k_is); (case kx9 => k_is); (case xx9 => k_exc); (case gx9 => k_is); (case hx9 => k_is); (case bx9 => k_is); (case dx9 => k_is); (case cx9 => k_is); (case mx9 => k_is); (case tx9 => k_is); (case lx9 => k_is); (case rx9 => rfl); (case ax10 => k_is); (case kx10 => k_is); (case xx10 => k_exc); (case gx10 => k_is); (case hx10 => k_is); (case bx10 => k_is); (case dx10 => k_is); (case cx10 => k_is); (case mx10 => k_is); (case tx10 => k_is); (case lx10 => k_is); (case rx10 => rfl); (case ndx => decide); (case a0 => k_is); (case l0 => k_is); (case c0 => k_is); (case k0 => k_is); (case a1 => k_is); (case l1 => k_is); (case c1 => k_is); (case k1 => k_is); (case a2 => k_is); (case l2 => k_is); (case c2 => k_is); (case k2 => k_is); (case a3 => k_is); (case l3 => k_is); (case c3 => k_is); (case k3 => k_is); (case a4 => k_is); (case l4 => k_is); (case c4 => k_is); (case k4 => k_is); (case a5 => k_is); (case l5 => k_is); (case c5 => k_is); (case k5 => k_is); (case a6 => k_is); (case l6 => k_is); (case c6 => k_is); (case k6 => k_is); (case a7 => k_is); (case l7 => k_is); (case c7 => k_is); (case k7 => k_is); (case a8 => k_is); (case l8 => k_is); (case c8 => k_is); (case k8 => k_is); (case a9 => k_is); (case l9 => k_is); (case c9 => k_is); (case k9 => k_is); (case a10 => k_is); (case l10 => k_is); (case c10 => k_is); (case k10 => k_is); (case a11 => k_is); (case l11 => k_is); (case c11 => k_is); (case k11 => k_is); (case a12 => k_is); (case l12 => k_is); (case c12 => k_is); (case k12 => k_is); (case a13 => k_is); (case l13 => k_is); (case c13 => k_is); (case k13 => k_is); (case a14 => k_is); (case l14 => k_is); (case c14 => k_is); (case k14 => k_is); (case a15 => k_is); (case l15 => k_is); (case c15 => k_is); (case k15 => k_is); (case a16 => k_is); (case l16 => k_is); (case c16 => k_is); (case k16 => k_is); (case q_MOST_PAGES => k_is); (case q_MOST_VISITS => k_is); (case z_ValueError => k_is); (case z_bool => k_is); (case z_enumerate => k_is); (case z_int => k_is); (case z_isinstance => k_is); (case z_len => k_is); (case z_max => k_is); (case z_range => k_is); (case z_repr => k_is); (case z_sum => k_is)

