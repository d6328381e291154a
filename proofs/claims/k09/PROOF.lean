import PyProof.Rows.All
import Wide.All
import OpenK.AllK
import Wide.FinOn
import HandS.ForMost
import HandS.IsInst
import HandS.Style
import HandS.Wide
import HandS.Evl
import HandS.Zip
import HandS.SortKw
import HandS.Conv
import HandS.TupLe
import HandS.RaiseMore
import HandS.Defaults
import HandS.SetFor
import HandS.Strs
import HandS.FStr
import HandS.Text
import PyProof.StrBlock2
import PyProof.Rows.StrIntSpec
import PyProof.FString3
import PyProof.CollectIter
import HandS.Steps
import HandS.Dict
import HandS.ExcIs
import HandS.ExcValue
import HandS.TryOnly
import HandS.HotCalls
import HandS.WordsExc
import PySem.Challenge.RW_breadcrumbs_k09_strings_of_trails
set_option Elab.async false
set_option linter.all false
set_option maxRecDepth 100000
set_option maxHeartbeats 4000000
namespace BC
open PySem PySem.Spec PyProof.Rows L2
section
variable {X : Cx}
/-- a power of a number of any size that matters here -/
def CPowX (i j : Int) : Prop := 0 ≤ j ∧ j ≤ 1000 ∧ i.natAbs.log2 < 100000
theorem op_powX : OpR X (binaryOp .Pow) (rI CPowX fun i j => .int (i ^ j.toNat)) := opI fun i j _ _ _ _ _ hc q => by
  obtain ⟨h0, h1, h2⟩ := hc
  refine pow_int h0 ?_ q
  have hb : Builtin.Int.intBits i ≤ 100000 := by
    unfold Builtin.Int.intBits
    split <;> omega
  have h3 : (Builtin.Int.intBits i : Int) * j ≤ 100000 * j := Int.mul_le_mul_of_nonneg_right (by omega) h0
  omega
/-- a product: one factor small, or both of bounded size -/
def CMulX (i j : Int) : Prop := CMul i j ∨ CMulW i j
theorem op_mulX : OpR X (binaryOp .Mult) (rI CMulX fun i j => .int (i * j)) := opI fun _ _ _ _ _ _ _ hc q => by
  rcases hc with hc | hc
  · exact mul_int q hc.ok
  · exact mul_int q hc.ok
theorem op_fdivX : OpR X (binaryOp .FloorDiv) (rI CDivW fun i j => .int (i / j)) := op_fdivW
theorem op_modX : OpR X (binaryOp .Mod) (rI (fun _ j => 0 < j) fun i j => .int (i % j)) := opI fun i j _ _ _ _ _ hc q => by
  refine mod_int' (show j ≠ 0 by omega) ?_
  rw [Int.fmod_eq_emod_of_nonneg i (by omega)]
  exact q
def ipC (C : Int → Int → Prop) (f : Int → Int → Int) : TIp := fun x y H Q => ∃ i j, x = .int i ∧ y = .int j ∧ C i j ∧ Q (.int (f i j)) H
theorem ip_mulX : PIp X .Mult (ipC CMulX fun i j => i * j) := by
  intro pins s σ H x y v u Q I r1 r2 h
  obtain ⟨i, j, rfl, rfl, hc, q⟩ := h
  obtain ⟨t, rfl⟩ := r1
  obtain ⟨t', rfl⟩ := r2
  have ok : IntMulOk i j := by
    rcases hc with hc | hc
    · exact hc.ok
    · exact hc.ok
  exact imul_int ⟨.int (i * j), H, I.tok _, ⟨_, rfl⟩, q⟩ ok
end
end BC

/-! ### readings opened one construct at a time: full applications alone, so that what stands in a loop is left closed -/
namespace BC
open PySem PySem.Spec PyProof.Rows L2
section
variable {K : PySem.W.Frag} {σ : L2.St} {H : Hp} {Q : VK} {QT : Bool → Hp → Prop} {QA : List V → Hp → Prop} {D : Ends} {ta tb tc : TE} {t u : TT} {a : TA} {r r' : R2} {i j : Nat} {v x y : V} {s1 s2 : TS} {g : TG} {QG : L2.St → Hp → Prop}
def LoopG (J : It) (g : TG) (tb : TS) : TS := fun D σ H => ∃ W : Nat → Nat → L2.St → Hp → Prop, (∃ m, W 0 m σ H) ∧ ∀ i m σ H, W i m σ H →
  (J.stop i H ∧ D.nx σ H) ∨ (J.go i H ∧ ∃ N : L2.St → Hp → Prop, (∀ σ' H', N σ' H' → ∃ m', m' < m ∧ W (i + 1) m' σ' H') ∧ ∀ x H', J.yld i H x H' → g x σ H' fun σ2 H2 => tb { D with nx := N, ct := N, bk := D.nx } σ2 H2)
def LcG (J : It) (g : TG) (tt : TT) (te : TE) (vs : List Nat) (σ : L2.St) (Dl : Addr) (H1 : Hp) (Q : VK) : Prop := ∃ W : Nat → Nat → Hp → Prop, (∃ m, W 0 m (upd H1 Dl (.lst []))) ∧ ∀ i m H, W i m H →
  (J.stop i H ∧ Q (.ref Dl) H) ∨ (J.go i H ∧ ∃ Nx : Hp → Prop, (∀ H', Nx H' → ∃ m', m' < m ∧ W (i + 1) m' H') ∧ ∀ x H', J.yld i H x H' → g x (wipe σ vs) H' fun σ2 H2 => wipe σ2 vs = wipe σ vs ∧ tt σ2 H2 fun b H3 =>
    if b = true then te σ2 H3 fun y H4 => ∃ acc, H4 Dl = some (.lst acc) ∧ acc.length < sizeLine ∧ Nx (upd H4 Dl (.lst (acc ++ [y]))) else Nx H3)
theorem x_seq : tSeq s1 s2 D σ H = s1 { D with nx := s2 D } σ H := rfl
theorem x_next : tNext D σ H = D.nx σ H := rfl
theorem x_brk : tBreak D σ H = D.bk σ H := rfl
theorem x_cnt : tCont D σ H = D.ct σ H := rfl
theorem x_nev : tNever D σ H = False := rfl
theorem x_ret : tRet ta D σ H = ta σ H D.rt := rfl
theorem x_retN : tRetN D σ H = D.rt .non H := rfl
theorem x_drop : tDrop ta D σ H = ta σ H (fun _ H1 => D.nx σ H1) := rfl
theorem x_ifS : tIfS t s1 s2 D σ H = t σ H (fun b H1 => if b = true then s1 D σ H1 else s2 D σ H1) := rfl
theorem x_asg : tAsg ta g D σ H = ta σ H (fun x H1 => g x σ H1 D.nx) := rfl
theorem x_gn : gName i v σ H QG = QG (σ.set i (some v)) H := rfl
theorem x_gsub {o ix : TE} {st : TSet} : gSub o ix st v σ H QG = o σ H (fun o H1 => ix σ H1 fun i H2 => st o i v H2 fun H3 => QG σ H3) := rfl
theorem x_par : tPar i j a D σ H = a σ H (fun vs H1 => ∃ v w, vs = [v, w] ∧ D.nx ((σ.set i (some v)).set j (some w)) H1) := rfl
theorem x_par3 {l : Nat} : tPar3 i j l a D σ H = a σ H (fun vs H1 => ∃ u v w, vs = [u, v, w] ∧ D.nx (((σ.set i (some u)).set j (some v)).set l (some w)) H1) := rfl
theorem x_aug {ti : TIp} : tAug i ta ti D σ H = ∃ x, σ[i]? = some (some x) ∧ ta σ H fun y H1 => ti x y H1 fun z H2 => D.nx (σ.set i (some z)) H2 := rfl
theorem x_for {wi : TI} : tFor wi g s1 D σ H = wi σ H (fun J H1 => LoopG J g s1 D σ H1) := rfl
theorem x_lc {wi : TI} {vs : List Nat} : tLc wi g t ta vs σ H Q = wi σ H (fun J H1 => ∀ Dl, H1 Dl = none → LcG J g t ta vs σ Dl H1 Q) := rfl
theorem x_rng1 {R : It → Hp → Prop} : iRng1 a σ H R = a σ H (fun vs H1 => ∃ j : Int, vs = [.int j] ∧ -(2 ^ 62) ≤ j ∧ j < 2 ^ 62 ∧ R (Itr 0 j.toNat) H1) := rfl
theorem x_rng2 {R : It → Hp → Prop} : iRng2 a σ H R = a σ H (fun vs H1 => ∃ i j : Int, vs = [.int i, .int j] ∧ (-(2 ^ 62) ≤ i ∧ i < 2 ^ 62 ∧ -(2 ^ 62) ≤ j ∧ j < 2 ^ 62) ∧ R (Itr i (j - i).toNat) H1) := rfl
theorem x_rng3 {R : It → Hp → Prop} : iRng3 a σ H R = a σ H (fun vs H1 => ∃ (i j c : Int) (n : Nat), vs = [.int i, .int j, .int c] ∧ RgC i j c n ∧ R (Itc i c n) H1) := rfl
theorem x_ilist {R : It → Hp → Prop} : iList K ta σ H R = ta σ H (fun x H1 => ∃ a, x = .ref a ∧ (∃ xs, SqL K H1 a xs) ∧ R (Itl K a) H1) := rfl
theorem x_itup {R : It → Hp → Prop} : iTup K ta σ H R = ta σ H (fun x H1 => ∃ a, x = .ref a ∧ (∃ xs, SqT K H1 a xs) ∧ R (Itt K a) H1) := rfl
theorem x_ienum {R : It → Hp → Prop} : iEnum K a σ H R = a σ H (fun vs H1 => ∃ a xs, vs = [.ref a] ∧ SqL K H1 a xs ∧ R (Ite K a) H1) := rfl
theorem x_izip {R : It → Hp → Prop} : iZip K a σ H R = a σ H (fun vs H1 => ∃ a b xs ys, vs = [.ref a, .ref b] ∧ SqL K H1 a xs ∧ SqL K H1 b ys ∧ R (Itz K a b) H1) := rfl
theorem x_istr {R : It → Hp → Prop} : iStr ta σ H R = ta σ H (fun v H1 => ∃ x, v = .str x ∧ R (Its x) H1) := rfl
theorem x_var : tVar i σ H Q = ∃ v, σ[i]? = some (some v) ∧ Q v H := rfl
theorem x_c : tC v σ H Q = Q v H := rfl
theorem x_op : tOp r ta tb σ H Q = ta σ H (fun x H1 => tb σ H1 fun y H2 => r x y H2 Q) := rfl
theorem x_un {ru : V → Hp → VK → Prop} : tUn ru ta σ H Q = ta σ H (fun x H1 => ru x H1 Q) := rfl
theorem x_test : tTest ta σ H QT = ta σ H (fun x H' => ∃ k, x = .bl k ∧ QT k H') := rfl
theorem x_b : tB ta σ H QT = ta σ H (fun x H' => ∃ k, x = .bl k ∧ QT k H') := rfl
theorem x_chain : tChain r r' ta tb tc σ H Q = ta σ H (fun x H1 => tb σ H1 fun y H2 => r x y H2 fun z H3 => ∃ k, z = .bl k ∧ (if k = true then tc σ H3 fun w' H4 => r' y w' H4 Q else Q (.bl false) H3)) := rfl
theorem x_and : tAnd t u σ H QT = t σ H (fun c H1 => if c = true then u σ H1 QT else QT false H1) := rfl
theorem x_or : tOr t u σ H QT = t σ H (fun c H1 => if c = true then QT true H1 else u σ H1 QT) := rfl
theorem x_not : tNot t σ H QT = t σ H (fun c H1 => QT (!c) H1) := rfl
theorem x_andV : tAndV ta tb σ H Q = ta σ H (fun x H1 => ∃ c, x = .bl c ∧ if c = true then tb σ H1 Q else Q (.bl false) H1) := rfl
theorem x_orV : tOrV ta tb σ H Q = ta σ H (fun x H1 => ∃ c, x = .bl c ∧ if c = true then Q (.bl true) H1 else tb σ H1 Q) := rfl
theorem x_notV : tNotV ta σ H Q = ta σ H (fun x H1 => ∃ c, x = .bl c ∧ Q (.bl (!c)) H1) := rfl
theorem x_ife : tIf t ta tb σ H Q = t σ H (fun c H1 => if c = true then ta σ H1 Q else tb σ H1 Q) := rfl
theorem x_nil : tNil σ H QA = QA [] H := rfl
theorem x_cons {rest : TA} : tCons ta rest σ H QA = ta σ H (fun x H1 => rest σ H1 fun xs H2 => QA (x :: xs) H2) := rfl
theorem x_lst : tLst a σ H Q = a σ H (fun xs H1 => xs.length ≤ sizeLine ∧ ∀ p, H1 p = none → Q (.ref p) (upd H1 p (.lst xs))) := rfl
theorem x_tup : tTup a σ H Q = a σ H (fun xs H1 => xs.length ≤ sizeLine ∧ ∀ p, H1 p = none → Q (.ref p) (upd H1 p (.tup xs))) := rfl
theorem x_cb {rc : List V → Hp → VK → Prop} : tCB rc a σ H Q = a σ H (fun vs H1 => rc vs H1 Q) := rfl
theorem x_call {sp : Sp} {dvs : List V} {E : XK} : tCall sp dvs E a σ H Q = a σ H (fun vs H1 => sp (vs ++ dvs) H1 Q E) := rfl
theorem x_callK {sp : Sp} {gV : List V → List V → List V} {E : XK} {b : TA} : tCallK sp gV E a b σ H Q = a σ H (fun vs H1 => b σ H1 fun zs H2 => sp (gV vs zs) H2 Q E) := rfl
theorem x_bm {T : String} {rm : V → List V → Hp → VK → Prop} : tBM K T rm ta a σ H Q = ta σ H (fun x H1 => tyV K T x H1 ∧ a σ H1 fun xs H2 => rm x xs H2 Q) := rfl
theorem x_bm0 {T : String} {rm : V → List V → Hp → VK → Prop} : tBM0 K T rm ta σ H Q = ta σ H (fun x H1 => tyV K T x H1 ∧ rm x [] H1 Q) := rfl
theorem x_sl {rs : V → Option Int → Option Int → Hp → VK → Prop} {tl th : TO} : tSl rs ta tl th σ H Q = ta σ H (fun x H1 => tl σ H1 fun l H2 => th σ H2 fun u H3 => rs x l u H3 Q) := rfl
theorem x_nopart {QO : Option Int → Hp → Prop} : tNoPart σ H QO = QO none H := rfl
theorem x_part {QO : Option Int → Hp → Prop} : tPart ta σ H QO = ta σ H (fun x H1 => ∃ i, x = .int i ∧ QO (some i) H1) := rfl
theorem x_revL : tRevL K ta σ H Q = ta σ H (fun x H1 => ∃ a xs, x = .ref a ∧ SqL K H1 a xs ∧ ∀ p, H1 p = none → Q (.ref p) (upd H1 p (.lst xs.reverse))) := rfl
theorem x_I0 {f : Int → Int → V} {m n : Int} : rI0 f (.int m) (.int n) H Q ↔ Q (f m n) H := ⟨fun ⟨i, j, e1, e2, q⟩ => by cases e1; cases e2; exact q, fun q => ⟨m, n, rfl, rfl, q⟩⟩
theorem x_I {C : Int → Int → Prop} {f : Int → Int → V} {m n : Int} : rI C f (.int m) (.int n) H Q ↔ C m n ∧ Q (f m n) H := ⟨fun ⟨i, j, e1, e2, q⟩ => by cases e1; cases e2; exact q, fun q => ⟨m, n, rfl, rfl, q⟩⟩
theorem x_U {f : Int → V} {m : Int} : rU f (.int m) H Q ↔ Q (f m) H := ⟨fun ⟨i, e1, q⟩ => by cases e1; exact q, fun q => ⟨m, rfl, q⟩⟩
theorem x_ip {f : Int → Int → Int} {m n : Int} : ipI f (.int m) (.int n) H Q ↔ Q (.int (f m n)) H := ⟨fun ⟨i, j, e1, e2, q⟩ => by cases e1; cases e2; exact q, fun q => ⟨m, n, rfl, rfl, q⟩⟩
theorem x_ipC {C : Int → Int → Prop} {f : Int → Int → Int} {m n : Int} : ipC C f (.int m) (.int n) H Q ↔ C m n ∧ Q (.int (f m n)) H := ⟨fun ⟨i, j, e1, e2, q⟩ => by cases e1; cases e2; exact q, fun q => ⟨m, n, rfl, rfl, q⟩⟩
theorem x_eqI {m n : Int} : rEq (.int m) (.int n) H Q ↔ Q (.bl (decide (m = n))) H := by
  unfold rEq
  rw [show scal (V.int m) (V.int n) = true from rfl]
  by_cases e : m = n
  · subst e; simp
  · simp [e]
theorem x_neI {m n : Int} : rNe (.int m) (.int n) H Q ↔ Q (.bl (!decide (m = n))) H := by
  unfold rNe
  rw [show scal (V.int m) (V.int n) = true from rfl]
  by_cases e : m = n
  · subst e; simp
  · simp [e]
end
/-! ### the rules that speak of the written part, by its own name -/
section
variable {X : Cx} {K : PySem.W.Frag}
theorem k_pi_list {tg l : Expr} {tl : TE} (hK : X.K = K) (hl : PE X l tl) : PI X tg l (iList K tl) := by subst hK; exact pi_list hl
theorem k_pi_tup {tg l : Expr} {tl : TE} (hK : X.K = K) (hl : PE X l tl) : PI X tg l (iTup K tl) := by subst hK; exact pi_tup hl
theorem k_pi_enum {e : Expr} {ta : TA} {p pos tpos : Pos} {elts : List Expr} {kk : Nat} (hK : X.K = K) (hg : Gl X "enumerate") (hm : X.mg "enumerate" = none) (ha : PA X [e] ta) (hs : starEach [e] X.env = [(false, eval e X.env)] := by rfl) : PI X (.Tuple elts kk tpos) (.Call (.Name "enumerate" p) [e] [] pos) (iEnum K ta) := by subst hK; exact pi_enum hg hm ha hs
theorem k_pi_zip {e e2 : Expr} {ta : TA} {p pos tpos : Pos} {elts : List Expr} {kk : Nat} (hK : X.K = K) (hg : Gl X "zip") (hm : X.mg "zip" = none) (ha : PA X [e, e2] ta)
    (hs : starEach [e, e2] X.env = (false, eval e X.env) :: starEach [e2] X.env := by rfl) (hpl : (backTo pos (starEach [e2] X.env)).any (·.1) = false := by rfl) : PI X (.Tuple elts kk tpos) (.Call (.Name "zip" p) [e, e2] [] pos) (iZip K ta) := by subst hK; exact pi_zip hg hm ha hs hpl
theorem k_ix_list (hK : X.K = K) : IxR X (rIxL K) := by subst hK; exact ix_list
theorem k_ix_tup (hK : X.K = K) : IxR X (rIxT K) := by subst hK; exact ix_tup
theorem k_sl_list (hK : X.K = K) : SlR X (rSlL K) := by subst hK; exact sl_list
theorem k_in (hK : X.K = K) : OpR X (compareOp .In) (rIn K false) := by subst hK; exact op_in_seq
theorem k_notIn (hK : X.K = K) : OpR X (compareOp .NotIn) (rIn K true) := by subst hK; exact op_notIn_seq
theorem k_eqD (hK : X.K = K) (hu : X.A.units + 64 < cLine) : OpR X (compareOp .Eq) (rEqD K) := by subst hK; exact op_eqD hu
theorem k_neD (hK : X.K = K) (hu : X.A.units + 64 < cLine) : OpR X (compareOp .NotEq) (rNeD K) := by subst hK; exact op_neD hu
def rLen (K : PySem.W.Frag) : List V → Hp → VK → Prop := fun xs H Q => ∃ p ys, xs = [.ref p] ∧ (SqL K H p ys ∨ SqT K H p ys) ∧ Q (.int ys.length) H
def rListOf (K : PySem.W.Frag) : List V → Hp → VK → Prop := fun xs H Q => ∃ p ys, xs = [.ref p] ∧ (SqL K H p ys ∨ SqT K H p ys) ∧ ∀ l, H l = none → Q (.ref l) (upd H l (.lst ys))
def rTupOf (K : PySem.W.Frag) : List V → Hp → VK → Prop := fun xs H Q => ∃ p ys, xs = [.ref p] ∧ ((SqL K H p ys ∧ ∀ l, H l = none → Q (.ref l) (upd H l (.tup ys))) ∨ (SqT K H p ys ∧ Q (.ref p) H))
theorem k_len (hK : X.K = K) : CallR X (.builtin "len") (rLen K) := by subst hK; exact call_len_seq
theorem k_listOf (hK : X.K = K) : CallR X (.type "list") (rListOf K) := by subst hK; exact call_list_of
theorem k_tupOf (hK : X.K = K) : CallR X (.type "tuple") (rTupOf K) := by subst hK; exact call_tuple_of
theorem k_isi (hK : X.K = K) : CallR X (.builtin "isinstance") (rIsi K) := by subst hK; exact call_isi
theorem k_sum (hK : X.K = K) (hc : X.calm = true) : CallR X (.builtin "sum") (rSum K) := by subst hK; exact cr_sum hc
theorem k_all (hK : X.K = K) (hc : X.calm = true) : CallR X (.builtin "all") (rAll K) := by subst hK; exact cr_all hc
theorem k_any (hK : X.K = K) (hc : X.calm = true) : CallR X (.builtin "any") (rAny K) := by subst hK; exact cr_any hc
theorem k_sorted (hK : X.K = K) : CallR X (.builtin "sorted") (rSorted K) := by subst hK; exact cr_sorted
def tTruK (K : PySem.W.Frag) (ta : TE) : TT := fun σ H Q => ta σ H fun x H' => ∃ k, TruV K x H' k ∧ Q k H'
theorem k_truth {a : Expr} {ta : TE} (hK : X.K = K) (ha : PE X a ta) (he : ∀ whole, isTrue a X.env whole = (do let v ← whole; standAt a.pos; holding [v] (truthy v))) : PT X a (tTruK K ta) := by subst hK; exact pt_truth ha he
theorem k_tup {es : List Expr} {k n : Nat} {pos : Pos} {t : TGs} (hK : X.K = K) (hc : X.calm = true) (h : PGs X es t)
    (hn : (assignEach es X.env).length = n := by rfl) (hst : (assignEach es X.env).findIdx? (·.1) = none := by rfl) : PG X (.Tuple es k pos) (gTup K n t) := by subst hK; exact pg_tup hc h hn hst
theorem k_bm0 {T : String} {to : TE} {r : V → List V → Hp → VK → Prop} {e : Expr} (hK : X.K = K) (h : PE X e (tBM0 X.K T r to)) : PE X e (tBM0 K T r to) := by subst hK; exact h
theorem k_bm {T : String} {to : TE} {ta : TA} {r : V → List V → Hp → VK → Prop} {e : Expr} (hK : X.K = K) (h : PE X e (tBM X.K T r to ta)) : PE X e (tBM K T r to ta) := by subst hK; exact h
theorem k_rev {e : Expr} {te : TE} {k : Nat} {p1 p2 p3 pos : Pos} (hK : X.K = K) (he : PE X e te) : PE X (.Subscript e (.Slice none none (some (.UnaryOp .USub (.Constant (.int 1) k p1) p2)) p3) pos) (tRevL K te) := by subst hK; exact pe_revL he
theorem k_index (hK : X.K = K) : MtR X "list.index" (rIndex K) := by subst hK; exact mt_index
end
section
variable {K : PySem.W.Frag} {σ : L2.St} {H : Hp} {ta : TE} {QT : Bool → Hp → Prop}
theorem x_tru : tTruK K ta σ H QT = ta σ H (fun x H' => ∃ k, TruV K x H' k ∧ QT k H') := rfl
end
/-! ### loops -/
section
variable {K : PySem.W.Frag} {σ : L2.St} {H : Hp} {D : Ends} {g : TG} {tb : TS}
theorem lg_rng {lo : Int} {n : Nat} (Pv : Nat → L2.St → Hp → Prop) (h0 : Pv 0 σ H)
    (hs : ∀ i σ H, i < n → Pv i σ H → g (.int (lo + i)) σ H fun σ2 H2 => tb { D with nx := Pv (i + 1), ct := Pv (i + 1), bk := D.nx } σ2 H2) (hd : ∀ σ H, Pv n σ H → D.nx σ H) : LoopG (Itr lo n) g tb D σ H := for_range Pv h0 hs hd
theorem lg_rngC {lo c : Int} {n : Nat} (Pv : Nat → L2.St → Hp → Prop) (h0 : Pv 0 σ H)
    (hs : ∀ i σ H, i < n → Pv i σ H → g (.int (lo + (i : Nat) * c)) σ H fun σ2 H2 => tb { D with nx := Pv (i + 1), ct := Pv (i + 1), bk := D.nx } σ2 H2) (hd : ∀ σ H, Pv n σ H → D.nx σ H) : LoopG (Itc lo c n) g tb D σ H := for_rangeC Pv h0 hs hd
theorem lg_list {a : Addr} {xs : List V} (Pv : Nat → L2.St → Hp → Prop) (h0 : Pv 0 σ H) (hl : ∀ i σ H, i ≤ xs.length → Pv i σ H → SqL K H a xs)
    (hs : ∀ i x σ H, xs[i]? = some x → Pv i σ H → g x σ H fun σ2 H2 => tb { D with nx := Pv (i + 1), ct := Pv (i + 1), bk := D.nx } σ2 H2) (hd : ∀ σ H, Pv xs.length σ H → D.nx σ H) : LoopG (Itl K a) g tb D σ H := for_list Pv h0 hl hs hd
/-- enumerate over a list that stands still: each pair is a new tuple -/
theorem lg_enum {a : Addr} {xs : List V} (Pv : Nat → L2.St → Hp → Prop) (h0 : Pv 0 σ H) (hl : ∀ i σ H, i ≤ xs.length → Pv i σ H → SqL K H a xs)
    (hs : ∀ i x σ H T, xs[i]? = some x → Pv i σ H → H T = none → g (.ref T) σ (upd H T (.tup [.int (i : Nat), x])) fun σ2 H2 => tb { D with nx := Pv (i + 1), ct := Pv (i + 1), bk := D.nx } σ2 H2) (hd : ∀ σ H, Pv xs.length σ H → D.nx σ H) : LoopG (Ite K a) g tb D σ H := by
  refine ⟨fun i m σ H => m = xs.length - i ∧ i ≤ xs.length ∧ Pv i σ H, ⟨xs.length, by simp, Nat.zero_le _, h0⟩, ?_⟩
  rintro i m σ H ⟨rfl, hi, p⟩
  have q := hl i σ H hi p
  by_cases hlt : i < xs.length
  · refine .inr ⟨⟨xs, xs[i], q, by simp [hlt]⟩, Pv (i + 1), fun σ' H' p' => ⟨xs.length - (i + 1), by omega, rfl, hlt, p'⟩, fun x H' y => ?_⟩
    obtain ⟨T, x', rfl, hT, rfl, f⟩ := y
    exact hs i x' σ H T (f xs q) p hT
  · have e : i = xs.length := by omega
    subst e
    exact .inl ⟨⟨xs, q, Nat.le_refl _⟩, hd σ H p⟩
/-- a pair unpacked -/
theorem g_two {i j : Nat} {T : Addr} {x y : V} {QG : L2.St → Hp → Prop} (h : H T = some (.tup [x, y])) (q : QG ((σ.set i (some x)).set j (some y)) H) : gTup K 2 (gCons (gName i) (gCons (gName j) gNil)) (.ref T) σ H QG :=
  ⟨T, [x, y], rfl, .inl (.inl h), rfl, x, [y], rfl, y, [], rfl, rfl, q⟩
end
/-! ### comprehensions over lists whose elements are given by a function of the turn -/
section
variable {K : PySem.W.Frag} {σ : L2.St} {H1 : Hp} {g : TG} {tt : TT} {te : TE} {vs : List Nat} {Dl : Addr} {Q : VK}
theorem lc_g (n : Nat) {J : It} (Pv : Nat → Hp → Prop) (h0 : Pv 0 (upd H1 Dl (.lst []))) (hst : ∀ H, Pv n H → J.stop n H) (hgo : ∀ i H, i < n → Pv i H → J.go i H)
    (hs : ∀ i H x H', i < n → Pv i H → J.yld i H x H' → g x (wipe σ vs) H' fun σ2 H2 => wipe σ2 vs = wipe σ vs ∧ tt σ2 H2 fun b H3 =>
      if b = true then te σ2 H3 fun y H4 => ∃ acc, H4 Dl = some (.lst acc) ∧ acc.length < sizeLine ∧ Pv (i + 1) (upd H4 Dl (.lst (acc ++ [y]))) else Pv (i + 1) H3) (hd : ∀ H, Pv n H → Q (.ref Dl) H) : LcG J g tt te vs σ Dl H1 Q := by
  refine ⟨fun i m H => m = n - i ∧ i ≤ n ∧ Pv i H, ⟨n, by simp, Nat.zero_le _, h0⟩, ?_⟩
  rintro i m H ⟨rfl, hi, p⟩
  by_cases hlt : i < n
  · exact .inr ⟨hgo i H hlt p, Pv (i + 1), fun H' p' => ⟨n - (i + 1), by omega, rfl, hlt, p'⟩, fun x H' y => hs i H x H' hlt p y⟩
  · have e : i = n := by omega
    subst e
    exact .inl ⟨hst H p, hd H p⟩
end
/-! ### comprehensions that change nothing -/
section
variable {K : PySem.W.Frag} {σ : L2.St} {H1 : Hp} {g : TG} {tt : TT} {te : TE} {vs : List Nat} {Dl : Addr} {Q : VK}
def kept (n : Nat) (keep : Nat → Bool) (f : Nat → V) : List V := ((List.range n).filter keep).map f
theorem kept_yes {n : Nat} {k : Nat → Bool} {f : Nat → V} (h : k n = true) : kept (n + 1) k f = kept n k f ++ [f n] := by
  unfold kept
  rw [List.range_succ, List.filter_append, List.map_append]
  simp [h]
theorem kept_no {n : Nat} {k : Nat → Bool} {f : Nat → V} (h : k n = false) : kept (n + 1) k f = kept n k f := by
  unfold kept
  rw [List.range_succ, List.filter_append, List.map_append]
  simp [h]
theorem kept_len (n : Nat) (k : Nat → Bool) (f : Nat → V) : (kept n k f).length ≤ n := by
  unfold kept
  rw [List.length_map]
  exact Nat.le_trans (List.length_filter_le _ _) (by rw [List.length_range]; exact Nat.le_refl _)
theorem kept_all (n : Nat) (f : Nat → V) : kept n (fun _ => true) f = (List.range n).map f := by
  unfold kept
  rw [List.filter_eq_self.mpr (by simp)]
theorem lc_pure {J : It} (n : Nat) (item : Nat → L2.St) (keep : Nat → Bool) (f : Nat → V) (hD : H1 Dl = none) (hn : n ≤ 100000)
    (hst : ∀ H', Evl.Ex H1 H' → J.stop n H') (hgo : ∀ i H', i < n → Evl.Ex H1 H' → J.go i H')
    (hy : ∀ i H' x H'' (QG : L2.St → Hp → Prop), i < n → Evl.Ex H1 H' → J.yld i H' x H'' → (Evl.Ex H' H'' → QG (item i) H'') → g x (wipe σ vs) H'' QG)
    (hw : ∀ i, i < n → wipe (item i) vs = wipe σ vs) (ht : ∀ i, i < n → Evl.EvT tt (item i) H1 (keep i)) (he : ∀ i, i < n → keep i = true → Evl.Ev te (item i) H1 (f i))
    (hd : ∀ H', Evl.Ex H1 H' → H' Dl = some (.lst (kept n keep f)) → Q (.ref Dl) H') : LcG J g tt te vs σ Dl H1 Q := by
  refine lc_g n (fun i H' => Evl.Ex H1 H' ∧ H' Dl = some (.lst (kept i keep f))) ⟨Evl.Ex.new hD, upd_same⟩ (fun H' h => hst H' h.1) (fun i H' hi h => hgo i H' hi h.1) (fun i H' x H'' hi h y => ?_) (fun H' h => hd H' h.1 h.2)
  obtain ⟨e, hl⟩ := h
  refine hy i H' x H'' _ hi e y fun e2 => ⟨hw i hi, ht i hi H'' (e.trans e2) _ fun H3 e3 => ?_⟩
  have hl3 := e3 _ _ (e2 _ _ hl)
  cases hk : keep i with
  | false =>
    show (if false = true then _ else _)
    rw [if_neg Bool.false_ne_true, kept_no hk]
    exact ⟨(e.trans e2).trans e3, hl3⟩
  | true =>
    show (if true = true then _ else _)
    rw [if_pos rfl]
    refine he i hi hk H3 ((e.trans e2).trans e3) _ fun H4 e4 => ⟨_, e4 _ _ hl3, Nat.lt_of_lt_of_le (Nat.lt_of_le_of_lt (kept_len i keep f) hi) (Nat.le_trans hn (by decide)), ?_⟩
    rw [kept_yes hk]
    exact ⟨(((e.trans e2).trans e3).trans e4).mut hD, upd_same⟩
theorem tyes {σ : L2.St} {H : Hp} : Evl.EvT tYes σ H true := fun H1 _ _ q => q H1 (Evl.Ex.refl H1)
theorem lc_enum {a : Addr} {xs : List V} {j k : Nat} (keep : Nat → Bool) (f : Nat → V) (hx : SqL K H1 a xs) (hD : H1 Dl = none) (hn : xs.length ≤ 100000)
    (hw : ∀ u v : V, wipe (((wipe σ vs).set j (some u)).set k (some v)) vs = wipe σ vs)
    (ht : ∀ i x, xs[i]? = some x → Evl.EvT tt (((wipe σ vs).set j (some (.int (i : Nat)))).set k (some x)) H1 (keep i))
    (he : ∀ i x, xs[i]? = some x → keep i = true → Evl.Ev te (((wipe σ vs).set j (some (.int (i : Nat)))).set k (some x)) H1 (f i))
    (hd : ∀ H', Evl.Ex H1 H' → H' Dl = some (.lst (kept xs.length keep f)) → Q (.ref Dl) H') : LcG (Ite K a) (gTup K 2 (gCons (gName j) (gCons (gName k) gNil))) tt te vs σ Dl H1 Q := by
  refine lc_pure xs.length (fun i => ((wipe σ vs).set j (some (.int (i : Nat)))).set k (some (xs.getD i .non))) keep f hD hn (fun H' e => ⟨xs, Evl.ex_l e hx, Nat.le_refl _⟩) (fun i H' hi e => ⟨xs, xs[i], Evl.ex_l e hx, List.getElem?_eq_getElem hi⟩)
    (fun i H' x H'' QG hi e y q => ?_) (fun i hi => hw _ _) (fun i hi => ht i _ (by rw [List.getD_eq_getElem?_getD, List.getElem?_eq_getElem hi]; rfl)) (fun i hi => he i _ (by rw [List.getD_eq_getElem?_getD, List.getElem?_eq_getElem hi]; rfl)) hd
  obtain ⟨T, v, rfl, hT, rfl, hf⟩ := y
  have hv := hf xs (Evl.ex_l e hx)
  have e1 : xs.getD i .non = v := by rw [List.getD_eq_getElem?_getD, hv]; rfl
  refine g_two upd_same ?_
  have q2 := q (Evl.Ex.new hT)
  rw [e1] at q2
  exact q2
theorem lc_list {a : Addr} {xs : List V} {j : Nat} (keep : Nat → Bool) (f : Nat → V) (hx : SqL K H1 a xs) (hD : H1 Dl = none) (hn : xs.length ≤ 100000)
    (hw : ∀ u : V, wipe ((wipe σ vs).set j (some u)) vs = wipe σ vs)
    (ht : ∀ i x, xs[i]? = some x → Evl.EvT tt ((wipe σ vs).set j (some x)) H1 (keep i))
    (he : ∀ i x, xs[i]? = some x → keep i = true → Evl.Ev te ((wipe σ vs).set j (some x)) H1 (f i))
    (hd : ∀ H', Evl.Ex H1 H' → H' Dl = some (.lst (kept xs.length keep f)) → Q (.ref Dl) H') : LcG (Itl K a) (gName j) tt te vs σ Dl H1 Q := by
  refine lc_pure xs.length (fun i => (wipe σ vs).set j (some (xs.getD i .non))) keep f hD hn (fun H' e => ⟨xs, Evl.ex_l e hx, Nat.le_refl _⟩) (fun i H' hi e => ⟨xs, xs[i], Evl.ex_l e hx, List.getElem?_eq_getElem hi⟩)
    (fun i H' x H'' QG hi e y q => ?_) (fun i hi => hw _) (fun i hi => ht i _ (by rw [List.getD_eq_getElem?_getD, List.getElem?_eq_getElem hi]; rfl)) (fun i hi => he i _ (by rw [List.getD_eq_getElem?_getD, List.getElem?_eq_getElem hi]; rfl)) hd
  obtain ⟨rfl, hf⟩ := y
  have hv := hf xs (Evl.ex_l e hx)
  have e1 : xs.getD i .non = x := by rw [List.getD_eq_getElem?_getD, hv]; rfl
  show QG _ _
  rw [← e1]
  exact q (Evl.Ex.refl _)
theorem lc_rng {lo : Int} {n j : Nat} (keep : Nat → Bool) (f : Nat → V) (hD : H1 Dl = none) (hn : n ≤ 100000)
    (hw : ∀ u : V, wipe ((wipe σ vs).set j (some u)) vs = wipe σ vs)
    (ht : ∀ i, i < n → Evl.EvT tt ((wipe σ vs).set j (some (.int (lo + i)))) H1 (keep i))
    (he : ∀ i, i < n → keep i = true → Evl.Ev te ((wipe σ vs).set j (some (.int (lo + i)))) H1 (f i))
    (hd : ∀ H', Evl.Ex H1 H' → H' Dl = some (.lst (kept n keep f)) → Q (.ref Dl) H') : LcG (Itr lo n) (gName j) tt te vs σ Dl H1 Q := by
  refine lc_pure n (fun i => (wipe σ vs).set j (some (.int (lo + i)))) keep f hD hn (fun H' e => Nat.le_refl _) (fun i H' hi e => hi)
    (fun i H' x H'' QG hi e y q => ?_) (fun i hi => hw _) ht he hd
  obtain ⟨rfl, rfl⟩ := y
  exact q (Evl.Ex.refl _)
end
/-! ### operations on values -/
section
variable {K : PySem.W.Frag} {H : Hp} {Q : VK}
theorem isi_int {i : Int} {T : String} {b : Bool} (h : kitB "int" T = some b) (q : Q (.bl b) H) : rIsi K [.int i, .ty T] H Q :=
  ⟨.int i, .ty T, .type "int", .type T, b, rfl, .ty T, .base (.int i), kit_ty h, q⟩
theorem ixL {p : Addr} {xs : List V} {i : Int} {v : V} (h : SqL K H p xs) (hi : atI xs i = some v) (q : Q v H) : rIxL K (.ref p) (.int i) H Q := ⟨p, xs, i, v, rfl, rfl, h, hi, q⟩
theorem setL {p : Addr} {xs : List V} {i : Int} {j : Nat} {v : V} {R : Hp → Prop} (h : H p = some (.lst xs)) (hj : ixN xs.length i = some j) (q : R (upd H p (.lst (xs.set j v)))) : rSetL (.ref p) (.int i) v H R := ⟨p, xs, i, j, rfl, rfl, h, hj, q⟩
theorem repL {p : Addr} {xs : List V} {k : Int} (h : H p = some (.lst xs)) (h1 : -(2 ^ 63) ≤ k) (h2 : k < 2 ^ 63) (hz : xs.length * k.toNat ≤ sizeLine) (q : ∀ l, H l = none → Q (.ref l) (upd H l (.lst (List.replicate k.toNat xs).flatten))) : rRep (.ref p) (.int k) H Q := ⟨p, k, xs, rfl, rfl, h, h1, h2, hz, q⟩
theorem catL {p b : Addr} {xs ys : List V} (h : H p = some (.lst xs)) (hb : H b = some (.lst ys)) (hz : xs.length + ys.length ≤ sizeLine) (q : ∀ l, H l = none → Q (.ref l) (upd H l (.lst (xs ++ ys)))) : rCat (.ref p) (.ref b) H Q := ⟨p, b, xs, ys, rfl, rfl, h, hb, hz, q⟩
theorem sumL {p : Addr} {ns : List Int} (h : SqL K H p (ns.map V.int)) (q : Q (.int ns.sum) H) : rSum K [.ref p] H Q := ⟨p, ns, rfl, h, q⟩
theorem appL {p : Addr} {xs : List V} {y : V} (h : H p = some (.lst xs)) (hz : xs.length < sizeLine) (q : Q .non (upd H p (.lst (xs ++ [y])))) : rAppend (.ref p) [y] H Q := ⟨p, xs, y, rfl, rfl, h, hz, q⟩
theorem tyL {p : Addr} {xs : List V} (h : H p = some (.lst xs)) : tyV K "list" (.ref p) H := Or.inl ⟨rfl, _, Or.inl (Or.inl h)⟩
theorem atI_n {xs : List V} {i : Int} {j : Nat} {v : V} (e : i = (j : Int)) (h : xs[j]? = some v) : atI xs i = some v := by
  subst e
  have hj := (List.getElem?_eq_some_iff.mp h).1
  unfold atI ixN
  rw [if_pos (by omega), if_pos (by omega)]
  exact h
theorem ixN_n {n : Nat} {i : Int} {j : Nat} (e : i = (j : Int)) (h : j < n) : ixN n i = some j := by
  subst e
  unfold ixN
  rw [if_pos (by omega), if_pos (by omega)]
  rfl
theorem sz_ok {n : Nat} (h : n ≤ 100000) : n ≤ sizeLine := Nat.le_trans h (by decide)
theorem sz_lt {n : Nat} (h : n < 100000) : n < sizeLine := Nat.lt_of_lt_of_le h (by decide)
end
end BC

set_option Elab.async false
set_option linter.all false
set_option maxRecDepth 100000
set_option maxHeartbeats 4000000
namespace BC
open PySem PySem.Spec PyProof.Rows L2 Evl RZ
/-! ### all but the object at b stands -/
def Fx (b : Addr) (H H' : Hp) : Prop := ∀ a o, a ≠ b → H a = some o → H' a = some o
theorem Fx.refl (b : Addr) (H : Hp) : Fx b H H := fun _ _ _ h => h
theorem Fx.trans {b : Addr} {H H1 H2 : Hp} (x : Fx b H H1) (y : Fx b H1 H2) : Fx b H H2 := fun a o n h => y a o n (x a o n h)
theorem Fx.of {b : Addr} {H H' : Hp} (e : Ex H H') : Fx b H H' := fun a o _ h => e a o h
theorem Fx.put {b : Addr} {H : Hp} {o : HO} : Fx b H (upd H b o) := fun a u n h => by rw [upd_ne n]; exact h
theorem Fx.ex {b : Addr} {H H' : Hp} (x : Fx b H H') (h : H b = none) : Ex H H' := fun a o e => x a o (ne_of_none e h) e
theorem Fx.l {K : PySem.W.Frag} {b a : Addr} {H H' : Hp} {xs : List V} (x : Fx b H H') (n : a ≠ b) (h : SqL K H a xs) : SqL K H' a xs := by
  rcases h with h | h
  · rcases h with h | ⟨o, h⟩
    · exact .inl (.inl (x a _ n h))
    · exact .inl (.inr ⟨o, x a _ n h⟩)
  · exact .inr h
/-! ### lists -/
theorem cutV_mem {xs : List V} {lo hi : Option Int} {x : V} (h : x ∈ cutV xs lo hi) : x ∈ xs := by
  unfold cutV at h
  exact List.mem_of_mem_drop (List.mem_of_mem_take h)
theorem cutV_len (xs : List V) (lo hi : Option Int) : (cutV xs lo hi).length ≤ xs.length := by
  unfold cutV
  rw [List.length_take, List.length_drop]
  omega
theorem two_at0 {x y r : Int} {n : Nat} (h0 : 0 ≤ r) (h1 : r < 2) (hx0 : 0 ≤ x) (hx1 : x ≤ n) (hy0 : 0 ≤ y) (hy1 : y ≤ n) : ∃ m : Nat, m ≤ n ∧ atI [V.int x, V.int y] r = some (.int m) := by
  by_cases e : r = 0
  · exact ⟨x.toNat, by omega, by rw [Int.toNat_of_nonneg hx0]; exact atI_n (j := 0) e rfl⟩
  · exact ⟨y.toNat, by omega, by rw [Int.toNat_of_nonneg hy0]; exact atI_n (j := 1) (by omega) rfl⟩
theorem two_at {x y r : Int} {n : Nat} (h0 : 0 ≤ r) (h1 : r < 2) (hx0 : 1 ≤ x) (hx1 : x ≤ n) (hy0 : 1 ≤ y) (hy1 : y ≤ n) : ∃ m : Nat, 1 ≤ m ∧ m ≤ n ∧ atI [V.int x, V.int y] r = some (.int m) := by
  by_cases e : r = 0
  · exact ⟨x.toNat, by omega, by omega, by rw [Int.toNat_of_nonneg (by omega)]; exact atI_n (j := 0) e rfl⟩
  · exact ⟨y.toNat, by omega, by omega, by rw [Int.toNat_of_nonneg (by omega)]; exact atI_n (j := 1) (by omega) rfl⟩
/-- a written list read at a drawn place -/
theorem pick {xs : List V} {r : Int} (h0 : 0 ≤ r) (h1 : r < xs.length) : ∃ v, v ∈ xs ∧ atI xs r = some v := by
  have hj : r.toNat < xs.length := by omega
  exact ⟨xs[r.toNat], List.getElem_mem hj, atI_n (j := r.toNat) (by omega) (List.getElem?_eq_getElem hj)⟩
theorem rep_one (n : Nat) (v : V) : (List.replicate n [v]).flatten = List.replicate n v := by
  induction n with
  | zero => rfl
  | succ n ih => rw [List.replicate_succ, List.flatten_cons, ih]; rfl
theorem take_succ {xs : List V} {i : Nat} {v : V} (h : xs[i]? = some v) : xs.take (i + 1) = xs.take i ++ [v] := by
  rw [List.take_add_one, h]
  rfl
theorem log2_small {i : Int} {k : Nat} (hk : 0 < k) (h : i.natAbs < 2 ^ k) : i.natAbs.log2 < k := PySem.Flt.log2_lt_of hk h
/-! ### kinds -/
section
variable {X : Cx} {K : PySem.W.Frag} {H : Hp} {Q : VK}
theorem k_pi_zipA {e e2 : Expr} {ta : TA} {p pos tpos : Pos} {elts : List Expr} {kk : Nat} (hK : X.K = K) (hg : Gl X "zip") (hm : X.mg "zip" = none) (ha : PA X [e, e2] ta)
    (hs : starEach [e, e2] X.env = (false, eval e X.env) :: starEach [e2] X.env := by rfl) (hpl : (backTo pos (starEach [e2] X.env)).any (·.1) = false := by rfl) : PI X (.Tuple elts kk tpos) (.Call (.Name "zip" p) [e, e2] [] pos) (iZipA K ta) := by subst hK; exact pi_zipA hg hm ha hs hpl
theorem k_isiT (hK : X.K = K) : CallR X (.builtin "isinstance") (rIsiT K) := by subst hK; exact call_isiT
theorem tyx_l {a : Addr} {xs : List V} (h : SqL K H a xs) : TyX K H (.ref a) (.type "list") := by
  rcases h with (h | ⟨o, h⟩) | ⟨o, its, n, h, c, _⟩
  · exact .base (.lst h)
  · exact .base (.frz h)
  · exact .kList h c
theorem tyx_t {a : Addr} {xs : List V} (h : SqT K H a xs) : TyX K H (.ref a) (.type "tuple") := by
  rcases h with (h | ⟨o, h⟩) | ⟨o, its, n, h, c, _⟩
  · exact .base (.tup h)
  · exact .fTuple h
  · exact .kTuple h c
def tyn : PyData → String
  | .none => "NoneType"
  | .bool _ => "bool"
  | .int _ => "int"
  | .str _ => "str"
  | .list _ => "list"
  | .tuple _ => "tuple"
  | .dict _ => "dict"
theorem tyx_d {v : V} {d : PyData} (h : Dp K H v d) : TyX K H v (.type (tyn d)) := by
  cases h with
  | non => exact .base .non
  | bl b => exact .base (.bl b)
  | int i => exact .base (.int i)
  | str x => exact .base (.str x)
  | lst h _ => exact tyx_l h
  | tup h _ => exact tyx_t h
theorem isi_x {v : V} {A T : String} {b : Bool} (h : TyX K H v (.type A)) (hk : kitB A T = some b) (q : Q (.bl b) H) : rIsi K [v, .ty T] H Q :=
  ⟨v, .ty T, .type A, .type T, b, rfl, .ty T, h, kit_ty hk, q⟩
theorem kit_two {A B C : String} {b c : Bool} (h1 : kitB A B = some b) (h2 : kitB A C = some c) : PySem.W.kitAny K (.type A) [.type B, .type C] = some (b || c) := by
  refine kitAny_cons (kit_ty h1) (fun e => ?_) (fun e => by rw [e]; rfl)
  subst e
  refine kitAny_cons (kit_ty h2) (fun e => ?_) (fun e => by rw [e]; rfl)
  subst e
  exact kitAny_nil
theorem isiT2 {v : V} {p : Addr} {A B C : String} {b c : Bool} (h : TyX K H v (.type A)) (hp : H p = some (.tup [.ty B, .ty C])) (h1 : kitB A B = some b) (h2 : kitB A C = some c) (q : Q (.bl (b || c)) H) : rIsiT K [v, .ref p] H Q :=
  ⟨v, p, [.ty B, .ty C], .type A, [.type B, .type C], b || c, rfl, hp, .cons (.ty B) (.cons (.ty C) .nil), h, kit_two h1 h2, q⟩
theorem ex_d {H H' : Hp} (e : Ex H H') : ∀ (d : PyData) (v : V), Dp K H v d → Dp K H' v d
  | .none, _, h => by cases h; exact .non
  | .bool _, _, h => by cases h; exact .bl _
  | .int _, _, h => by cases h; exact .int _
  | .str _, _, h => by cases h; exact .str _
  | .dict _, _, h => by cases h
  | .list ds, _, h => by
    cases h with
    | lst h1 h2 => exact .lst (ex_l e h1) (all ds _ h2)
  | .tuple ds, _, h => by
    cases h with
    | tup h1 h2 => exact .tup (ex_t e h1) (all ds _ h2)
where
  all : ∀ (ds : List PyData) (vs : List V), DpAll K H vs ds → DpAll K H' vs ds
  | [], _, h => by cases h; exact .nil
  | d :: ds, _, h => by
    cases h with
    | cons h1 h2 => exact .cons (ex_d e d _ h1) (all ds _ h2)
theorem dp_len : ∀ {vs : List V} {ds : List PyData}, DpAll K H vs ds → vs.length = ds.length
  | _, _, .nil => rfl
  | _, _, .cons _ h => by rw [List.length_cons, List.length_cons, dp_len h]
theorem dp_at : ∀ {vs : List V} {ds : List PyData} {i : Nat} {v : V}, DpAll K H vs ds → vs[i]? = some v → ∃ d, ds[i]? = some d ∧ Dp K H v d
  | _, _, _, _, .nil, e => by simp at e
  | _, _, 0, _, .cons h _, e => by simp at e; subst e; exact ⟨_, rfl, h⟩
  | _, _, i + 1, _, .cons _ h, e => by
    obtain ⟨d, e1, e2⟩ := dp_at (i := i) h (by simpa using e)
    exact ⟨d, by simpa using e1, e2⟩
theorem dp_ints : ∀ ns : List Int, DpAll K H (ns.map V.int) (ns.map PyData.int)
  | [] => .nil
  | n :: ns => .cons (.int n) (dp_ints ns)
/-- data of so many levels, of moderate size -/
inductive Sh : Nat → PyData → Prop
  | non (n : Nat) : Sh n .none
  | bl (n : Nat) (b : Bool) : Sh n (.bool b)
  | int (n : Nat) (i : Int) : Sh n (.int i)
  | str (n : Nat) (x : Str) : Sh n (.str x)
  | lst {n : Nat} {ds : List PyData} (hl : ds.length ≤ 100000) (h : ∀ d ∈ ds, Sh n d) : Sh (n + 1) (.list ds)
  | tup {n : Nat} {ds : List PyData} (hl : ds.length ≤ 100000) (h : ∀ d ∈ ds, Sh n d) : Sh (n + 1) (.tuple ds)
theorem sh_ints (ns : List Int) (h : ns.length ≤ 100000) : Sh 1 (.list (ns.map PyData.int)) := .lst (by rw [List.length_map]; exact h) fun d hd => by
  obtain ⟨n, _, rfl⟩ := List.mem_map.mp hd
  exact .int 0 n
end
/-! ### more readings -/
section
variable {K : PySem.W.Frag} {σ : L2.St} {H H1 : Hp} {g : TG} {tt : TT} {te : TE} {vs : List Nat} {Dl : Addr} {Q : VK}
theorem x_eqB {m n : Bool} : rEq (.bl m) (.bl n) H Q ↔ Q (.bl (decide (m = n))) H := by
  unfold rEq
  rw [show scal (V.bl m) (V.bl n) = true from rfl]
  cases m <;> cases n <;> simp
theorem x_neB {m n : Bool} : rNe (.bl m) (.bl n) H Q ↔ Q (.bl (!decide (m = n))) H := by
  unfold rNe
  rw [show scal (V.bl m) (V.bl n) = true from rfl]
  cases m <;> cases n <;> simp
theorem x_eqS {m n : Str} : rEq (.str m) (.str n) H Q ↔ Q (.bl (decide (m = n))) H := by
  unfold rEq
  rw [show scal (V.str m) (V.str n) = true from rfl]
  by_cases e : m = n
  · subst e; simp
  · simp [e]
theorem x_neS {m n : Str} : rNe (.str m) (.str n) H Q ↔ Q (.bl (!decide (m = n))) H := by
  unfold rNe
  rw [show scal (V.str m) (V.str n) = true from rfl]
  by_cases e : m = n
  · subst e; simp
  · simp [e]
theorem allL {p : Addr} {bs : List Bool} (h : SqL K H p (bs.map V.bl)) (q : Q (.bl (bs.all id)) H) : rAll K [.ref p] H Q := ⟨p, bs, rfl, h, q⟩
theorem anyL {p : Addr} {bs : List Bool} (h : SqL K H p (bs.map V.bl)) (q : Q (.bl (bs.any id)) H) : rAny K [.ref p] H Q := ⟨p, bs, rfl, h, q⟩
theorem lenL {p : Addr} {xs : List V} (h : SqL K H p xs) (q : Q (.int (xs.length : Nat)) H) : rLen K [.ref p] H Q := ⟨p, xs, rfl, .inl h, q⟩
theorem lenT {p : Addr} {xs : List V} (h : SqT K H p xs) (q : Q (.int (xs.length : Nat)) H) : rLen K [.ref p] H Q := ⟨p, xs, rfl, .inr h, q⟩
theorem x_izipA {a : TA} {R : It → Hp → Prop} : iZipA K a σ H R = a σ H (fun vs H1 => ∃ a b xs ys, vs = [.ref a, .ref b] ∧ ((SqL K H1 a xs ∧ SqL K H1 b ys ∧ R (Itz K a b) H1) ∨ (SqT K H1 a xs ∧ SqT K H1 b ys ∧ R (ItzT K a b) H1))) := rfl
theorem eq_same {v : V} (h : scal v v = true) (q : Q (.bl true) H) : rEq v v H Q := ⟨h, by rw [decide_eq_true rfl]; exact q⟩
theorem g_three {i j l : Nat} {T : Addr} {x y z : V} {QG : L2.St → Hp → Prop} (h : H T = some (.tup [x, y, z])) (q : QG (((σ.set i (some x)).set j (some y)).set l (some z)) H) : gTup K 3 (gCons (gName i) (gCons (gName j) (gCons (gName l) gNil))) (.ref T) σ H QG :=
  ⟨T, [x, y, z], rfl, .inl (.inl h), rfl, x, [y, z], rfl, y, [z], rfl, z, [], rfl, rfl, q⟩
theorem lc_zip {a b : Addr} {xs ys : List V} {j k : Nat} (keep : Nat → Bool) (f : Nat → V) (hx : SqL K H1 a xs) (hy : SqL K H1 b ys) (he0 : xs.length = ys.length) (hD : H1 Dl = none) (hn : xs.length ≤ 100000)
    (hw : ∀ u v : V, wipe (((wipe σ vs).set j (some u)).set k (some v)) vs = wipe σ vs)
    (ht : ∀ i x y, xs[i]? = some x → ys[i]? = some y → Evl.EvT tt (((wipe σ vs).set j (some x)).set k (some y)) H1 (keep i))
    (he : ∀ i x y, xs[i]? = some x → ys[i]? = some y → keep i = true → Evl.Ev te (((wipe σ vs).set j (some x)).set k (some y)) H1 (f i))
    (hd : ∀ H', Evl.Ex H1 H' → H' Dl = some (.lst (kept xs.length keep f)) → Q (.ref Dl) H') : LcG (Itz K a b) (gTup K 2 (gCons (gName j) (gCons (gName k) gNil))) tt te vs σ Dl H1 Q := by
  have gx : ∀ i, i < xs.length → xs[i]? = some (xs.getD i .non) := fun i hi => by rw [List.getD_eq_getElem?_getD, List.getElem?_eq_getElem hi]; rfl
  have gy : ∀ i, i < xs.length → ys[i]? = some (ys.getD i .non) := fun i hi => by rw [List.getD_eq_getElem?_getD, List.getElem?_eq_getElem (by omega)]; rfl
  refine lc_pure xs.length (fun i => ((wipe σ vs).set j (some (xs.getD i .non))).set k (some (ys.getD i .non))) keep f hD hn (fun H' e => ⟨xs, ys, Evl.ex_l e hx, Evl.ex_l e hy, .inl (Nat.le_refl _)⟩)
    (fun i H' hi e => ⟨xs, ys, _, _, Evl.ex_l e hx, Evl.ex_l e hy, gx i hi, gy i hi⟩)
    (fun i H' x H'' QG hi e y q => ?_) (fun i hi => hw _ _) (fun i hi => ht i _ _ (gx i hi) (gy i hi)) (fun i hi => he i _ _ (gx i hi) (gy i hi)) hd
  obtain ⟨T, u, v, rfl, hT, rfl, hf, hf2⟩ := y
  have hu := hf xs (Evl.ex_l e hx)
  have hv := hf2 ys (Evl.ex_l e hy)
  have e1 : xs.getD i .non = u := by rw [List.getD_eq_getElem?_getD, hu]; rfl
  have e2 : ys.getD i .non = v := by rw [List.getD_eq_getElem?_getD, hv]; rfl
  refine g_two upd_same ?_
  have q2 := q (Evl.Ex.new hT)
  rw [e1, e2] at q2
  exact q2
theorem lc_zipT {a b : Addr} {xs ys : List V} {j k : Nat} (keep : Nat → Bool) (f : Nat → V) (hx : SqT K H1 a xs) (hy : SqT K H1 b ys) (he0 : xs.length = ys.length) (hD : H1 Dl = none) (hn : xs.length ≤ 100000)
    (hw : ∀ u v : V, wipe (((wipe σ vs).set j (some u)).set k (some v)) vs = wipe σ vs)
    (ht : ∀ i x y, xs[i]? = some x → ys[i]? = some y → Evl.EvT tt (((wipe σ vs).set j (some x)).set k (some y)) H1 (keep i))
    (he : ∀ i x y, xs[i]? = some x → ys[i]? = some y → keep i = true → Evl.Ev te (((wipe σ vs).set j (some x)).set k (some y)) H1 (f i))
    (hd : ∀ H', Evl.Ex H1 H' → H' Dl = some (.lst (kept xs.length keep f)) → Q (.ref Dl) H') : LcG (ItzT K a b) (gTup K 2 (gCons (gName j) (gCons (gName k) gNil))) tt te vs σ Dl H1 Q := by
  have gx : ∀ i, i < xs.length → xs[i]? = some (xs.getD i .non) := fun i hi => by rw [List.getD_eq_getElem?_getD, List.getElem?_eq_getElem hi]; rfl
  have gy : ∀ i, i < xs.length → ys[i]? = some (ys.getD i .non) := fun i hi => by rw [List.getD_eq_getElem?_getD, List.getElem?_eq_getElem (by omega)]; rfl
  refine lc_pure xs.length (fun i => ((wipe σ vs).set j (some (xs.getD i .non))).set k (some (ys.getD i .non))) keep f hD hn (fun H' e => ⟨xs, ys, Evl.ex_t e hx, Evl.ex_t e hy, .inl (Nat.le_refl _)⟩)
    (fun i H' hi e => ⟨xs, ys, _, _, Evl.ex_t e hx, Evl.ex_t e hy, gx i hi, gy i hi⟩)
    (fun i H' x H'' QG hi e y q => ?_) (fun i hi => hw _ _) (fun i hi => ht i _ _ (gx i hi) (gy i hi)) (fun i hi => he i _ _ (gx i hi) (gy i hi)) hd
  obtain ⟨T, u, v, rfl, hT, rfl, hf, hf2⟩ := y
  have hu := hf xs (Evl.ex_t e hx)
  have hv := hf2 ys (Evl.ex_t e hy)
  have e1 : xs.getD i .non = u := by rw [List.getD_eq_getElem?_getD, hu]; rfl
  have e2 : ys.getD i .non = v := by rw [List.getD_eq_getElem?_getD, hv]; rfl
  refine g_two upd_same ?_
  have q2 := q (Evl.Ex.new hT)
  rw [e1, e2] at q2
  exact q2
theorem all_true (n : Nat) : ((List.replicate n true).all id) = true := by
  induction n with
  | zero => rfl
  | succ n ih => rw [List.replicate_succ, List.all_cons, ih]; rfl
theorem kept_const (n : Nat) (v : V) : kept n (fun _ => true) (fun _ => v) = List.replicate n v := by
  rw [kept_all]
  apply List.ext_getElem?
  intro j
  rw [List.getElem?_map]
  by_cases h : j < n
  · rw [List.getElem?_range h, List.getElem?_replicate, if_pos h]
    rfl
  · rw [List.getElem?_eq_none (by rw [List.length_range]; omega), List.getElem?_eq_none (by rw [List.length_replicate]; omega)]
    rfl
end
end BC

set_option Elab.async false
set_option linter.all false
set_option maxRecDepth 100000
set_option maxHeartbeats 4000000
/-! repr of lists wants to know that no repr is under way around: promises that hold where nothing is guarded -/
namespace BC
open PySem PySem.Spec PyProof.Rows L2 Evl
/-- nothing is guarded around -/
def G0 (A : Around) : Prop := A.guards = some []
theorem G0.deeper {A : Around} (g : G0 A) (env : Env) : G0 (A.deeper env) := g
/-- FnOk where nothing is guarded around -/
structure FnG (P : Program) (w : World) (K : PySem.W.Frag) (mg : Str → Option Value) (base : Heap) (CX : CXT) (k : Nat) (f : Addr) (fd : FuncData) (ps : List Str) (sp : Sp) : Prop where
  size : ∀ vs H Q E, sp vs H Q E → vs.length = ps.length
  go : ∀ (A : Around) (outer : List Env) (s : Shared) (H : Hp) (args : Args) (us : List Value) (vs : List V) (Q : VK) (E : XK), G0 A → Room k A → Env0 P w K mg base A outer s H →
    BindsTo s fd args (ps.zip us) → Vals vs us → sp vs H Q E → codeAny (model P w) A (.call (.ref f) args) (CR CX outer P w H s Q E) s
section
variable {P : Program} {w : World} {K : PySem.W.Frag} {mg : Str → Option Value} {base : Heap} {CX : CXT} {k : Nat} {f : Addr} {fd : FuncData} {ps : List Str} {sp : Sp}
theorem FnG.of (F : FnOk P w K mg base CX k f fd ps sp) : FnG P w K mg base CX k f fd ps sp :=
  ⟨F.len, fun A outer s H args us vs Q E _ => F.run A outer s H args us vs Q E⟩
theorem FnG.up (F : FnG P w K mg base CX k f fd ps sp) {j : Nat} (h : k ≤ j) : FnG P w K mg base CX j f fd ps sp :=
  ⟨F.size, fun A outer s H args us vs Q E g hr => F.go A outer s H args us vs Q E g (hr.mono h)⟩
/-- the rule for a def -/
theorem fun_okG {x qual : Str} {st : Stmt} {N : List Str} (F : Fun K x qual st f fd) (S : FnScope N ps (defScope st)) (size : ∀ vs H Q E, sp vs H Q E → vs.length = ps.length)
    (body : ∀ (cdv : Value) (A : Around) (outer : List Env) (s : Shared) (H : Hp) (vs : List V) (Q : VK) (E : XK), G0 (A.deeper (envOfC qual (defScope st) s.heap.objs.size f cdv)) → Room k (A.deeper (envOfC qual (defScope st) s.heap.objs.size f cdv)) → sp vs H Q E →
      ∃ t, PSs (cxOf CX P w K mg base N qual (defScope st) f cdv A outer s H E) (defBody st) t ∧ t { nx := fun _ H' => Q .non H', rt := Q } (start N vs) H) : FnG P w K mg base CX (k + 1) f fd ps sp := by
  obtain ⟨oc, od, kV, doc, pm, an, cdv, ct, osl, rfl, lk, hcd⟩ := F.ex
  refine ⟨size, fun A outer s H args us vs Q E g room env bind vals prom => ?_⟩
  have inK : K.In s.heap := env.mod.kin.keeps fun b o q => (env.bs b o q).1
  have loose : s.heap.NoLimit := env.mod.nolimit.keeps fun b o q => (env.bs b o q).1
  have kinds : ∀ z ∈ ps.zip us, (defScope st).names.lookup z.1 = some .local ∨ ((defScope st).names.lookup z.1 = some .cell ∧ ((cellsFrom (s.heap.objs.size + 1) (defScope st).names []).lookup z.1).isSome = true) := by
    rintro ⟨n, v⟩ hz
    have hn := (List.of_mem_zip hz).1
    rcases S.par n hn with h | h
    · exact Or.inl h
    · exact Or.inr ⟨h, PySem.W.cellsFrom_some _ _ _ (Or.inl h)⟩
  refine codeAny_call_function room.depth (inK _ _ lk) rfl S.co S.gen rfl (PySem.W.codeRec_of inK hcd) (bind _ _ _ _ ?_)
  refine wpAny_newFunctionEnv_cells S.kind kinds fun env' e1 s1 into => ?_
  subst e1
  refine ⟨loose.keeps into.toInCall.keep, codeAny_func ?_⟩
  obtain ⟨t, deriv, read⟩ := body cdv A outer s H vs Q E (g.deeper _) (room.deeper _) prom
  have I := inv_start (CX := CX) (E := E) S room.hd env (size _ _ _ _ prom) vals into
  refine wpAny_mono (deriv.run [] s1 (start N vs) H _ I read) (fun flow s' ends => ?_) fun _ _ q => q
  have done : ∀ {σ2 : L2.St} {H2 : Hp} {v : V} {u : Value}, Inv (cxOf CX P w K mg base N qual (defScope st) f cdv A outer s H E) [] σ2 H2 s' → RelV v u → Q v H2 → CE outer P w H s Q u s' := by
    intro σ2 H2 v u J rel q
    exact ⟨v, H2, J.os, J.bare, J.base, J.hok, rel, q⟩
  match flow, ends with
  | .ret u, ends =>
    obtain ⟨v, σ2, H2, J, rel, q⟩ := ends
    exact done J rel q
  | .next, ends =>
    obtain ⟨σ2, H2, J, q⟩ := ends
    exact done (v := V.non) (u := Value.none) J rfl q
  | .brk, ends =>
    obtain ⟨_, _, _, q⟩ := ends
    exact q.elim
  | .cont, ends =>
    obtain ⟨_, _, _, q⟩ := ends
    exact q.elim
end
section
variable {X : Cx} {CX : CXT} {k : Nat} {f : Addr} {fd : FuncData} {ps : List Str} {sp : Sp} {dvs : List V} {ds : List Value} {E : XK} {x : Str} {p pos : Pos} {e : Expr} {es : List Expr} {t : TA}
theorem call_G {pins : List (Addr × Obj)} {σ : L2.St} {H : Hp} {s : Shared} {Q : VK} {us : List Value} {vs : List V} (F : FnG X.prog X.w X.K X.mg X.base CX k f fd ps sp) (g : G0 X.A) (hr : Room k X.A) (hb : Binds X.K fd ps ds) (hd : Vals dvs ds)
    (hx : Passes CX X E) (I : Inv X pins σ H s) (r : Vals vs us) (h : sp (vs ++ dvs) H Q E) : wpAny (model X.prog X.w) X.A (call (.ref f) us) (EP X pins σ Q) X.xe s := by
  have both : Vals (vs ++ dvs) (us ++ ds) := r.append hd
  have many : (us ++ ds).length = ps.length := both.length.symm.trans (F.size _ _ _ _ h)
  have run := F.go X.A X.stack s H ⟨us, []⟩ (us ++ ds) (vs ++ dvs) Q E g hr I.env0 (hb s us I.kIn many) both h
  refine wpAny_call (codeAny_mono run fun res s' q => ?_)
  match res, q with
  | .error err, q => exact hx pins σ H s err s' I q
  | .ok (.ret u), q => exact I.after q
theorem pe_callG (F : FnG X.prog X.w X.K X.mg X.base CX k f fd ps sp) (g : G0 X.A) (hr : Room k X.A) (hg : Gl X x) (hm : X.mg x = some (.ref f)) (hk : PySem.W.keepIn X.K (.ref f) = true) (hb : Binds X.K fd ps ds) (hd : Vals dvs ds) (hx : Passes CX X E)
    (ha : PA X (e :: es) t) (hdb : (x == ("__debug__" : Str)) = false := by decide) (he : starEach (e :: es) X.env = (false, eval e X.env) :: starEach es X.env := by rfl) (hpl : (backTo pos (starEach es X.env)).any (·.1) = false := by rfl) :
    PE X (.Call (.Name x p) (e :: es) [] pos) (tCall sp dvs E t) := by
  constructor
  intro pins s σ H Q I h
  have args := ha.run pos pins s σ H _ I h
  refine wpAny_Call_Name_kw (ld_glob I hg hm (PySem.W.callWith_K (h₀ := X.base) I.ok.mod.kin hk (thn args ?_) he hpl) hdb)
  rintro us s1 ⟨vs, H1, I1, r, q⟩
  exact ⟨I1.kIn, call_G F g hr hb hd hx I1 r q⟩
end

/-! ### the law's own call, for a promise of this kind -/
section
variable {P : Program} {w : World} {K : PySem.W.Frag} {mg mb : Str → Option Value} {k : Nat} {fa a : Addr} {fd : FuncData} {x : Str} {sp : Sp} {s : Shared} {vs : List Value} {ns : List Int}
/-- the abstract heap at the entry: the script alone, locked; or nothing, where the script is the module's own -/
def entryH (a : Addr) (vs : List Value) (ns : List Int) (own : Bool) : Hp := fun b => if own = false ∧ b = a then some (.frz { cls := .type "list", data := .seq vs.toArray } (.lst (ns.map V.int))) else none
theorem entry_other {own : Bool} {b : Addr} (h : b ≠ a) : entryH a vs ns own b = none := if_neg fun z => h z.2
theorem entry_own {b : Addr} : entryH a vs ns true b = none := if_neg fun z => nomatch z.1
theorem entry_at : entryH a vs ns false a = some (.frz { cls := .type "list", data := .seq vs.toArray } (.lst (ns.map V.int))) := if_pos ⟨rfl, rfl⟩
theorem entry_case {own : Bool} {b : Addr} {o : HO} (h : entryH a vs ns own b = some o) : own = false ∧ b = a ∧ o = .frz { cls := .type "list", data := .seq vs.toArray } (.lst (ns.map V.int)) := by
  unfold entryH at h
  by_cases q : own = false ∧ b = a
  · rw [if_pos q] at h
    exact ⟨q.1, q.2, (Option.some.inj h).symm⟩
  · rw [if_neg q] at h
    cases h
theorem law_goG (hK : K.In s.heap) (hns : s.heap.Ns mainGlobals mg) (hb : s.heap.Ns builtinsNs mb) (hbb : ∀ x : Str, x ≠ "__name__" → mb x = bootBuiltins x) (hlim : s.heap.NoLimit) (hg : s.gens = #[])
    (ha : s.heap.get? a = some { cls := .type "list", data := .seq vs.toArray }) (hi : IntsAre vs ns) (hl : ns.length ≤ sizeLine) (hr : Room k callerA)
    (F : ∀ base : Heap, K.In base → base.Ns mainGlobals mg → FnG P w K mg base CX0 k fa fd [x] sp) (bind : ∀ (s : Shared) (u : Value), BindsTo s fd ⟨[u], []⟩ [(x, u)])
    (prom : ∀ H : Hp, SqL K H a (ns.map V.int) → sp [.ref a] H (fun v _ => v = .bl true) fun _ _ _ => False) :
    codeAny (model P w) callerA (.call (.ref fa) ⟨[.ref a], []⟩) (fun r s' => r = .ok (.ret (.bool true)) ∧ OldK s.heap s'.heap ∧ s'.os = s.os ∧ AllBare s'.gens) s := by
  have rv := vals_ints hi
  have many := hi.length
  obtain ⟨own, hown⟩ : ∃ own : Bool, own = (K.lookup a).isSome := ⟨_, rfl⟩
  let H : Hp := entryH a vs ns own
  have reads : SqL K H a (ns.map V.int) := by
    cases q : K.lookup a with
    | none =>
      have e : own = false := by rw [hown, q]; rfl
      exact Or.inl (Or.inr ⟨_, by show entryH a vs ns own a = _; rw [e]; exact entry_at⟩)
    | some o =>
      have z := hK a o q
      rw [ha] at z
      cases z
      refine Or.inr ⟨_, vs.toArray, _, q, rfl, rfl, rfl, ?_, ?_⟩
      · rw [List.size_toArray, many]
        exact hl
      · exact rv
  have held : HOk P w H s.heap := fun b o q => by
    obtain ⟨_, rfl, rfl⟩ := entry_case q
    exact ⟨ha, by rw [List.length_map]; exact hl, vs, _, rv, ha⟩
  have spare : ∀ {b : Addr} {o : Obj}, s.heap.get? b = some o → (∀ u n, o.data ≠ .seq u n) → H b = none := fun {b o} e d => by
    cases q : H b with
    | none => rfl
    | some u =>
      obtain ⟨_, rfl, _⟩ := entry_case q
      rw [ha] at e
      cases e
      exact absurd rfl (d _ _)
  have nsT : ∀ {b : Addr} {m : Str → Option Value}, s.heap.Ns b m → (hidT s.heap H).Ns b m := by
    rintro b m ⟨o, es, ep, e, d, r⟩
    exact ⟨o, es, ep, hidT_get e (spare e fun u n z => by rw [d] at z; cases z), d, r⟩
  have kT : K.In (hidT s.heap H) := fun b o e => hidT_get (hK b o e) (by
    cases q : H b with
    | none => rfl
    | some u =>
      obtain ⟨z, rfl, _⟩ := entry_case q
      rw [hown, e] at z
      cases z)
  have module : Mod K mg (hidT s.heap H) := ⟨kT, nsT hns, ⟨mb, nsT hb, hbb⟩, by obtain ⟨mc, h1, h2⟩ := hlim; exact ⟨mc, nsT h1, h2⟩⟩
  have entry : Env0 P w K mg (hidT s.heap H) callerA [] s H :=
    ⟨rfl, module, fun b o e => of_hidT e, Nat.le_of_eq (hidT_size _ _), trivial, fun b z => (List.not_mem_nil z).elim, held, .of_eq hg⟩
  have ran := (F _ kT (nsT hns)).go callerA [] s H ⟨[.ref a], []⟩ [.ref a] [.ref a] _ _ rfl hr entry (bind s (.ref a)) (.cons rfl .nil) (prom H reads)
  refine codeAny_mono ran fun r s' q => ?_
  match r, q with
  | .ok (.ret u), q =>
    obtain ⟨v, H', os, bare, un, held', rel, fin⟩ := q
    obtain rfl : v = .bl true := fin
    obtain rfl : u = Value.bool true := rel
    refine ⟨rfl, OldK.of_keep fun b o e => ?_, os, bare⟩
    cases q : H b with
    | none => exact un.keep b o e q (fun z => (List.not_mem_nil z).elim) List.not_mem_nil
    | some u =>
      obtain ⟨_, rfl, rfl⟩ := entry_case q
      have z := (held' _ _ (un.frzs _ _ _ q)).1
      rw [ha] at e
      cases e
      exact z
theorem walk_G {l : PySem.W.OpenLaw} {n k : Nat} {q : Program} {loose : List Str} {XP : (Str → Option Value) → Heap → Prop} {YP : World → Heap → Prop} {d : DefRec} {K : Params → PySem.W.Frag} {sp : World → Sp} {x : Str}
    (hn : l.most = some n) (hn2 : n ≤ sizeLine) (hdf : d.params.defaults = []) (hr : Room k callerA) (hY : ∀ (w : World) (h : Heap), YP w h → (K w.params).In h)
    (F : ∀ (w : World) (mg : Str → Option Value) (fa : Addr) (h : Heap), (K w.params).In h → h.Ns mainGlobals mg → mg d.name = some (.ref fa) →
      ∃ fd : FuncData, (∀ (s : Shared) (u : Value), BindsTo s fd ⟨[u], []⟩ [(x, u)]) ∧ ∀ base : Heap, (K w.params).In base → base.Ns mainGlobals mg → FnG l.prog w (K w.params) mg base CX0 k fa fd [x] (sp w))
    (prom : ∀ (w : World) (H : Hp) (a : Addr) (ns : List Int), ns.length ≤ n → SqL (K w.params) H a (ns.map V.int) → sp w [.ref a] H (fun v _ => v = .bl true) fun _ _ _ => False) :
    PySem.W.WalkO q loose XP YP l.row.toRowW d [] (fun f vs => PySem.call f vs) := by
  refine Att.attach_call hn hdf ?_
  intro w s0 s1 mg mb fa o pm cd doc a vs ns G Y _ hd hcd hmg hobj hints hlen hg
  have inK := hY w _ Y
  obtain ⟨fd, bind, keep⟩ := F w mg fa _ inK G.T.g hmg
  exact law_goG inK G.T.g G.T.b G.T.builtins G.T.nolimit hg hobj hints (Nat.le_trans hlen hn2) hr keep bind fun H hS => prom w H a ns hlen hS
end
end BC

set_option Elab.async false
set_option linter.all false
set_option maxRecDepth 100000
set_option maxHeartbeats 4000000
/-! repr, keywords, more readings -/
namespace BC
open PySem PySem.Spec PyProof.Rows L2 Evl
section
variable {X : Cx} {K : PySem.W.Frag} {σ : L2.St} {H : Hp} {Q : VK}
/-- repr of lists, tuples and what lies in them -/
def rRepr (K : PySem.W.Frag) : List V → Hp → VK → Prop := fun xs H Q => ∃ a d, xs = [.ref a] ∧ Dp K H (.ref a) d ∧ d.showable = true ∧ d.depth ≤ 60 ∧ d.hasDict = false ∧ d.shown.length ≤ sizeLine ∧ Q (.str d.shown) H
theorem k_repr (hK : X.K = K) (g : G0 X.A) (hu : X.A.units + 64 < cLine) : CallR X (.builtin "repr") (rRepr K) := by
  subst hK
  intro pins s σ H xs us Q I r h
  obtain ⟨a, d, rfl, hd, h1, h2, h3, h4, q⟩ := h
  obtain ⟨u, rfl, rfl⟩ := vals1 r
  obtain ⟨as, rd⟩ := Dp.reads I d (.ref a) (.ref a) hd rfl
  exact repr_of_reads' rd h1 (PyData.noDict_hsm h3) g (by omega) (fun _ _ e => e) (fun h' u tk hk => ⟨.str _, H, I.kept hk, ⟨_, rfl⟩, q⟩) h4
def rIsB : R2 := fun x y H Q => ∃ a b, x = .bl a ∧ y = .bl b ∧ Q (.bl (decide (a = b))) H
def rIsNB : R2 := fun x y H Q => ∃ a b, x = .bl a ∧ y = .bl b ∧ Q (.bl (!decide (a = b))) H
theorem op_isB : OpR X (compareOp .Is) rIsB := op_is_bl
theorem op_isNB : OpR X (compareOp .IsNot) rIsNB := op_isnot_bl
theorem x_isB {a b : Bool} : rIsB (.bl a) (.bl b) H Q ↔ Q (.bl (decide (a = b))) H := ⟨fun ⟨i, j, e1, e2, q⟩ => by cases e1; cases e2; exact q, fun q => ⟨a, b, rfl, rfl, q⟩⟩
theorem x_isNB {a b : Bool} : rIsNB (.bl a) (.bl b) H Q ↔ Q (.bl (!decide (a = b))) H := ⟨fun ⟨i, j, e1, e2, q⟩ => by cases e1; cases e2; exact q, fun q => ⟨a, b, rfl, rfl, q⟩⟩
theorem x_lrg {te : L2.St → Hp → (Int → Int → Hp → Prop) → Prop} : tLstRg te σ H Q = te σ H fun a b H1 => RgOk a b ∧ ∀ q, H1 q = none → Q (.ref q) (upd H1 q (.lst (rgV a b))) := rfl
theorem x_rg1 {ta : TE} {R : Int → Int → Hp → Prop} : tRg1 ta σ H R = ta σ H fun x H1 => ∃ n, x = .int n ∧ R 0 n H1 := rfl
theorem x_rg2 {ta tb : TE} {R : Int → Int → Hp → Prop} : tRg2 ta tb σ H R = ta σ H fun x H1 => tb σ H1 fun y H2 => ∃ i j, x = .int i ∧ y = .int j ∧ R i j H2 := rfl
end
theorem Fx.mut {b r : Addr} {H H' : Hp} {o : HO} (f : Fx b H H') (n : H r = none) : Fx b H (upd H' r o) := fun a u na h => by rw [upd_ne (ne_of_none h n)]; exact f a u na h
theorem fx_none {b x : Addr} {H H' : Hp} (h : Fx b H H') (n : H' x = none) (nb : x ≠ b) : H x = none := by
  cases e : H x with
  | none => rfl
  | some o => rw [h _ _ nb e] at n; cases n
/-- a promise that asks for more -/
theorem weak {P : Program} {w : World} {K : PySem.W.Frag} {mg : Str → Option Value} {base : Heap} {CX : CXT} {k : Nat} {f : Addr} {fd : FuncData} {ps : List Str} {sp sp' : Sp} (F : FnOk P w K mg base CX k f fd ps sp) (h : ∀ vs H Q E, sp' vs H Q E → sp vs H Q E) : FnOk P w K mg base CX k f fd ps sp' :=
  ⟨fun vs H Q E q => F.len vs H Q E (h _ _ _ _ q), fun A outer s H args us vs Q E hr env bind vals q => F.run A outer s H args us vs Q E hr env bind vals (h _ _ _ _ q)⟩
/-! ### a cut: what stands after one statement -/
section
variable {σ : L2.St} {H : Hp} {D : Ends} {ta : TE} {s1 s2 : TS} {i : Nat}
theorem seq_asg (C : V → Hp → Prop) (h1 : ∀ R : VK, (∀ v H', C v H' → R v H') → ta σ H R) (h2 : ∀ v H', C v H' → s2 D (σ.set i (some v)) H') : tSeq (tAsg ta (gName i)) s2 D σ H := h1 _ h2
theorem seq_cut (C : L2.St → Hp → Prop) (h1 : ∀ N : L2.St → Hp → Prop, (∀ σ' H', C σ' H' → N σ' H') → s1 { D with nx := N } σ H) (h2 : ∀ σ' H', C σ' H' → s2 D σ' H') : tSeq s1 s2 D σ H := h1 _ h2
end
/-! ### keywords -/
def kg {α : Type} (d : α) (a b : Nat) (perm : List Nat) (us ws : List α) : List α := if us.length = a ∧ ws.length = b then perm.map fun i => (us ++ ws).getD i d else []
theorem vals_getD : ∀ {vs : List V} {us : List Value}, Vals vs us → ∀ i, RelV (vs.getD i .non) (us.getD i .none)
  | [], [], .nil, _ => rfl
  | _ :: _, _ :: _, .cons h _, 0 => h
  | _ :: _, _ :: _, .cons _ r, i + 1 => vals_getD r i
theorem vals_perm {vs : List V} {us : List Value} (r : Vals vs us) : ∀ p : List Nat, Vals (p.map fun i => vs.getD i .non) (p.map fun i => us.getD i .none)
  | [] => .nil
  | i :: p => .cons (vals_getD r i) (vals_perm r p)
theorem kg_rel {a b : Nat} {p : List Nat} {vs : List V} {us : List Value} {zs : List V} {ws : List Value} (r : Vals vs us) (z : Vals zs ws) : Vals (kg .non a b p vs zs) (kg .none a b p us ws) := by
  unfold kg
  rw [r.length, z.length]
  split
  · exact vals_perm (r.append z) p
  · exact .nil
theorem kg_mk {K : PySem.W.Frag} {fd : FuncData} {q : Str} {ps ks : List Str} {a b : Nat} {p : List Nat} (h : ∀ us ws : List Value, us.length = a → ws.length = b → bindArgs fd ⟨us, ks.zip ws⟩ = pure ((q :: ps).zip (p.map fun i => (us ++ ws).getD i .none))) :
    KBinds K fd (q :: ps) ks (kg .none a b p) (kg .non a b p) := by
  refine ⟨fun s us ws _ hl => ?_, kg_rel⟩
  unfold kg at hl ⊢
  split at hl
  · next c =>
    rw [if_pos c]
    exact .of_eq (h us ws c.1 c.2)
  · cases hl
theorem fun_okN {P : Program} {w : World} {K : PySem.W.Frag} {mg : Str → Option Value} {base : Heap} {CX : CXT} {k : Nat} {f : Addr} {fd : FuncData} {ps : List Str} {sp : Sp} {x qual : Str} {st : Stmt} {N : List Str} (F : Fun K x qual st f fd) (S : FnScope N ps (defScope st)) (size : ∀ vs H Q E, sp vs H Q E → vs.length = ps.length)
    (body : ∀ (cdv : Value) (A : Around) (outer : List Env) (s : Shared) (H : Hp) (vs : List V) (Q : VK) (E : XK), G0 (A.deeper (envOfC qual (defScope st) s.heap.objs.size f cdv)) → Room k (A.deeper (envOfC qual (defScope st) s.heap.objs.size f cdv)) → sp vs H Q E →
      ∃ t, PSs (cxOf CX P w K mg base N qual (defScope st) f cdv A outer s H E).nox (defBody st) t ∧ t { nx := fun _ H' => Q .non H', rt := Q } (start N vs) H) : FnG P w K mg base CX (k + 1) f fd ps sp :=
  fun_okG F S size fun cdv A outer s H vs Q E hG hr h => let ⟨t, d, q⟩ := body cdv A outer s H vs Q E hG hr h; ⟨t, d.nox, q⟩
theorem Fun.kb {K : PySem.W.Frag} {x qual q : Str} {st : Stmt} {f : Addr} {fd : FuncData} {ps ks : List Str} {a b : Nat} {p : List Nat} (F : Fun K x qual st f fd)
    (h : ∀ (kV doc pm : Value) (an : Option Addr) (cdv ct : Value) (us ws : List Value), us.length = a → ws.length = b → bindArgs (PySem.W.fnOf x qual (defArgs st) (defBody st) (defScope st) .none kV doc pm an cdv ct) ⟨us, ks.zip ws⟩ = pure ((q :: ps).zip (p.map fun i => (us ++ ws).getD i .none))) :
    KBinds K fd (q :: ps) ks (kg .none a b p) (kg .non a b p) := by
  obtain ⟨oc, od, kV, doc, pm, an, cdv, ct, osl, rfl, lk, hcd⟩ := F.ex
  exact kg_mk (h kV doc pm an cdv ct)
section
variable {X : Cx} {CX : CXT} {k : Nat} {f : Addr} {fd : FuncData} {ps ks : List Str} {sp : Sp} {E : XK} {x : Str} {p pos : Pos} {e : Expr} {es : List Expr} {kws : List Keyword} {t tk : TA} {g : List Value → List Value → List Value} {gV : List V → List V → List V}
theorem pe_callK0 (F : FnOk X.prog X.w X.K X.mg X.base CX k f fd ps sp) (hr : Room k X.A) (hg : Gl X x) (hm : X.mg x = some (.ref f)) (hk : PySem.W.keepIn X.K (.ref f) = true) (hb : KBinds X.K fd ps ks g gV) (hx : Passes CX X E)
    (hkw : PK X kws tk) (hall : (backToKw pos (keywordEach kws X.env)).all (·.1.isSome) = true := by rfl) (hks : (backToKw pos (keywordEach kws X.env)).filterMap (·.1) = ks := by rfl)
    (hdb : (x == ("__debug__" : Str)) = false := by decide)
    (hpl : ((backTo pos (starEach [] X.env)).any (·.1) || (backToKw pos (keywordEach kws X.env)).any (·.1.isNone)) = false := by rfl) :
    PE X (.Call (.Name x p) [] kws pos) (tCallK sp gV E tNil tk) := by
  refine ⟨fun pins s σ H Q I h => ?_⟩
  refine wpAny_Call_Name_kw (ld_glob I hg hm ?_ hdb)
  refine PySem.W.callWith_KW0 (h₀ := X.base) I.ok.mod.kin hk hall (thn (hkw.run pos pins s σ H _ I h) fun ws s2 ⟨zs, H2, I2, rz, q2⟩ => ⟨I2.kIn, ?_⟩) hpl
  rw [hks]
  exact run_fnk F hr hb hx I2 .nil rz q2
theorem run_fnkG {pins : List (Addr × Obj)} {σ : L2.St} {H : Hp} {s : Shared} {Q : VK} {us ws : List Value} {vs zs : List V} (F : FnG X.prog X.w X.K X.mg X.base CX k f fd ps sp) (g0 : G0 X.A) (hr : Room k X.A) (hb : KBinds X.K fd ps ks g gV) (hx : Passes CX X E)
    (I : Inv X pins σ H s) (r : Vals vs us) (rz : Vals zs ws) (h : sp (gV vs zs) H Q E) : wpAny (model X.prog X.w) X.A (call (.ref f) us (ks.zip ws)) (EP X pins σ Q) X.xe s := by
  have r2 := hb.rel r rz
  have hl : (g us ws).length = ps.length := by rw [← r2.length]; exact F.size _ _ _ _ h
  refine wpAny_call (codeAny_mono (F.go X.A X.stack s H ⟨us, ks.zip ws⟩ (g us ws) (gV vs zs) Q E g0 hr I.env0 (hb.to s us ws I.kIn hl) r2 h) fun r s' hq => ?_)
  cases r with
  | error e => exact hx pins σ H s e s' I hq
  | ok fl =>
    cases fl with
    | ret u => exact I.after hq
    | next => exact False.elim hq
    | brk => exact False.elim hq
    | cont => exact False.elim hq
theorem pe_callKG (F : FnG X.prog X.w X.K X.mg X.base CX k f fd ps sp) (g0 : G0 X.A) (hr : Room k X.A) (hg : Gl X x) (hm : X.mg x = some (.ref f)) (hk : PySem.W.keepIn X.K (.ref f) = true) (hb : KBinds X.K fd ps ks g gV) (hx : Passes CX X E)
    (ha : PA X (e :: es) t) (hkw : PK X kws tk) (hall : (backToKw pos (keywordEach kws X.env)).all (·.1.isSome) = true := by rfl) (hks : (backToKw pos (keywordEach kws X.env)).filterMap (·.1) = ks := by rfl)
    (hdb : (x == ("__debug__" : Str)) = false := by decide) (he : starEach (e :: es) X.env = (false, eval e X.env) :: starEach es X.env := by rfl)
    (hpl : ((backTo pos (starEach (e :: es) X.env)).any (·.1) || (backToKw pos (keywordEach kws X.env)).any (·.1.isNone)) = false := by rfl) :
    PE X (.Call (.Name x p) (e :: es) kws pos) (tCallK sp gV E t tk) := by
  refine ⟨fun pins s σ H Q I h => ?_⟩
  refine wpAny_Call_Name_kw (ld_glob I hg hm ?_ hdb)
  refine PySem.W.callWith_KW (h₀ := X.base) I.ok.mod.kin hk hall (thn (ha.run pos pins s σ H _ I h) fun us s1 ⟨vs, H1, I1, r, q⟩ => ?_) hpl he
  refine thn (hkw.run pos pins s1 σ H1 _ I1 q) fun ws s2 ⟨zs, H2, I2, rz, q2⟩ => ⟨I2.kIn, ?_⟩
  rw [hks]
  exact run_fnkG F g0 hr hb hx I2 r rz q2
end
end BC

set_option Elab.async false
set_option linter.all false
set_option maxRecDepth 100000
set_option maxHeartbeats 4000000
/-! xs[:] = ys -/
namespace BC
open PySem PySem.Spec PyProof.Rows L2 Evl
theorem bounds_all (n : Nat) : sliceBounds none none none n = (((0 : Nat) : Int), ((n : Nat) : Int), 1) := by
  simp [sliceBounds]
section
variable {prog : Program} {w : World} {A : Around} {s : Shared} {E : Value → Shared → Prop}
theorem setItem_all {l b sl : Addr} {items new : Array Value} {n n2 : Nat} {vl vu : Value} {Q : Unit → Shared → Prop}
    (e : s.heap.get? l = some { cls := .type "list", data := .seq items n }) (e2 : s.heap.get? b = some { cls := .type "list", data := .seq new n2 }) (hne : l ≠ b)
    (hs : s.heap.IsSliceOf sl vl vu .none) (pl : IsPart vl none) (pu : IsPart vu none)
    (hsz : items.size + new.size ≤ sizeLine) (h : Q () { s with heap := s.heap.update l (Obj.mapSeq fun xs => xs.extract 0 0 ++ new ++ xs.extract items.size xs.size) }) :
    wpAny (model prog w) A (setItem (.ref l) (.ref sl) (.ref b)) Q E s := by
  have hl : s.heap.IsList l items := PySem.IsL.isList e
  have hb : s.heap.IsList b new := PySem.IsL.isList e2
  obtain ⟨os, hos, hcs, hds⟩ := id hs
  have hTs : s.TypeIs (.ref sl) "slice" := ⟨os, hos, hcs⟩
  have hstep : ¬ ((rawPart none == rawInt 0) = true) := Bool.false_ne_true
  have hsame : Builtin.List.listSameRef (.ref l) (.ref b) = false := by
    unfold Builtin.List.listSameRef
    exact beq_eq_false_iff_ne.mpr hne
  have hmax : (max ((0 : Nat) : Int) ((items.size : Nat) : Int)).toNat = items.size := by omega
  have hz' : ((fun xs : Array Value => xs.extract 0 0 ++ new ++ xs.extract items.size xs.size) items).size ≤ sizeLine + 1 := by
    simp only [Array.size_append, Array.size_extract]
    omega
  unfold setItem
  try with_reducible refine wpAny_holding ?_
  first | refine wpAny_bind (wpAny_pure ?_) | skip
  refine wpAny_bind (wpAny_sequenceKey hl.typeIs (by decide) ?_)
  refine wpAny_bind (wpAny_callSpecial?_slot (name := Str.ofString "__setitem__") hl.typeIs slot_list_setitem
    (wpAny_call_entry slot_list_setitem hl.typeIs entry_list_setitem ?_ (args_list_setitem _ _ _)))
  show wpAny _ _ (Builtin.List.listSubscript? (.ref sl) >>= _) _ _ s
  refine wpAny_bind ?_
  unfold Builtin.List.listSubscript?
  refine wpAny_bind (wpAny_specialOf hTs slice_no_index ?_)
  simp only [Option.isNone_none, if_true]
  refine wpAny_pure ?_
  show wpAny _ _ (typeOf (.ref sl) >>= _) _ _ s
  refine wpAny_bind (wpAny_typeOf hTs ?_)
  first
    | rw [if_neg (by decide)]
    | refine PySem.W.KFB.if_not (by decide) ?_
  rw [listSliceParts_eq]
  refine wpAny_bind (wpAny_bind (wpAny_field hos hds (x := .none) rfl (wpAny_bind (wpAny_listPart .none ?_))))
  rw [if_neg hstep]
  refine wpAny_bind (wpAny_field hos hds (x := vl) rfl (wpAny_bind (wpAny_listPart pl ?_)))
  refine wpAny_bind (wpAny_field hos hds (x := vu) rfl (wpAny_bind (wpAny_listPart pu (wpAny_pure ?_))))
  first
    | simp only [hsame, Bool.false_eq_true, if_false]
    | refine PySem.W.KFB.if_not hsame ?_
    | (dsimp only
       rw [if_neg (by rw [hsame]; exact Bool.false_ne_true)])
  refine wpAny_bind (m := Builtin.List.listAllItems (.ref b) "must assign iterable to extended slice") ?_
  unfold Builtin.List.listAllItems
  refine wpAny_bind (wpAny_typeOf hb.typeIs ?_)
  first
    | refine PySem.W.KFB.if_so (by decide) ?_
    | rw [if_pos (by decide)]
    | simp only [beq_self_eq_true, Bool.true_or, if_true]
  unfold Builtin.List.listItems
  refine wpAny_bind (wpAny_seqItems e2 rfl (wpAny_pure ?_))
  refine wpAny_bind (wpAny_bind (wpAny_seqItems e rfl (wpAny_pure ?_)))
  refine wpAny_bind (wpAny_of_eq ((sliceIndices_raw none none none items.size (by simp)).trans (congrArg (pure : Int × Int × Int → Sem (Int × Int × Int)) (bounds_all items.size))) ?_)
  show wpAny _ _ (if ((1 : Int) == 1) = true then _ else _) _ _ s
  rw [if_pos (by decide)]
  refine wpAny_bind (wpAny_rule ?_)
  first
    | simp only [notLongL hsz, Bool.false_eq_true, if_false]
    | refine PySem.W.KFB.if_not (notLongL hsz) ?_
  first | refine wpAny_bind (wpAny_pure ?_) | skip
  show wpAny _ _ (updateSeq l (fun xs => xs.extract 0 ((0 : Nat) : Int).toNat ++ new ++ xs.extract (max ((0 : Nat) : Int) ((items.size : Nat) : Int)).toNat xs.size) >>= _) _ _ s
  rw [hmax, Int.toNat_natCast]
  refine wpAny_bind (wpAny_updateSeq (hz := Nat.le_trans (Nat.le_add_right _ _) hsz) (_hz' := hz') e rfl ?_)
  refine wpAny_bind (wpAny_letGo ?_)
  first
    | exact wpAny_bind (wpAny_pure (wpAny_pure ⟨.none, rfl, wpAny_pure h⟩))
    | exact wpAny_pure ⟨.none, rfl, wpAny_pure h⟩
end
section
variable {X : Cx} {o e : Expr} {to : TE} {p2 pos : Pos}
/-- o[:] = v, both lists -/
def gAll (to : TE) : TG := fun v σ H QG => to σ H fun x H1 => ∃ a b xs ys, x = .ref a ∧ v = .ref b ∧ a ≠ b ∧ H1 a = some (.lst xs) ∧ H1 b = some (.lst ys) ∧ xs.length + ys.length ≤ sizeLine ∧ QG σ (upd H1 a (.lst ys))
theorem set_all {pins : List (Addr × Obj)} {s : Shared} {σ : L2.St} {H : Hp} {l b sl : Addr} {xs ys : List V} {vl vu : Value} {Q : Unit → Shared → Prop} (I : Inv X pins σ H s)
    (hH : H l = some (.lst xs)) (hB : H b = some (.lst ys)) (hne : l ≠ b) (hs : s.heap.IsSliceOf sl vl vu .none) (pl : IsPart vl none) (pu : IsPart vu none)
    (hz : xs.length + ys.length ≤ sizeLine) (h : ∀ s', Inv X pins σ (upd H l (.lst ys)) s' → Q () s') :
    wpAny (model X.prog X.w) X.A (setItem (.ref l) (.ref sl) (.ref b)) Q X.xe s := by
  obtain ⟨z, its, n, r, hl, e⟩ := I.lstM hH
  obtain ⟨z2, its2, n2, r2, hl2, e2⟩ := I.lstM hB
  refine setItem_all e e2 hne hs pl pu (by rw [List.size_toArray, List.size_toArray]; omega) (h _ ?_)
  refine I.lset (its' := its2) (t' := s.toks) hH e ?_ r2 (by omega)
  simp
theorem pg_all (ho : PE X o to)
    (ha0 : ∀ v, assign (.Subscript o (.Slice none none none p2) pos) X.env v = (do
      let ov ← holding [v] (eval o X.env)
      let iv ← holding [v, ov] (eval (.Slice none none none p2) X.env)
      standAt pos
      holding [v, ov, iv] (setItem ov iv v)
      release [iv, v, ov] []) := by intro _; rfl) : PG X (.Subscript o (.Slice none none none p2) pos) (gAll to) := by
  refine ⟨fun pins s σ H v u Q I r h => ?_⟩
  rw [ha0]
  refine wpAny_bind (wpAny_holding (thn (ho.run pins s σ H _ I h) fun ov s1 ⟨x, H1, I1, r1, q1⟩ => ?_))
  obtain ⟨a, b, xs, ys, rfl, rfl, hne, ha, hb, hz, q⟩ := q1
  cases r1
  cases r
  refine wpAny_bind (wpAny_holding ?_)
  refine wpAny_Slice ?_
  rw [evalPart_none]
  refine wpAny_pure ?_
  refine wpAny_pure ?_
  refine wpAny_pure ?_
  have I4 : Inv X pins σ H1 { s1 with heap := s1.heap.push { cls := .type "slice", data := .fields #[.none, .none, .none] } } := I1.kept (t' := s1.toks) fun b ob q => Heap.get?_push_of_some _ q
  refine wpAny_bind (wpAny_standAt (wpAny_bind (wpAny_holding ?_)))
  refine set_all I4 ha hb hne (Heap.IsSliceOf.new ..) .none .none hz fun s' I5 => ?_
  exact wpAny_release ⟨σ, _, I5, q⟩
def rDivmod : List V → Hp → VK → Prop := fun xs H Q => ∃ i j, xs = [.int i, .int j] ∧ CDivW i j ∧ ∀ p, H p = none → Q (.ref p) (upd H p (.tup [.int (i / j), .int (i % j)]))
theorem call_dmX : CallR X (.builtin "divmod") rDivmod := by
  intro pins s σ H xs us Q I r h
  obtain ⟨i, j, rfl, hc, q⟩ := h
  obtain ⟨u, u2, rfl, ⟨t, rfl⟩, ⟨t2, rfl⟩⟩ := vals2 r
  have pos : 0 < j := hc.1
  have new := I.hok.fresh (Nat.le_refl s.heap.objs.size)
  refine divmod_int (by omega) ?_ (.inl (PyProof.noPylong_of_log2 hc.2))
  rw [Int.fdiv_eq_ediv_of_nonneg i (by omega), Int.fmod_eq_emod_of_nonneg i (by omega)]
  refine ⟨.ref s.heap.objs.size, _, ?_, rfl, q _ new⟩
  refine I.laid (fun b o e => Heap.get?_push_of_some _ e) (Nat.le_refl _) ⟨?_, [.int (i / j) s.toks, .int (i % j) (s.toks + 1)], .cons ⟨_, rfl⟩ (.cons ⟨_, rfl⟩ .nil), ?_⟩
  · exact Evl.sz_of (by simp)
  · exact ⟨_, Heap.get?_push_size s.heap rfl, rfl, 0, rfl⟩
theorem x_gall {σ : L2.St} {H : Hp} {v : V} {QG : L2.St → Hp → Prop} : gAll to v σ H QG = to σ H fun x H1 => ∃ a b xs ys, x = .ref a ∧ v = .ref b ∧ a ≠ b ∧ H1 a = some (.lst xs) ∧ H1 b = some (.lst ys) ∧ xs.length + ys.length ≤ sizeLine ∧ QG σ (upd H1 a (.lst ys)) := rfl
end
end BC

set_option Elab.async false
set_option linter.all false
set_option maxRecDepth 100000
set_option maxHeartbeats 4000000
/-! comprehensions that change what stands, or whose values are chosen as they come -/
namespace BC
open PySem PySem.Spec PyProof.Rows L2 Evl
section
variable {K : PySem.W.Frag} {σ : L2.St} {H1 : Hp} {g : TG} {te : TE} {vs : List Nat} {Dl : Addr} {Q : VK}
theorem lc_rngE {lo : Int} {n : Nat} (Pv : Nat → Hp → Prop) (h0 : Pv 0 (upd H1 Dl (.lst [])))
    (hs : ∀ i H, i < n → Pv i H → g (.int (lo + i)) (wipe σ vs) H fun σ2 H2 => wipe σ2 vs = wipe σ vs ∧ te σ2 H2 fun y H4 => ∃ acc, H4 Dl = some (.lst acc) ∧ acc.length < sizeLine ∧ Pv (i + 1) (upd H4 Dl (.lst (acc ++ [y]))))
    (hd : ∀ H, Pv n H → Q (.ref Dl) H) : LcG (Itr lo n) g tYes te vs σ Dl H1 Q := by
  refine lc_g n Pv h0 (fun H h => Nat.le_refl _) (fun i H hi h => hi) (fun i H x H' hi h y => ?_) hd
  obtain ⟨rfl, rfl⟩ := y
  have q := hs i _ hi h
  exact q
theorem lc_listE {a : Addr} {xs : List V} (Pv : Nat → Hp → Prop) (h0 : Pv 0 (upd H1 Dl (.lst []))) (hl : ∀ i H, i ≤ xs.length → Pv i H → SqL K H a xs)
    (hs : ∀ i x H, xs[i]? = some x → Pv i H → g x (wipe σ vs) H fun σ2 H2 => wipe σ2 vs = wipe σ vs ∧ te σ2 H2 fun y H4 => ∃ acc, H4 Dl = some (.lst acc) ∧ acc.length < sizeLine ∧ Pv (i + 1) (upd H4 Dl (.lst (acc ++ [y]))))
    (hd : ∀ H, Pv xs.length H → Q (.ref Dl) H) : LcG (Itl K a) g tYes te vs σ Dl H1 Q := by
  refine lc_g xs.length Pv h0 (fun H h => ⟨xs, hl _ H (Nat.le_refl _) h, Nat.le_refl _⟩) (fun i H hi h => ⟨xs, xs[i], hl i H (by omega) h, List.getElem?_eq_getElem hi⟩) (fun i H x H' hi h y => ?_) hd
  obtain ⟨rfl, hf⟩ := y
  exact hs i x _ (hf xs (hl i _ (by omega) h)) h
end
/-- a fourfold tuple unpacked -/
theorem g_four {K : PySem.W.Frag} {σ : L2.St} {H : Hp} {i j l m : Nat} {T : Addr} {x y z u : V} {QG : L2.St → Hp → Prop} (h : H T = some (.tup [x, y, z, u])) (q : QG ((((σ.set i (some x)).set j (some y)).set l (some z)).set m (some u)) H) : gTup K 4 (gCons (gName i) (gCons (gName j) (gCons (gName l) (gCons (gName m) gNil)))) (.ref T) σ H QG :=
  ⟨T, [x, y, z, u], rfl, .inl (.inl h), rfl, x, [y, z, u], rfl, y, [z, u], rfl, z, [u], rfl, u, [], rfl, rfl, q⟩
theorem revL {H : Hp} {Q : VK} {p : Addr} {xs : List V} (h : H p = some (.lst xs)) (q : Q .non (upd H p (.lst xs.reverse))) : rReverse (.ref p) [] H Q := ⟨p, xs, rfl, rfl, h, q⟩
theorem Sh.mono {n m : Nat} {d : PyData} (h : Sh n d) (e : n ≤ m) : Sh m d := by
  induction h generalizing m with
  | non n => exact .non m
  | bl n b => exact .bl m b
  | int n i => exact .int m i
  | str n x => exact .str m x
  | @lst n ds hl h ih =>
    cases m with
    | zero => omega
    | succ m => exact .lst hl fun d hd => ih d hd (by omega)
  | @tup n ds hl h ih =>
    cases m with
    | zero => omega
    | succ m => exact .tup hl fun d hd => ih d hd (by omega)
end BC

set_option Elab.async false
set_option linter.all false
set_option maxRecDepth 100000
set_option maxHeartbeats 4000000
/-! visits and their trails, lists of numbers, their repr -/
namespace BC
open PySem PySem.Spec PyProof.Rows L2 Evl
/-! ### data whose repr is short -/
structure Tm (d : PyData) : Prop where
  s : d.showable = true
  n : d.hasDict = false
  l : d.leavesShort 13 = true
theorem Tm.int {i : Int} (h : i.natAbs < 10 ^ 12) : Tm (.int i) := ⟨by
  show decide (i.natAbs.log2 < 1920) = true
  refine decide_eq_true ?_
  by_cases z : i.natAbs = 0
  · rw [z]; decide
  · exact (Nat.log2_lt z).mpr (Nat.lt_of_lt_of_le h (by decide +kernel)), rfl, by
  show decide (_ ≤ 13) = true
  exact decide_eq_true (PyData.shown_int_le h)⟩
theorem Tm.all {ds : List PyData} (h : ∀ d ∈ ds, Tm d) : PyData.showableAll ds = true ∧ PyData.hasDictAll ds = false ∧ PyData.leavesShortAll 13 ds = true := by
  induction ds with
  | nil => exact ⟨rfl, rfl, rfl⟩
  | cons d ds ih =>
    have a := h d List.mem_cons_self
    obtain ⟨b1, b2, b3⟩ := ih fun e m => h e (List.mem_cons_of_mem _ m)
    refine ⟨?_, ?_, ?_⟩
    · show (d.showable && _) = true
      rw [a.s, b1]; rfl
    · show (d.hasDict || _) = false
      rw [a.n, b2]; rfl
    · show (d.leavesShort 13 && _) = true
      rw [a.l, b3]; rfl
theorem Tm.list {ds : List PyData} (h : ∀ d ∈ ds, Tm d) : Tm (.list ds) := ⟨by simp only [PyData.showable]; exact (Tm.all h).1, by simp only [PyData.hasDict]; exact (Tm.all h).2.1, by simp only [PyData.leavesShort]; exact (Tm.all h).2.2⟩
theorem Tm.tuple {ds : List PyData} (h : ∀ d ∈ ds, Tm d) : Tm (.tuple ds) := ⟨by simp only [PyData.showable]; exact (Tm.all h).1, by simp only [PyData.hasDict]; exact (Tm.all h).2.1, by simp only [PyData.leavesShort]; exact (Tm.all h).2.2⟩
theorem wt_int {i : Int} (h : i.natAbs < 2 ^ 40) : (PyData.int i).weight ≤ 40 := by
  simp only [PyData.weight]
  split
  · omega
  · next z =>
    have z0 : i.natAbs ≠ 0 := fun e => z (by rw [Int.natAbs_eq_zero.mp e]; rfl)
    have := (Nat.log2_lt z0).mpr h
    omega
theorem wt_all {ds : List PyData} {n : Nat} (h : ∀ d ∈ ds, d.weight ≤ n) : PyData.weightAll ds ≤ (n + 1) * ds.length := by
  induction ds with
  | nil => simp [PyData.weightAll]
  | cons d ds ih =>
    have a := h d List.mem_cons_self
    have b := ih fun e m => h e (List.mem_cons_of_mem _ m)
    simp only [PyData.weightAll, List.length_cons, Nat.mul_add]
    omega
theorem dep_all {ds : List PyData} {n : Nat} (h : ∀ d ∈ ds, d.depth ≤ n) : PyData.depthAll ds ≤ n := by
  induction ds with
  | nil => simp [PyData.depthAll]
  | cons d ds ih =>
    have a := h d List.mem_cons_self
    have b := ih fun e m => h e (List.mem_cons_of_mem _ m)
    simp only [PyData.depthAll]
    omega
section
variable {K : PySem.W.Frag} {H : Hp} {Q : VK} {a : Addr}
theorem reprX {d : PyData} (h : Dp K H (.ref a) d) (t : Tm d) (dp : d.depth ≤ 60) (wt : d.weight ≤ 2 ^ 20) (q : Q (.str d.shown) H) : rRepr K [.ref a] H Q :=
  ⟨a, d, rfl, h, t.s, dp, t.n, PyData.shown_fits (B := 13) (by decide) (by decide) t.l wt, q⟩
/-- what repr of a list of numbers says -/
def shInts (ns : List Int) : Str := (PyData.list (ns.map PyData.int)).shown
theorem reprInts {ns : List Int} (h : SqL K H a (ns.map V.int)) (hs : ∀ n ∈ ns, n.natAbs < 10 ^ 12) (hl : ns.length ≤ 20000) (q : Q (.str (shInts ns)) H) : rRepr K [.ref a] H Q := by
  refine reprX (.lst h (dp_ints ns)) (.list fun d m => ?_) ?_ ?_ q
  · obtain ⟨n, hn, rfl⟩ := List.mem_map.mp m
    exact .int (hs n hn)
  · simp only [PyData.depth]
    have := dep_all (ds := ns.map PyData.int) (n := 0) fun d m => by
      obtain ⟨n, hn, rfl⟩ := List.mem_map.mp m
      simp [PyData.depth]
    omega
  · simp only [PyData.weight]
    have := wt_all (ds := ns.map PyData.int) (n := 40) fun d m => by
      obtain ⟨n, hn, rfl⟩ := List.mem_map.mp m
      exact wt_int (Nat.lt_of_lt_of_le (hs n hn) (by decide +kernel))
    rw [List.length_map] at this
    omega
/-! ### in, index, a part of a list of numbers -/
theorem flat_ints (ns : List Int) : (ns.map V.int).all flatV = true := by
  rw [List.all_eq_true]
  intro x hx
  obtain ⟨n, _, rfl⟩ := List.mem_map.mp hx
  rfl
theorem inV_ints (p : Int) (ns : List Int) : inV (.int p) (ns.map V.int) = decide (p ∈ ns) := by
  unfold inV
  rw [List.any_map]
  by_cases h : p ∈ ns
  · rw [decide_eq_true h, List.any_eq_true]
    exact ⟨p, h, by simp [eqV]⟩
  · rw [decide_eq_false h, List.any_eq_false]
    intro x hx
    have : x ≠ p := fun e => h (e ▸ hx)
    simp [eqV, this]
theorem inL {p : Int} {ns : List Int} (h : SqL K H a (ns.map V.int)) (q : Q (.bl (decide (p ∈ ns))) H) : rIn K false (.int p) (.ref a) H Q :=
  ⟨a, _, rfl, .inl h, rfl, flat_ints ns, by rw [inV_ints]; exact q⟩
theorem ninL {p : Int} {ns : List Int} (h : SqL K H a (ns.map V.int)) (q : Q (.bl (!decide (p ∈ ns))) H) : rIn K true (.int p) (.ref a) H Q :=
  ⟨a, _, rfl, .inl h, rfl, flat_ints ns, by rw [inV_ints]; exact q⟩
theorem idxL {p : Int} {ns : List Int} (h : SqL K H a (ns.map V.int)) (hp : p ∈ ns) (q : Q (.int (ns.idxOf p : Nat)) H) : rIndex K (.ref a) [.int p] H Q := by
  have hl := List.idxOf_lt_length_of_mem hp
  refine ⟨a, _, _, ns.idxOf p, .int p, rfl, rfl, h, rfl, flat_ints ns, ?_, by simp [eqV], fun m z hm hz => ?_, q⟩
  · rw [List.getElem?_map, List.getElem?_eq_getElem hl, List.getElem_idxOf hl]
    rfl
  · rw [List.getElem?_map] at hz
    have hml : m < ns.length := by omega
    rw [List.getElem?_eq_getElem hml] at hz
    cases hz
    have ne : ns[m] ≠ p := fun e => by
      have := List.not_of_lt_findIdx (p := fun x => x == p) (xs := ns) hm
      simp [e] at this
    simp [eqV, ne]
/-- numbers that are kept -/
theorem kept_ints (n : Nat) (k : Nat → Bool) (f : Nat → Int) : ∃ fr : List Int, kept n k (fun i => V.int (f i)) = fr.map V.int ∧ (∀ x ∈ fr, ∃ i, i < n ∧ k i = true ∧ x = f i) ∧ (fr = [] → ∀ i, i < n → k i = false) := by
  induction n with
  | zero => exact ⟨[], rfl, fun x h => (List.not_mem_nil h).elim, fun _ i h => by omega⟩
  | succ n ih =>
    obtain ⟨fr, h1, h2, h3⟩ := ih
    cases c : k n with
    | true =>
      refine ⟨fr ++ [f n], by rw [kept_yes c, h1, List.map_append]; rfl, fun x h => ?_, fun e => by simp at e⟩
      rcases List.mem_append.mp h with h | h
      · obtain ⟨i, a, b⟩ := h2 x h
        exact ⟨i, by omega, b⟩
      · exact ⟨n, by omega, c, List.mem_singleton.mp h⟩
    | false =>
      refine ⟨fr, by rw [kept_no c, h1], fun x h => ?_, fun e i hi => ?_⟩
      · obtain ⟨i, a, b⟩ := h2 x h
        exact ⟨i, by omega, b⟩
      · by_cases q : i = n
        · rw [q]; exact c
        · exact h3 e i (by omega)
theorem rgV_ints (a b : Int) : rgV a b = ((List.range (b - a).toNat).map fun i => a + ((i : Nat) : Int)).map V.int := by
  unfold rgV
  rw [List.map_map]
  rfl
theorem shp_ints (ns : List Int) : SeqAt.shaped (.list (ns.map PyData.int)) = true := by
  have h1 : ∀ ns : List Int, PyData.canLayAll0 (ns.map PyData.int) = true := fun ns => by
    induction ns with
    | nil => simp [PyData.canLayAll0]
    | cons n ns ih => simp [PyData.canLayAll0, PyData.canLay0, ih]
  have h2 := dep_all (ds := ns.map PyData.int) (n := 0) fun d m => by
      obtain ⟨n, hn, rfl⟩ := List.mem_map.mp m
      simp [PyData.depth]
  show (PyData.canLay0 _ && decide (PyData.depth _ ≤ 64)) = true
  rw [Bool.and_eq_true]
  refine ⟨?_, decide_eq_true ?_⟩
  · simp only [PyData.canLay0]; exact h1 ns
  · simp only [PyData.depth]; omega
theorem eqv_ints : ∀ ns ms : List Int, PyData.eqv (.list (ns.map PyData.int)) (.list (ms.map PyData.int)) = decide (ns = ms) := fun ns ms => by
  simp only [PyData.eqv]
  induction ns generalizing ms with
  | nil => cases ms <;> simp [PyData.eqvAll]
  | cons n ns ih =>
    cases ms with
    | nil => simp [PyData.eqvAll]
    | cons m ms =>
      simp only [List.map_cons, PyData.eqvAll, PyData.eqv, ih]
      by_cases h : n = m
      · subst h; simp
      · simp [h]
theorem eqInts {b : Addr} {ns ms : List Int} (h : SqL K H a (ns.map V.int)) (g : SqL K H b (ms.map V.int)) (q : Q (.bl (decide (ns = ms))) H) : rEqD K (.ref a) (.ref b) H Q :=
  ⟨_, _, .lst h (dp_ints ns), .lst g (dp_ints ms), shp_ints ns, shp_ints ms, by rw [eqv_ints]; exact q⟩
theorem neInts {b : Addr} {ns ms : List Int} (h : SqL K H a (ns.map V.int)) (g : SqL K H b (ms.map V.int)) (q : Q (.bl (!decide (ns = ms))) H) : rNeD K (.ref a) (.ref b) H Q :=
  ⟨_, _, .lst h (dp_ints ns), .lst g (dp_ints ms), shp_ints ns, shp_ints ms, by rw [eqv_ints]; exact q⟩
theorem pickI {ns : List Int} {r : Int} (h0 : 0 ≤ r) (h1 : r < ns.length) : ∃ n, n ∈ ns ∧ atI (ns.map V.int) r = some (.int n) := by
  obtain ⟨v, hv, e⟩ := pick (xs := ns.map V.int) h0 (by rw [List.length_map]; exact h1)
  obtain ⟨n, hn, rfl⟩ := List.mem_map.mp hv
  exact ⟨n, hn, e⟩
theorem cut_to (xs : List V) {i : Int} {j : Nat} (e : i = (j : Int)) (h : j ≤ xs.length) : cutV xs none (some i) = xs.take j := by
  subst e
  unfold cutV
  have e1 : HT.sIx xs.length 0 none = 0 := rfl
  rw [HT.sIx_nat, e1, List.drop_zero, Nat.sub_zero, Nat.min_eq_left h]
theorem slL {lo hi : Option Int} {xs : List V} (h : SqL K H a xs) (q : ∀ p, H p = none → Q (.ref p) (upd H p (.lst (cutV xs lo hi)))) : rSlL K (.ref a) lo hi H Q := ⟨a, xs, rfl, h, q⟩
theorem tyLL {xs : List V} (h : SqL K H a xs) : tyV K "list" (.ref a) H := Or.inl ⟨rfl, _, h⟩
end
end BC
namespace TR
/-! ### trails -/
def Pg (w : Int) (l : List Int) : Prop := ∀ x ∈ l, 0 ≤ x ∧ x < w
def vis (t : List Int) (p : Int) : List Int := if p ∈ t then t.take (t.idxOf p + 1) else t ++ [p]
def trl (row : List Int) : List Int := row.foldl vis []
/-- the lengths of the trails -/
def lens (row : List Int) : List Int := (List.range row.length).map fun i => ((trl (row.take (i + 1))).length : Int)
theorem vis_mem {t : List Int} {p x : Int} (h : x ∈ vis t p) : x ∈ t ∨ x = p := by
  unfold vis at h
  split at h
  · exact .inl (List.mem_of_mem_take h)
  · simpa using h
theorem vis_nodup {t : List Int} {p : Int} (h : t.Nodup) : (vis t p).Nodup := by
  unfold vis
  split
  · exact h.sublist (List.take_sublist _ _)
  · next n =>
    rw [List.nodup_append]
    exact ⟨h, List.nodup_cons.mpr ⟨List.not_mem_nil, List.nodup_nil⟩, fun a ha b hb e => n (by simp at hb; rw [← hb, ← e]; exact ha)⟩
theorem vis_pos (t : List Int) (p : Int) : 1 ≤ (vis t p).length := by
  unfold vis
  split
  · next h =>
    have := List.idxOf_lt_length_of_mem h
    rw [List.length_take]; omega
  · rw [List.length_append, List.length_singleton]; omega
theorem vis_le (t : List Int) (p : Int) : (vis t p).length ≤ t.length + 1 := by
  unfold vis
  split
  · rw [List.length_take]; omega
  · rw [List.length_append, List.length_singleton]; omega
theorem vis_pg {w : Int} {t : List Int} {p : Int} (h : Pg w t) (h0 : 0 ≤ p) (h1 : p < w) : Pg w (vis t p) := fun x hx => by
  rcases vis_mem hx with h2 | rfl
  · exact h x h2
  · exact ⟨h0, h1⟩
theorem trl_snoc {row : List Int} {i : Nat} {p : Int} (h : row[i]? = some p) : trl (row.take (i + 1)) = vis (trl (row.take i)) p := by
  unfold trl
  rw [List.take_add_one, h, List.foldl_append]
  rfl
theorem fold_ok {w : Int} : ∀ {row t : List Int}, Pg w row → Pg w t → t.Nodup → Pg w (row.foldl vis t) ∧ (row.foldl vis t).Nodup
  | [], _, _, h2, h3 => ⟨h2, h3⟩
  | p :: row, t, h1, h2, h3 => fold_ok (row := row) (t := vis t p) (fun x hx => h1 x (List.mem_cons_of_mem _ hx)) (vis_pg h2 (h1 p List.mem_cons_self).1 (h1 p List.mem_cons_self).2) (vis_nodup h3)
theorem Pg.take {w : Int} {l : List Int} (h : Pg w l) (n : Nat) : Pg w (l.take n) := fun x hx => h x (List.mem_of_mem_take hx)
theorem Pg.mono {w v : Int} {l : List Int} (h : Pg w l) (e : w ≤ v) : Pg v l := fun x hx => ⟨(h x hx).1, by have := (h x hx).2; omega⟩
theorem Pg.at {w : Int} {l : List Int} (h : Pg w l) {i : Nat} {p : Int} (e : l[i]? = some p) : 0 ≤ p ∧ p < w := h p (List.mem_of_getElem? e)
theorem pg_nil (w : Int) : Pg w [] := fun _ m => (List.not_mem_nil m).elim
theorem trl_pg {w : Int} {row : List Int} (h : Pg w row) : Pg w (trl row) := (fold_ok h (pg_nil w) List.nodup_nil).1
theorem trl_nodup {w : Int} {row : List Int} (h : Pg w row) : (trl row).Nodup := (fold_ok h (pg_nil w) List.nodup_nil).2
/-- so many different pages at most -/
theorem nodup_len : ∀ (n : Nat) {l : List Int}, l.Nodup → Pg n l → l.length ≤ n
  | 0, [], _, _ => Nat.le_refl _
  | 0, x :: l, _, h => by have := h x List.mem_cons_self; omega
  | n + 1, l, h1, h2 => by
    by_cases m : ((n : Nat) : Int) ∈ l
    · have h3 := nodup_len n (l := l.erase (n : Int)) (h1.erase _) (fun x hx => by
        have a := h2 x (List.mem_of_mem_erase hx)
        have b : x ≠ (n : Int) := fun e => by
          rw [h1.mem_erase_iff] at hx
          exact hx.1 e
        omega)
      have := List.length_erase_of_mem m
      omega
    · have h3 := nodup_len n h1 (fun x hx => by
        have a := h2 x hx
        have b : x ≠ (n : Int) := fun e => m (e ▸ hx)
        omega)
      omega
theorem trl_len {n : Nat} {row : List Int} (h : Pg n row) : (trl row).length ≤ n := nodup_len n (trl_nodup h) (trl_pg h)
theorem lens_len (row : List Int) : (lens row).length = row.length := by unfold lens; rw [List.length_map, List.length_range]
theorem lens_at {row : List Int} {i : Nat} (h : i < row.length) : (lens row)[i]? = some ((trl (row.take (i + 1))).length : Int) := by
  unfold lens
  rw [List.getElem?_map, List.getElem?_range h]
  rfl
end TR

set_option Elab.async false
set_option linter.all false
set_option maxRecDepth 100000
set_option maxHeartbeats 4000000
/-! defs with one keyword-only parameter that has a default -/
namespace BC
open PySem PySem.Spec PyProof.Rows L2 Evl
theorem kwd1 {K : PySem.W.Frag} {x qual : Str} {st : Stmt} {f D : Addr} {ps : List Str} {nm : Str} {v : V} {u : Value} {n : Nat} {oc : Value} {od : Option Addr} {doc pm : Value} {an : Option Addr} {cdv ct : Value} {osl : Array (Option Value)}
    (lk : K.lookup f = some ⟨oc, od, .func (PySem.W.fnOf x qual (defArgs st) (defBody st) (defScope st) .none (.ref D) doc pm an cdv ct), osl⟩) (hcd : PySem.W.codeIn K cdv qual = true) (kp : PySem.W.keepIn K (.ref f) = true)
    (hq : PySem.W.nsIn K D nm = some (some u)) (hr : RelV v u) (hn : n + 1 = ps.length)
    (h : ∀ (D : Addr) (doc pm : Value) (an : Option Addr) (cdv ct : Value) (us ks : List Value), us.length = n → ks.length = 1 →
      KwChain D ([nm].zip ks) (bindArgs (PySem.W.fnOf x qual (defArgs st) (defBody st) (defScope st) .none (.ref D) doc pm an cdv ct) ⟨us, []⟩) (ps.zip (us ++ ks))) :
    ∃ ds, Vals [v] ds ∧ Binds K (PySem.W.fnOf x qual (defArgs st) (defBody st) (defScope st) .none (.ref D) doc pm an cdv ct) ps ds := by
  have F : FunD K x qual (defArgs st) (defBody st) (defScope st) [] [(nm, v)] f (PySem.W.fnOf x qual (defArgs st) (defBody st) (defScope st) .none (.ref D) doc pm an cdv ct) :=
    ⟨⟨oc, od, _, _, doc, pm, an, cdv, ct, osl, rfl, lk, hcd, .inl ⟨rfl, rfl⟩, .inr ⟨D, rfl, fun q hm => by
      obtain rfl : q = (nm, v) := by simpa using hm
      exact ⟨u, hq, hr⟩⟩⟩, kp⟩
  have z := F.binds0 n (by simp) (by simpa using hn) h
  exact z
/-! ### the bag of draws: a list of three numbers -/
def BagAt (H : Hp) (b : Addr) (c : Nat) : Prop := ∃ x0 x1 x2 : Int, H b = some (.lst [.int x0, .int x1, .int x2]) ∧ 0 ≤ x1 ∧ x1 < 10 ^ 65 ∧ 0 ≤ x2 ∧ x2 ≤ c
theorem BagAt.ex {H H' : Hp} {b : Addr} {c : Nat} (h : BagAt H b c) (e : Ex H H') : BagAt H' b c := by
  obtain ⟨x0, x1, x2, hb, r⟩ := h
  exact ⟨x0, x1, x2, e _ _ hb, r⟩
theorem BagAt.mono {H : Hp} {b : Addr} {c d : Nat} (h : BagAt H b c) (e : c ≤ d) : BagAt H b d := by
  obtain ⟨x0, x1, x2, hb, h1, h2, h3, h4⟩ := h
  exact ⟨x0, x1, x2, hb, h1, h2, h3, by omega⟩
theorem BagAt.some {H : Hp} {b : Addr} {c : Nat} (h : BagAt H b c) : ∃ o, H b = Option.some o := by
  obtain ⟨x0, x1, x2, hb, _⟩ := h
  exact ⟨_, hb⟩
theorem BagAt.apart {H : Hp} {b z : Addr} {c : Nat} (h : BagAt H b c) (nz : H z = none) : z ≠ b := fun e => by
  obtain ⟨o, ho⟩ := h.some
  subst e
  rw [ho] at nz
  cases nz
theorem BagAt.off {H : Hp} {b z : Addr} {c : Nat} {o : HO} (h : BagAt H b c) (nz : z ≠ b) : BagAt (upd H z o) b c := by
  obtain ⟨x0, x1, x2, hb, r⟩ := h
  exact ⟨x0, x1, x2, by rw [upd_ne (Ne.symm nz)]; exact hb, r⟩
theorem BagAt.ne {H : Hp} {b z : Addr} {c : Nat} (h : BagAt H b c) (nb : H z = none) : b ≠ z := fun e => h.apart nb e.symm
/-- the greatest number of ways that is drawn from -/
def BIG : Int := 2 ^ 2000
theorem big_of {m : Int} (h : m ≤ 100000) : m ≤ BIG := Int.le_trans h (by decide +kernel)
theorem big_lt {m : Int} (h : 0 < m) (h2 : m ≤ BIG) : m.natAbs < 2 ^ 2001 := by
  have a : m.natAbs ≤ BIG.natAbs := by omega
  exact Nat.lt_of_le_of_lt a (by decide +kernel)
def spDraw : Sp := fun vs H Q _ => ∃ (b : Addr) (m : Int) (c : Nat), vs = [.ref b, .int m] ∧ 0 < m ∧ m ≤ BIG ∧ BagAt H b c ∧ c ≤ 1000000 ∧ ∀ r H', 0 ≤ r → r < m → Fx b H H' → BagAt H' b (c + 1) → Q (.int r) H'
/-! ### lists of lists of numbers, shown -/
def dLL (ls : List (List Int)) : PyData := .list (ls.map fun l => .list (l.map PyData.int))
theorem tm_ints {l : List Int} (h : ∀ x ∈ l, x.natAbs < 10 ^ 12) : Tm (.list (l.map PyData.int)) := .list fun d m => by
  obtain ⟨x, hx, rfl⟩ := List.mem_map.mp m
  exact .int (h x hx)
theorem wt_ints {l : List Int} (h : ∀ x ∈ l, x.natAbs < 10 ^ 12) : (PyData.list (l.map PyData.int)).weight ≤ 41 * l.length := by
  simp only [PyData.weight]
  have := wt_all (ds := l.map PyData.int) (n := 40) fun d m => by
      obtain ⟨n, hn, rfl⟩ := List.mem_map.mp m
      exact wt_int (Nat.lt_of_lt_of_le (h n hn) (by decide +kernel))
  rw [List.length_map] at this
  exact this
theorem dp_ll {K : PySem.W.Frag} {H : Hp} {ps : List Addr} : ∀ {ls : List (List Int)}, ps.length = ls.length → (∀ (i : Nat) (p : Addr) (l : List Int), ps[i]? = some p → ls[i]? = some l → SqL K H p (l.map V.int)) → DpAll K H (ps.map V.ref) (ls.map fun l => PyData.list (l.map PyData.int)) := fun {ls} => by
  induction ps generalizing ls with
  | nil =>
    intro h _
    cases ls with
    | nil => exact .nil
    | cons l ls => simp at h
  | cons p ps ih =>
    intro h g
    cases ls with
    | nil => simp at h
    | cons l ls => exact .cons (.lst (g 0 p l rfl rfl) (dp_ints l)) (ih (by simpa using h) fun i q m a b => g (i + 1) q m (by rw [List.getElem?_cons_succ]; exact a) (by rw [List.getElem?_cons_succ]; exact b))
theorem reprLL {K : PySem.W.Frag} {H : Hp} {Q : VK} {a : Addr} {ls : List (List Int)} {n : Nat} (h : Dp K H (.ref a) (dLL ls)) (hv : ∀ l ∈ ls, ∀ x ∈ l, x.natAbs < 10 ^ 12) (hl : ∀ l ∈ ls, l.length ≤ n) (hz : (41 * n + 1) * ls.length ≤ 2 ^ 20) (q : Q (.str (dLL ls).shown) H) : rRepr K [.ref a] H Q := by
  refine reprX h (.list fun d m => ?_) ?_ ?_ q
  · obtain ⟨l, hm, rfl⟩ := List.mem_map.mp m
    exact tm_ints (hv l hm)
  · unfold dLL
    simp only [PyData.depth]
    have := dep_all (ds := ls.map fun l => PyData.list (l.map PyData.int)) (n := 1) fun d m => by
      obtain ⟨l, hm, rfl⟩ := List.mem_map.mp m
      simp only [PyData.depth]
      have := dep_all (ds := l.map PyData.int) (n := 0) fun d m => by
        obtain ⟨x, hx, rfl⟩ := List.mem_map.mp m
        simp [PyData.depth]
      omega
    omega
  · unfold dLL
    simp only [PyData.weight]
    have := wt_all (ds := ls.map fun l => PyData.list (l.map PyData.int)) (n := 41 * n) fun d m => by
      obtain ⟨l, hm, rfl⟩ := List.mem_map.mp m
      exact Nat.le_trans (wt_ints (hv l hm)) (Nat.mul_le_mul_left _ (hl l hm))
    rw [List.length_map] at this
    omega
theorem k_lenSet {X : Cx} {K : PySem.W.Frag} {a : Expr} {ta : TE} {p p2 q pos : Pos} (hK : X.K = K) (hg : Gl X "len") (hm : X.mg "len" = none) (hg2 : Gl X "set") (hm2 : X.mg "set" = none) (ha : PE X a ta) (hc : X.calm = true := by rfl)
    (na : starEach [a] X.env = (false, eval a X.env) :: starEach [] X.env := by rfl) : PE X (.Call (.Name "len" p) [.Call (.Name "set" p2) [a] [] q] [] pos) (RZ.tLenSetI K ta) := by subst hK; exact RZ.pe_lenSetI hg hm hg2 hm2 ha hc na
theorem x_lenSet {K : PySem.W.Frag} {ta : TE} {σ : L2.St} {H : Hp} {Q : VK} : RZ.tLenSetI K ta σ H Q = ta σ H fun x H1 => ∃ (l : Addr) (ns : List Int), x = .ref l ∧ SqL K H1 l (ns.map V.int) ∧ ns.Nodup ∧ ns.length ≤ 4000 ∧ Q (.int (ns.length : Nat)) H1 := rfl
end BC

set_option Elab.async false
set_option linter.all false
set_option maxRecDepth 100000
set_option maxHeartbeats 4000000
/-! sorted(set(xs)) of a list of numbers -/
namespace BC
open PySem PySem.Spec PyProof.Rows L2 Evl RZ
/-- the set that set() starts with -/
abbrev set0 (w : World) : Obj := { cls := .type "set", dict := none, data := .set #[] 0 (.fresh 0 0 (!w.params.followText "set-order")) }
abbrev with0 (w : World) (s : Shared) : Shared := { s with heap := s.heap.push (set0 w) }
section
variable {P : Program} {w : World} {A : Around} {E : Value → Shared → Prop} {s : Shared}
set_option maxHeartbeats 3200000 in
theorem set_of_list {l : Addr} {its : Array Value} (ns : List Int) {Q : Value → Shared → Prop} (hh : A.handled = none) (hl : s.heap.IsList l its) (hit : IntsAre its.toList ns) (hb : ns.length + 1 < scanBound)
    (fin : ∀ (h' : Heap) (tk c : Nat), SetR w h' s.heap.objs.size (fun j => decide (j ∈ ns)) c → c ≤ ns.length → (∀ b o, s.heap.get? b = some o → h'.get? b = some o) → Q (.ref s.heap.objs.size) { s with heap := h', toks := tk }) :
    wpAny (model P w) A (call (.type "set") [.ref l]) Q E s := by
  have many : its.size = ns.length := by rw [← IntsAre.length hit, Array.length_toList]
  obtain ⟨c, tl, hmro⟩ := F.called_set.mro
  have m1 := F.called_set.made
  have m2 := F.called_set.sub
  refine wpAny_call (codeAny_of_tree (wpAny_pure ⟨Code.quiet_builtin _ (by decide +kernel), codeAny_builtin F.entry_type_call ?_⟩))
  rw [Around.under_plain (weight_type_call_type "set" [.ref l] []) rfl]
  have m3 := F.called_set.notType
  have m4 := F.called_set.canCreate
  have m5 := F.typeCall_set_1 (.ref l)
  repeat (any_goals (first | assumption | wp_step))
  refine codeAny_mono (code_set_led1 (.ref l) (E := E) (Q₁ := fun obj s₁ => obj = .ref s.heap.objs.size ∧ s₁ = with0 w s) ⟨rfl, rfl⟩) fun r s₁ hr => ?_
  match r, hr with
  | .error e, hr => exact hr
  | .ok .next, hr => exact hr.elim
  | .ok .brk, hr => exact hr.elim
  | .ok .cont, hr => exact hr.elim
  | .ok (.ret obj), hr =>
    obtain ⟨rfl, rfl⟩ := hr
    have at0 : (s.heap.push (set0 w)).get? s.heap.objs.size = some (set0 w) := Heap.get?_push_size _ rfl
    have ty0 : Shared.TypeIs (with0 w s) (.ref s.heap.objs.size) "set" := ⟨_, at0, rfl⟩
    have i1 := F.called_set.init.lookup
    have i2 := F.called_set.init.bind (.ref s.heap.objs.size)
    repeat (any_goals (first | assumption | wp_step))
    refine codeAny_mono (codeAny_call_builtin (R := wants (fun r s₂ => r = .none ∧ ∃ h' tk c, s₂ = { s with heap := h', toks := tk } ∧ SetR w h' s.heap.objs.size (fun j => decide (j ∈ ns)) c ∧ c ≤ ns.length ∧ (∀ b o, s.heap.get? b = some o → h'.get? b = some o)) E)
      F.called_set.init.plain F.entry_set_init (check_set_init_1 ty0 ?_)) fun r₂ s₂ hr₂ => ?_
    · obtain ⟨⟨oc, od, dt, osl⟩, old, e1, nl, e2⟩ := hl
      obtain rfl : oc = .type "list" := e1
      obtain rfl : dt = .seq its nl := e2
      have pushed := Heap.get?_push_of_some (set0 w) old
      have isl : (s.heap.push (set0 w)).IsList l its := ⟨_, pushed, rfl, nl, rfl⟩
      have k1 := F.sub_list_set
      have k2 := F.sub_list_frozenset
      have k3 : (Value.type "list" == Value.type "dict") = false := by decide
      have hltl : l < s.heap.objs.size := Heap.lt_size old
      unfold Builtin.«set.__init__» noKeywords Builtin.Frozenset.updateFrom
      generalize hPI : pyIter = PI
      wp_walk
      subst hPI
      refine wpAny_pyIter_list isl (wpAny_bind (wpAny_runValue ?_))
      have calm3 : A.in1.in1.in1.handled = none := by simp [hh]
      have psz : (s.heap.push (set0 w)).objs.size = s.heap.objs.size + 1 := Heap.size_push ..
      have apart : l ≠ (s.heap.push (set0 w)).objs.size := fun z => Nat.lt_irrefl l (by rw [psz] at z; exact Nat.lt_of_lt_of_le hltl (by rw [z]; exact Nat.le_succ _))
      have away : s.heap.objs.size ∉ [(s.heap.push (set0 w)).objs.size, l] := by
        rw [psz]
        intro z
        simp only [List.mem_cons, List.mem_nil_iff, or_false] at z
        rcases z with z | z
        · exact absurd z (Nat.ne_of_lt (Nat.lt_succ_self _))
        · exact absurd z (Nat.ne_of_gt hltl)
      have items : ∀ (i : Nat) (v : Value), its[i]? = some v → ∃ k t, ns[i]? = some k ∧ v = .int k t := fun i v hv => by
        have hi : i < ns.length := by rw [← many]; exact (Array.getElem?_eq_some_iff.mp hv).1
        obtain ⟨t, e⟩ := IntsAre.int_at hit i v (by rw [Array.getElem?_toList]; exact hv)
        refine ⟨ns[i], t, List.getElem?_eq_getElem hi, ?_⟩
        rw [e, List.getD_eq_getElem?_getD, List.getElem?_eq_getElem hi]
        rfl
      refine set_update_ints ((Walks.list calm3 _ l apart its).toS) s.heap.objs.size away ns many hb items its.size 0 _ (by omega) (Nat.zero_le _) ⟨⟨_, Heap.get?_push_size _ rfl, rfl, rfl⟩, (isl.push _)⟩ ⟨0, Nat.le_refl 0, ?_⟩ fun s' c' mv hc' hS' => ?_
      · exact setR_new_at (Heap.get?_push_of_some _ at0)
      · obtain ⟨h', g2, d', tk', os'⟩ := s'
        obtain rfl : g2 = s.gens := mv.gens
        obtain rfl : d' = s.drawn := mv.drawn
        obtain rfl : os' = s.os := mv.os
        refine wpAny_pure (wpAny_pure ⟨rfl, h', tk', c', rfl, hS', by rw [many] at hc'; exact hc', fun b o e => ?_⟩)
        have lt := Heap.lt_size e
        refine mv.heap b o ?_ (Heap.get?_push_of_some _ (Heap.get?_push_of_some _ e))
        intro z
        rw [psz] at z
        simp only [List.mem_cons, List.mem_nil_iff, or_false] at z
        rcases z with z | z
        · exact absurd z (Nat.ne_of_lt lt)
        · exact absurd z (Nat.ne_of_lt (Nat.lt_succ_of_lt lt))
    · match r₂, hr₂ with
      | .error e, hr₂ => exact hr₂
      | .ok .next, hr₂ => exact hr₂.elim
      | .ok .brk, hr₂ => exact hr₂.elim
      | .ok .cont, hr₂ => exact hr₂.elim
      | .ok (.ret r), hr₂ =>
        obtain ⟨rfl, h', tk, c', rfl, q1, q2, q3⟩ := hr₂
        repeat (any_goals (first | assumption | wp_step))
        exact fin _ _ _ q1 q2 q3
end
section
variable {X : Cx} {K : PySem.W.Frag} {a : Expr} {ta : TE} {p p2 q pos : Pos}
/-- sorted(set(xs)): the different numbers in order -/
def tSortSet (K : PySem.W.Frag) (ta : TE) : TE := fun σ H Q => ta σ H fun x H1 => ∃ (l : Addr) (ns : List Int), x = .ref l ∧ SqL K H1 l (ns.map V.int) ∧ ns.length < 64 ∧
  ∀ (ms : List Int) r, ms.Pairwise (· < ·) → (∀ k : Int, k ∈ ms ↔ k ∈ ns) → H1 r = none → Q (.ref r) (upd H1 r (.lst (ms.map V.int)))
theorem k_sortSet (hK : X.K = K) (hg : Gl X "sorted") (hm : X.mg "sorted" = none) (hg2 : Gl X "set") (hm2 : X.mg "set" = none) (ha : PE X a ta) (hc : X.calm = true := by rfl)
    (na : starEach [a] X.env = (false, eval a X.env) :: starEach [] X.env := by rfl) : PE X (.Call (.Name "sorted" p) [.Call (.Name "set" p2) [a] [] q] [] pos) (tSortSet K ta) := by
  subst hK
  refine ⟨fun pins s σ H Q I h => ?_⟩
  refine Call_ (ld_blt I hg hm (show bootBuiltins ("sorted" : Str) = some (.builtin "sorted") by decide +kernel) ?_)
  refine callWith_builtin1 (args_cons ?_ rfl) rfl rfl
  refine Call_ (ld_blt I hg2 hm2 boot_set ?_)
  refine callWith_type1 (args_cons (thn (ha.run pins s σ H _ I h) fun v s1 ⟨x, H1, I1, r1, q1⟩ => args_nil ?_) na) na rfl
  obtain ⟨l, ns, rfl, hq, hl, q1⟩ := q1
  cases r1
  obtain ⟨its, r, pl, hz⟩ := I1.list hq
  refine set_of_list ns (I1.ok.hd hc) pl.isList (by simpa using intsAre_vals r) (by unfold scanBound; omega) fun h' tk c hS hcl hk => ?_
  refine args_nil ?_
  have I2 : Inv X pins σ H1 { s1 with heap := h', toks := tk } := I1.kept hk
  refine sorted_set hS (I2.ok.hd hc) (by omega) fun s' p out c2 ms k g o hp hg hi hs hm hlen => ?_
  have few : (ms.map V.int).length ≤ sizeLine := by rw [List.length_map, hlen, sizeLine_eq]; omega
  have hn : H1 p = none := I2.hok.fresh hp
  have J : Inv X pins σ (upd H1 p (.lst (ms.map V.int))) { ({ s1 with heap := h', toks := tk } : Shared) with heap := s'.heap, gens := s'.gens, drawn := s'.drawn, toks := s'.toks } :=
    I2.call (ch := []) (Un.laid k hp hn) (I2.hok.laid k hp ⟨few, out.toList, c2, vals_of_ints hi, hg⟩) (by rw [g]; exact I2.bare) (fun _ z => nomatch z)
  have e : s' = { ({ s1 with heap := h', toks := tk } : Shared) with heap := s'.heap, gens := s'.gens, drawn := s'.drawn, toks := s'.toks } := by
    cases s'
    cases o
    rfl
  rw [e]
  exact ⟨.ref p, _, J, rfl, q1 ms p hs (fun k => by rw [hm k, decide_eq_true_eq]) hn⟩
theorem x_sortSet {σ : L2.St} {H : Hp} {Q : VK} : tSortSet K ta σ H Q = ta σ H fun x H1 => ∃ (l : Addr) (ns : List Int), x = .ref l ∧ SqL K H1 l (ns.map V.int) ∧ ns.length < 64 ∧
  ∀ (ms : List Int) r, ms.Pairwise (· < ·) → (∀ k : Int, k ∈ ms ↔ k ∈ ns) → H1 r = none → Q (.ref r) (upd H1 r (.lst (ms.map V.int))) := rfl
end
/-- two ascending lists of the same numbers are the same -/
theorem asc_same : ∀ {a b : List Int}, a.Pairwise (· < ·) → b.Pairwise (· < ·) → (∀ k : Int, k ∈ a ↔ k ∈ b) → a = b
  | [], [], _, _, _ => rfl
  | [], y :: b, _, _, h => absurd ((h y).mpr List.mem_cons_self) List.not_mem_nil
  | x :: a, [], _, _, h => absurd ((h x).mp List.mem_cons_self) List.not_mem_nil
  | x :: a, y :: b, ha, hb, h => by
    rw [List.pairwise_cons] at ha hb
    have xy : x = y := by
      have h1 := (h x).mp List.mem_cons_self
      have h2 := (h y).mpr List.mem_cons_self
      rcases List.mem_cons.mp h1 with e | e
      · exact e
      · rcases List.mem_cons.mp h2 with e2 | e2
        · exact e2.symm
        · have := ha.1 y e2
          have := hb.1 x e
          omega
    subst xy
    rw [asc_same ha.2 hb.2 fun k => ⟨fun m => by
      rcases List.mem_cons.mp ((h k).mp (List.mem_cons_of_mem _ m)) with e | e
      · subst e; have := ha.1 k m; omega
      · exact e, fun m => by
      rcases List.mem_cons.mp ((h k).mpr (List.mem_cons_of_mem _ m)) with e | e
      · subst e; have := hb.1 k m; omega
      · exact e⟩]
end BC

set_option Elab.async false
set_option linter.all false
set_option maxRecDepth 100000
set_option maxHeartbeats 4000000
/-! sites: lists of lists of natural numbers, and how they lie in the heap -/
namespace BC
open PySem PySem.Spec PyProof.Rows L2 Evl
/-! ### xs + ys of lists of any origin -/
section
variable {prog : Program} {w : World} {A : Around} {E : Value → Shared → Prop} {s : Shared}
theorem add_plain {l b : Addr} {its its2 : Array Value} {Q : Value → Shared → Prop} (x : PlainL s.heap l its) (y : PlainL s.heap b its2) (fits : its.size + its2.size ≤ sizeLine)
    (q : Q (.ref s.heap.objs.size) { s with heap := s.heap.push { cls := .type "list", data := .seq (its ++ its2) } }) : wpAny (model prog w) A (binaryOp .Add (.ref l) (.ref b)) Q E s := by
  obtain ⟨⟨c1, d1, k1, z1⟩, n1, g1, e1, e2, e3⟩ := x
  obtain ⟨⟨c2, d2, k2, z2⟩, n2, g2, e4, e5, e6⟩ := y
  obtain rfl : c1 = .type "list" := e1
  obtain rfl : c2 = .type "list" := e4
  obtain rfl : k1 = .seq its n1 := e3
  obtain rfl : k2 = .seq its2 n2 := e6
  exact concat_meets ⟨_, g1, rfl⟩ ⟨_, g2, rfl⟩ noFill_list_add seq_list_add F.slot_list_add F.entry_list_add (F.args_list_add_2 _ _) (list_addW l b its its2 n1 n2 d1 d2 z1 z2 fits) ⟨g1, g2, q⟩
end
def rCatS (K : PySem.W.Frag) : R2 := fun x y H Q => ∃ l b xs zs, x = .ref l ∧ y = .ref b ∧ SqL K H l xs ∧ SqL K H b zs ∧ xs.length + zs.length ≤ sizeLine ∧ ∀ p, H p = none → Q (.ref p) (upd H p (.lst (xs ++ zs)))
theorem k_catS {X : Cx} {K : PySem.W.Frag} (hK : X.K = K) : OpR X (binaryOp .Add) (rCatS K) := by
  subst hK
  intro pins s σ H x y v u Q I rx ry h
  obtain ⟨l, b, xs, zs, rfl, rfl, hH, hB, hz, q⟩ := h
  cases rx
  cases ry
  obtain ⟨its, r, p1, _⟩ := I.list hH
  obtain ⟨its2, r2, p2, _⟩ := I.list hB
  have l1 := r.length
  have l2 := r2.length
  refine add_plain p1 p2 (by rw [List.size_toArray, List.size_toArray]; omega) ?_
  have ea : its.toArray ++ its2.toArray = (its ++ its2).toArray := by simp
  rw [ea]
  exact ⟨.ref _, _, I.lnew (t' := s.toks) (r.append r2) (by rw [List.length_append]; omega), rfl, q _ I.fresh⟩
theorem catS {K : PySem.W.Frag} {H : Hp} {Q : VK} {p b : Addr} {xs ys : List V} (h : SqL K H p xs) (hb : SqL K H b ys) (hz : xs.length + ys.length ≤ sizeLine) (q : ∀ l, H l = none → Q (.ref l) (upd H l (.lst (xs ++ ys)))) : rCatS K (.ref p) (.ref b) H Q := ⟨p, b, xs, ys, rfl, rfl, h, hb, hz, q⟩
/-- natural numbers as the program's -/
def nz (L : List Nat) : List Int := L.map fun x : Nat => (x : Int)
theorem nz_len (L : List Nat) : (nz L).length = L.length := List.length_map _
theorem nz_at {L : List Nat} {i x : Nat} (h : L[i]? = some x) : ((nz L).map V.int)[i]? = some (.int (x : Int)) := by
  unfold nz
  rw [List.getElem?_map, List.getElem?_map, h]
  rfl
theorem at_nz {L : List Nat} {i : Nat} {v : V} (h : ((nz L).map V.int)[i]? = some v) : ∃ x, L[i]? = some x ∧ v = .int (x : Int) := by
  unfold nz at h
  rw [List.getElem?_map, List.getElem?_map] at h
  cases e : L[i]? with
  | none => rw [e] at h; cases h
  | some x => rw [e] at h; cases h; exact ⟨x, rfl, rfl⟩
theorem nz_mem {L : List Nat} {x : Nat} : ((x : Nat) : Int) ∈ nz L ↔ x ∈ L := by
  unfold nz
  rw [List.mem_map]
  exact ⟨fun ⟨y, h, e⟩ => by rw [← Int.ofNat.inj e]; exact h, fun h => ⟨x, h, rfl⟩⟩
theorem nz_inj : ∀ {a b : List Nat}, nz a = nz b → a = b
  | [], [], _ => rfl
  | [], y :: b, h => by cases h
  | x :: a, [], h => by cases h
  | x :: a, y :: b, h => by
    have h1 := (List.cons.inj h).1
    have h2 := (List.cons.inj h).2
    rw [nz_inj (show nz a = nz b from h2), Int.ofNat.inj h1]
theorem nz_app (a b : List Nat) : nz (a ++ b) = nz a ++ nz b := List.map_append
theorem nz_v (a : List Nat) (x : Nat) : (nz a).map V.int ++ [V.int (x : Int)] = (nz (a ++ [x])).map V.int := by rw [nz_app, List.map_append]; rfl
theorem lts {l : List Nat} (h : l.Pairwise (· < ·)) : (nz l).Pairwise (· < ·) := by
  unfold nz
  rw [List.pairwise_map]
  exact h.imp fun h => by omega
theorem nz_nodup {l : List Nat} (h : l.Nodup) : (nz l).Nodup := by
  unfold nz List.Nodup
  rw [List.pairwise_map]
  exact h.imp fun h e => h (Int.ofNat.inj e)
theorem nodup_lt : ∀ (n : Nat) {l : List Nat}, l.Nodup → (∀ x ∈ l, x < n) → l.length ≤ n
  | 0, [], _, _ => Nat.le_refl _
  | 0, x :: l, _, h => by have := h x List.mem_cons_self; omega
  | n + 1, l, h1, h2 => by
    by_cases m : n ∈ l
    · have h3 := nodup_lt n (l := l.erase n) (h1.erase _) (fun x hx => by
        have a := h2 x (List.mem_of_mem_erase hx)
        have b : x ≠ n := fun e => by
          rw [h1.mem_erase_iff] at hx
          exact hx.1 e
        omega)
      have := List.length_erase_of_mem m
      omega
    · have h3 := nodup_lt n h1 (fun x hx => by
        have a := h2 x hx
        have b : x ≠ n := fun e => m (e ▸ hx)
        omega)
      omega
theorem asc_nodup {l : List Nat} (h : l.Pairwise (· < ·)) : l.Nodup := h.imp fun h => by omega
/-! ### sites -/
abbrev Grid := List (List Nat)
structure SiteOk (G : Grid) : Prop where
  n1 : 1 ≤ G.length
  n2 : G.length ≤ 12
  asc : ∀ (i : Nat) (r : List Nat), G[i]? = some r → r.Pairwise (· < ·)
  lt : ∀ (i : Nat) (r : List Nat), G[i]? = some r → ∀ x ∈ r, x < G.length
  no : ∀ (i : Nat) (r : List Nat), G[i]? = some r → i ∉ r
theorem SiteOk.len {G : Grid} (h : SiteOk G) {i : Nat} {r : List Nat} (e : G[i]? = some r) : r.length ≤ 12 := Nat.le_trans (nodup_lt _ (asc_nodup (h.asc i r e)) (h.lt i r e)) h.n2
/-- the row of a page -/
def row (G : Grid) (i : Nat) : List Nat := G.getD i []
theorem row_at {G : Grid} {i : Nat} {r : List Nat} (h : G[i]? = some r) : row G i = r := by
  unfold row
  rw [List.getD_eq_getElem?_getD, h]
  rfl
theorem at_row {G : Grid} {i : Nat} (h : i < G.length) : G[i]? = some (row G i) := by
  unfold row
  rw [List.getD_eq_getElem?_getD, List.getElem?_eq_getElem h]
  rfl
theorem SiteOk.rlt {G : Grid} (h : SiteOk G) {i x : Nat} (m : x ∈ row G i) : x < G.length := by
  by_cases q : i < G.length
  · exact h.lt i _ (at_row q) x m
  · unfold row at m
    rw [List.getD_eq_getElem?_getD, List.getElem?_eq_none (by omega)] at m
    exact (List.not_mem_nil m).elim
theorem SiteOk.rlen {G : Grid} (h : SiteOk G) (i : Nat) : (row G i).length ≤ 12 := by
  by_cases q : i < G.length
  · exact h.len (at_row q)
  · unfold row
    rw [List.getD_eq_getElem?_getD, List.getElem?_eq_none (by omega)]
    exact Nat.zero_le _
/-- a list at s of lists of numbers -/
def GridAt (H : Hp) (s : Addr) (G : Grid) : Prop := ∃ ps : List Addr, H s = some (.lst (ps.map V.ref)) ∧ ps.length = G.length ∧ ∀ i p, ps[i]? = some p → H p = some (.lst ((nz (row G i)).map V.int))
theorem GridAt.ex {H H' : Hp} {s : Addr} {G : Grid} (h : GridAt H s G) (e : Ex H H') : GridAt H' s G := by
  obtain ⟨ps, h1, h2, h3⟩ := h
  exact ⟨ps, e _ _ h1, h2, fun i p q => e _ _ (h3 i p q)⟩
theorem GridAt.get {H : Hp} {s : Addr} {G : Grid} (h : GridAt H s G) {i : Nat} (hi : i < G.length) : ∃ p xs, H s = some (.lst xs) ∧ xs.length = G.length ∧ xs[i]? = some (.ref p) ∧ H p = some (.lst ((nz (row G i)).map V.int)) := by
  obtain ⟨ps, h1, h2, h3⟩ := h
  have hx : ps[i]? = some ps[i] := List.getElem?_eq_getElem (by omega)
  exact ⟨ps[i], _, h1, by rw [List.length_map]; exact h2, by rw [List.getElem?_map, hx]; rfl, h3 i _ hx⟩
theorem GridAt.lst {H : Hp} {s : Addr} {G : Grid} (h : GridAt H s G) : ∃ xs, H s = some (.lst xs) ∧ xs.length = G.length ∧ ∀ (i : Nat) (v : V), xs[i]? = some v → i < G.length ∧ ∃ p, v = .ref p ∧ H p = some (.lst ((nz (row G i)).map V.int)) := by
  obtain ⟨ps, h1, h2, h3⟩ := h
  refine ⟨_, h1, by rw [List.length_map]; exact h2, fun i v e => ?_⟩
  rw [List.getElem?_map] at e
  cases q : ps[i]? with
  | none => rw [q] at e; cases e
  | some p =>
    rw [q] at e
    cases e
    exact ⟨by have := (List.getElem?_eq_some_iff.mp q).1; omega, p, rfl, h3 i p q⟩
/-- such a list, all of it new -/
def GridN (H H' : Hp) (s : Addr) (G : Grid) : Prop := H s = none ∧ ∃ ps : List Addr, H' s = some (.lst (ps.map V.ref)) ∧ ps.length = G.length ∧ ps.Nodup ∧ s ∉ ps ∧ ∀ i p, ps[i]? = some p → H p = none ∧ H' p = some (.lst ((nz (row G i)).map V.int))
theorem GridN.at {H H' : Hp} {s : Addr} {G : Grid} (h : GridN H H' s G) : GridAt H' s G := by
  obtain ⟨_, ps, h1, h2, _, _, h3⟩ := h
  exact ⟨ps, h1, h2, fun i p q => (h3 i p q).2⟩
theorem GridN.ex {H H' H2 : Hp} {s : Addr} {G : Grid} (h : GridN H H' s G) (e : Ex H' H2) : GridN H H2 s G := by
  obtain ⟨h0, ps, h1, h2, h4, h5, h3⟩ := h
  exact ⟨h0, ps, e _ _ h1, h2, h4, h5, fun i p q => ⟨(h3 i p q).1, e _ _ (h3 i p q).2⟩⟩
theorem GridN.back {H0 H H' : Hp} {s : Addr} {G : Grid} (h : GridN H H' s G) (e : Ex H0 H) : GridN H0 H' s G := by
  obtain ⟨h0, ps, h1, h2, h4, h5, h3⟩ := h
  exact ⟨fresh_back e h0, ps, h1, h2, h4, h5, fun i p q => ⟨fresh_back e (h3 i p q).1, (h3 i p q).2⟩⟩
/-- what was new after Hc stands -/
def Nw (Hc H H' : Hp) : Prop := ∀ x o, Hc x = none → H x = some o → H' x = some o
theorem Nw.of {Hc H H' : Hp} (e : Ex H H') : Nw Hc H H' := fun x o _ h => e x o h
theorem Nw.trans {Hc H H' H'' : Hp} (e : Nw Hc H H') (f : Nw Hc H' H'') : Nw Hc H H'' := fun x o n h => f x o n (e x o n h)
theorem Nw.fx {Hc H H' : Hp} {b : Addr} {o : HO} (h : Hc b = some o) (f : Fx b H H') : Nw Hc H H' := fun x v n g => f x v (fun e => by subst e; rw [h] at n; cases n) g
theorem Nw.put {Hc H : Hp} {a : Addr} {o u : HO} (h : Hc a = some u) : Nw Hc H (upd H a o) := fun x v n g => by
  rw [upd_ne (fun e => by subst e; rw [h] at n; cases n)]
  exact g
theorem GridN.nw {H H1 H2 : Hp} {s : Addr} {G : Grid} (h : GridN H H1 s G) (e : Nw H H1 H2) : GridN H H2 s G := by
  obtain ⟨h0, ps, h1, h2, h4, h5, h3⟩ := h
  exact ⟨h0, ps, e _ _ h0 h1, h2, h4, h5, fun i p q => ⟨(h3 i p q).1, e _ _ (h3 i p q).1 (h3 i p q).2⟩⟩
/-- one row more, made while the grid stood -/
theorem GridN.push {H H1 H' : Hp} {s p : Addr} {G : Grid} {r : List Nat} (h : GridN H H1 s G) (nH : H p = none) (np : H1 p = none) (e : Nw H H1 H') (hp : H' p = some (.lst ((nz r).map V.int))) :
    ∃ xs, H' s = some (.lst xs) ∧ xs.length = G.length ∧ GridN H (upd H' s (.lst (xs ++ [.ref p]))) s (G ++ [r]) := by
  have q1 := h
  obtain ⟨h0, ps, h1, h2, h4, h5, h3⟩ := h
  have hs : p ≠ s := Ne.symm (ne_of_none h1 np)
  refine ⟨_, e _ _ h0 h1, by rw [List.length_map]; exact h2, h0, ps ++ [p], by rw [upd_same, List.map_append]; rfl, by rw [List.length_append, List.length_append, h2]; rfl, ?_, ?_, fun i q eq => ?_⟩
  · rw [List.nodup_append]
    refine ⟨h4, by simp, fun a ha b hb e => ?_⟩
    rw [List.mem_singleton.mp hb] at e
    subst e
    obtain ⟨j, hj, ej⟩ := List.getElem_of_mem ha
    have := (h3 j a (List.getElem?_eq_some_iff.mpr ⟨hj, ej⟩)).2
    rw [np] at this
    cases this
  · intro m
    rcases List.mem_append.mp m with m | m
    · exact h5 m
    · exact hs (List.mem_singleton.mp m).symm
  · by_cases hi : i < ps.length
    · rw [List.getElem?_append_left hi] at eq
      have := h3 i q eq
      have ns : q ≠ s := fun z => h5 (z ▸ List.mem_of_getElem? eq)
      refine ⟨this.1, ?_⟩
      rw [upd_ne ns, e _ _ this.1 this.2]
      unfold row
      rw [List.getD_eq_getElem?_getD, List.getD_eq_getElem?_getD, List.getElem?_append_left (by omega)]
    · rw [List.getElem?_append_right (by omega)] at eq
      have hi2 : i - ps.length = 0 := by
        have := (List.getElem?_eq_some_iff.mp eq).1
        rw [List.length_singleton] at this
        omega
      rw [hi2] at eq
      obtain rfl : p = q := by simpa using eq
      refine ⟨nH, ?_⟩
      rw [upd_ne hs, hp]
      unfold row
      have : i = G.length := by omega
      rw [this, List.getD_eq_getElem?_getD, List.getElem?_append_right (Nat.le_refl _), Nat.sub_self]
      rfl
theorem GridN.nil {H : Hp} {s : Addr} (h : H s = none) : GridN H (upd H s (.lst [])) s [] := ⟨h, [], upd_same, rfl, List.nodup_nil, List.not_mem_nil, fun i p e => by simp at e⟩
/-- as data -/
def dG (G : Grid) : PyData := .list (G.map fun r => .list ((nz r).map PyData.int))
theorem dG_LL (G : Grid) : dG G = dLL (G.map nz) := by unfold dG dLL; rw [List.map_map]; rfl
theorem GridAt.dp {K : PySem.W.Frag} {H : Hp} {s : Addr} {G : Grid} (h : GridAt H s G) : Dp K H (.ref s) (dG G) := by
  obtain ⟨ps, h1, h2, h3⟩ := h
  rw [dG_LL]
  refine .lst (.inl (.inl h1)) (dp_ll (by rw [List.length_map]; exact h2) fun i p l a b => ?_)
  rw [List.getElem?_map] at b
  cases q : G[i]? with
  | none => rw [q] at b; cases b
  | some r =>
    rw [q] at b
    cases b
    have := h3 i p a
    rw [row_at q] at this
    exact .inl (.inl this)
theorem shp_LL (ls : List (List Int)) : SeqAt.shaped (dLL ls) = true := by
  have h0 : ∀ ns : List Int, PyData.canLayAll0 (ns.map PyData.int) = true := fun ns => by
    induction ns with
    | nil => simp [PyData.canLayAll0]
    | cons n ns ih => simp [PyData.canLayAll0, PyData.canLay0, ih]
  have h1 : ∀ ls : List (List Int), PyData.canLayAll0 (ls.map fun l => PyData.list (l.map PyData.int)) = true := fun ls => by
    induction ls with
    | nil => simp [PyData.canLayAll0]
    | cons l ls ih => simp [PyData.canLayAll0, PyData.canLay0, ih, h0]
  have h2 := dep_all (ds := ls.map fun l => PyData.list (l.map PyData.int)) (n := 1) fun d m => by
      obtain ⟨l, hm, rfl⟩ := List.mem_map.mp m
      simp only [PyData.depth]
      have := dep_all (ds := l.map PyData.int) (n := 0) fun d m => by
        obtain ⟨x, hx, rfl⟩ := List.mem_map.mp m
        simp [PyData.depth]
      omega
  show (PyData.canLay0 _ && decide (PyData.depth _ ≤ 64)) = true
  rw [Bool.and_eq_true]
  refine ⟨?_, decide_eq_true ?_⟩
  · unfold dLL; simp only [PyData.canLay0]; exact h1 ls
  · unfold dLL; simp only [PyData.depth]; omega
theorem eqv_LL : ∀ as bs : List (List Int), PyData.eqv (dLL as) (dLL bs) = decide (as = bs) := fun as bs => by
  unfold dLL
  simp only [PyData.eqv]
  induction as generalizing bs with
  | nil => cases bs <;> simp [PyData.eqvAll]
  | cons a as ih =>
    cases bs with
    | nil => simp [PyData.eqvAll]
    | cons b bs =>
      simp only [List.map_cons, PyData.eqvAll, eqv_ints, ih]
      by_cases h : a = b
      · subst h; simp
      · simp [h]
theorem nzs_inj : ∀ {a b : Grid}, a.map nz = b.map nz → a = b
  | [], [], _ => rfl
  | [], y :: b, h => by cases h
  | x :: a, [], h => by cases h
  | x :: a, y :: b, h => by
    rw [List.map_cons, List.map_cons] at h
    rw [nz_inj (List.cons.inj h).1, nzs_inj (List.cons.inj h).2]
theorem eqGrid {K : PySem.W.Frag} {H : Hp} {Q : VK} {a b : Addr} {F G : Grid} (h : GridAt H a F) (g : GridAt H b G) (q : Q (.bl (decide (F = G))) H) : rEqD K (.ref a) (.ref b) H Q := by
  have e : decide (F.map nz = G.map nz) = decide (F = G) := by
    by_cases z : F = G
    · rw [z, decide_eq_true rfl, decide_eq_true rfl]
    · rw [decide_eq_false z, decide_eq_false fun y => z (nzs_inj y)]
  refine ⟨_, _, h.dp, g.dp, by rw [dG_LL]; exact shp_LL _, by rw [dG_LL]; exact shp_LL _, ?_⟩
  rw [dG_LL, dG_LL, eqv_LL, e]
  exact q
theorem neGrid {K : PySem.W.Frag} {H : Hp} {Q : VK} {a b : Addr} {F G : Grid} (h : GridAt H a F) (g : GridAt H b G) (q : Q (.bl (!decide (F = G))) H) : rNeD K (.ref a) (.ref b) H Q := by
  have e : decide (F.map nz = G.map nz) = decide (F = G) := by
    by_cases z : F = G
    · rw [z, decide_eq_true rfl, decide_eq_true rfl]
    · rw [decide_eq_false z, decide_eq_false fun y => z (nzs_inj y)]
  refine ⟨_, _, h.dp, g.dp, by rw [dG_LL]; exact shp_LL _, by rw [dG_LL]; exact shp_LL _, ?_⟩
  rw [dG_LL, dG_LL, eqv_LL, e]
  exact q
theorem at_ints {ns : List Int} {i : Nat} {n : Int} (h : ns[i]? = some n) : (ns.map V.int)[i]? = some (.int n) := by rw [List.getElem?_map, h]; rfl
theorem atI_last {xs : List V} {v : V} (h : xs[xs.length - 1]? = some v) : atI xs (-1) = some v := by
  have hl : xs.length - 1 < xs.length := (List.getElem?_eq_some_iff.mp h).1
  have e : ixN xs.length (-1) = some (xs.length - 1) := by
    unfold ixN
    rw [if_neg (by omega), if_pos (by omega)]
    congr 1
    omega
  unfold atI
  rw [e]
  exact h
theorem cutV_from1 (xs : List V) : cutV xs (some 1) none = xs.drop 1 := by
  unfold cutV
  have e2 : HT.sIx xs.length xs.length none = xs.length := rfl
  have e1 : HT.sIx xs.length 0 (some 1) = min 1 xs.length := HT.sIx_nat ..
  rw [e1, e2]
  by_cases h : 1 ≤ xs.length
  · rw [Nat.min_eq_left h, List.take_of_length_le (by rw [List.length_drop]; omega)]
  · have : xs = [] := List.length_eq_zero_iff.mp (by omega)
    rw [this]
    rfl
theorem cut_take (xs : List V) (j : Nat) : cutV xs none (some (j : Int)) = xs.take j := by
  by_cases h : j ≤ xs.length
  · exact BC.cut_to xs rfl h
  · unfold cutV
    have e1 : HT.sIx xs.length 0 none = 0 := rfl
    rw [HT.sIx_nat, e1, List.drop_zero, Nat.sub_zero, Nat.min_eq_right (by omega), List.take_length, List.take_of_length_le (by omega)]
theorem GridN.get {H H' : Hp} {s : Addr} {G : Grid} (h : GridN H H' s G) {i : Nat} (hi : i < G.length) : ∃ p xs, H' s = some (.lst xs) ∧ xs.length = G.length ∧ xs[i]? = some (.ref p) ∧ H' p = some (.lst ((nz (row G i)).map V.int)) ∧ H p = none := by
  obtain ⟨_, ps, h1, h2, _, _, h3⟩ := h
  have hx : ps[i]? = some ps[i] := List.getElem?_eq_getElem (by omega)
  exact ⟨ps[i], _, h1, by rw [List.length_map]; exact h2, by rw [List.getElem?_map, hx]; rfl, (h3 i _ hx).2, (h3 i _ hx).1⟩
theorem GridN.lower {Hl H H' : Hp} {b s : Addr} {G : Grid} (h : GridN H H' s G) (f : Fx b Hl H) (hb : ∃ o, H b = some o) : GridN Hl H' s G := by
  obtain ⟨o, ho⟩ := hb
  obtain ⟨h0, ps, h1, h2, h4, h5, h3⟩ := h
  have nb : ∀ {x : Addr}, H x = none → x ≠ b := fun n e => by subst e; rw [ho] at n; cases n
  exact ⟨fx_none f h0 (nb h0), ps, h1, h2, h4, h5, fun i p q => ⟨fx_none f (h3 i p q).1 (nb (h3 i p q).1), (h3 i p q).2⟩⟩
theorem nd_at {l : List Addr} (h : l.Nodup) {i j : Nat} {x : Addr} (a : l[i]? = some x) (b : l[j]? = some x) : i = j := by
  obtain ⟨h1, h2⟩ := List.getElem?_eq_some_iff.mp a
  obtain ⟨h3, h4⟩ := List.getElem?_eq_some_iff.mp b
  have e1 := h.idxOf_getElem i h1
  have e2 := h.idxOf_getElem j h3
  rw [h2] at e1
  rw [h4] at e2
  exact e1.symm.trans e2
/-- kept of a list -/
theorem kept_nz (s : List Nat) (k : Nat → Bool) : kept s.length (fun i => k (s.getD i 0)) (fun i => V.int ((s.getD i 0 : Nat) : Int)) = (nz (s.filter k)).map V.int := by
  unfold kept nz
  have e : (List.range s.length).map (fun i => s.getD i 0) = s := by
    apply List.ext_getElem?
    intro j
    by_cases h : j < s.length
    · rw [List.getElem?_map, List.getElem?_range h, List.getElem?_eq_getElem h]
      show some (s.getD j 0) = _
      rw [List.getD_eq_getElem?_getD, List.getElem?_eq_getElem h]
      rfl
    · rw [List.getElem?_eq_none (by rw [List.length_map, List.length_range]; omega), List.getElem?_eq_none (by omega)]
  conv => rhs; rw [← e]
  rw [List.filter_map, List.map_map, List.map_map]
  rfl
theorem kept_rng (n : Nat) (k : Nat → Bool) : kept n k (fun i => V.int ((i : Nat) : Int)) = (nz ((List.range n).filter k)).map V.int := by
  unfold kept nz
  rw [List.map_map]
  rfl
/-- zip of lists of different lengths -/
theorem lc_zipM {K : PySem.W.Frag} {σ : L2.St} {H1 : Hp} {tt : TT} {te : TE} {vs : List Nat} {Dl : Addr} {Q : VK} {a b : Addr} {xs ys : List V} {j k : Nat} (n : Nat) (keep : Nat → Bool) (f : Nat → V) (hx : SqL K H1 a xs) (hy : SqL K H1 b ys) (h1 : n ≤ xs.length) (h2 : n ≤ ys.length) (h3 : n = xs.length ∨ n = ys.length) (hD : H1 Dl = none) (hn : n ≤ 100000)
    (hw : ∀ u v : V, wipe (((wipe σ vs).set j (some u)).set k (some v)) vs = wipe σ vs)
    (ht : ∀ i x y, xs[i]? = some x → ys[i]? = some y → Evl.EvT tt (((wipe σ vs).set j (some x)).set k (some y)) H1 (keep i))
    (he : ∀ i x y, xs[i]? = some x → ys[i]? = some y → keep i = true → Evl.Ev te (((wipe σ vs).set j (some x)).set k (some y)) H1 (f i))
    (hd : ∀ H', Evl.Ex H1 H' → H' Dl = some (.lst (kept n keep f)) → Q (.ref Dl) H') : LcG (Itz K a b) (gTup K 2 (gCons (gName j) (gCons (gName k) gNil))) tt te vs σ Dl H1 Q := by
  have gx : ∀ i, i < n → xs[i]? = some (xs.getD i .non) := fun i hi => by rw [List.getD_eq_getElem?_getD, List.getElem?_eq_getElem (by omega)]; rfl
  have gy : ∀ i, i < n → ys[i]? = some (ys.getD i .non) := fun i hi => by rw [List.getD_eq_getElem?_getD, List.getElem?_eq_getElem (by omega)]; rfl
  refine lc_pure n (fun i => ((wipe σ vs).set j (some (xs.getD i .non))).set k (some (ys.getD i .non))) keep f hD hn (fun H' e => ⟨xs, ys, Evl.ex_l e hx, Evl.ex_l e hy, by omega⟩)
    (fun i H' hi e => ⟨xs, ys, _, _, Evl.ex_l e hx, Evl.ex_l e hy, gx i hi, gy i hi⟩)
    (fun i H' x H'' QG hi e y q => ?_) (fun i hi => hw _ _) (fun i hi => ht i _ _ (gx i hi) (gy i hi)) (fun i hi => he i _ _ (gx i hi) (gy i hi)) hd
  obtain ⟨T, u, v, rfl, hT, rfl, hf, hf2⟩ := y
  have hu := hf xs (Evl.ex_l e hx)
  have hv := hf2 ys (Evl.ex_l e hy)
  have e1 : xs.getD i .non = u := by rw [List.getD_eq_getElem?_getD, hu]; rfl
  have e2 : ys.getD i .non = v := by rw [List.getD_eq_getElem?_getD, hv]; rfl
  refine g_two upd_same ?_
  have q2 := q (Evl.Ex.new hT)
  rw [e1, e2] at q2
  exact q2
end BC

set_option Elab.async false
set_option linter.all false
set_option maxRecDepth 100000
set_option maxHeartbeats 4000000
/-! walks on a site, by number and one by one -/
namespace BC
section
open PySem PySem.Spec PyProof.Rows L2 Evl
/-- xs[i] of xs[i] += e -/
def rGetL (K : PySem.W.Frag) : V → V → Hp → VK → Prop := fun x y H Q => ∃ p xs, ∃ i : Nat, ∃ v, x = .ref p ∧ y = .int i ∧ SqL K H p xs ∧ xs[i]? = some v ∧ Q v H
theorem k_get {X : Cx} {K : PySem.W.Frag} (hK : X.K = K) : PGet X (rGetL K) := by
  subst hK
  intro pins s σ H o i ov iv Q I ro ri h
  obtain ⟨p, xs, j, v, rfl, rfl, hq, hv, q⟩ := h
  cases ro
  obtain ⟨t, rfl⟩ := ri
  obtain ⟨its, r, pl, hz⟩ := I.list hq
  obtain ⟨u, eu, ru⟩ := r.get hv
  have hl := r.length
  have hn := line63
  have hj := (List.getElem?_eq_some_iff.mp hv).1
  refine wpAny_getItem_list (x := u) pl.isList (by omega) (by omega) (by simpa using eu) ⟨v, H, I, ru, q⟩
theorem getL {K : PySem.W.Frag} {H : Hp} {Q : VK} {p : Addr} {xs : List V} {k : Int} {i : Nat} {v : V} (h : SqL K H p xs) (e : k = (i : Int)) (hv : xs[i]? = some v) (q : Q v H) : rGetL K (.ref p) (.int k) H Q := by subst e; exact ⟨p, xs, i, v, rfl, rfl, h, hv, q⟩
theorem x_augS {to ti te : TE} {tget : V → V → Hp → VK → Prop} {tip : TIp} {tset : TSet} {D : Ends} {σ : L2.St} {H : Hp} : tAugS to ti te tget tip tset D σ H = to σ H fun o H1 => ti σ H1 fun i H2 => tget o i H2 fun x H3 => te σ H3 fun y H4 => tip x y H4 fun z H5 => tset o i z H5 fun H6 => D.nx σ H6 := rfl
end
/-- the walks of t steps from v -/
def wf (G : Grid) : Nat → Nat → List (List Nat)
  | 0, v => [[v]]
  | t + 1, v => ((row G v).map fun u => (wf G t u).map (v :: ·)).flatten
def lst (r : List Nat) : Nat := r.getLast?.getD 0
def grow (G : Grid) (r : List Nat) : List (List Nat) := (row G (lst r)).map fun u => r ++ [u]
theorem wf_ne {G : Grid} : ∀ (t v : Nat), ∀ r ∈ wf G t v, r ≠ []
  | 0, v, r, h => by
    obtain rfl : r = [v] := by simpa [wf] using h
    simp
  | t + 1, v, r, h => by
    unfold wf at h
    obtain ⟨a, ha, hr⟩ := List.mem_flatten.mp h
    obtain ⟨u, _, rfl⟩ := List.mem_map.mp ha
    obtain ⟨q, _, rfl⟩ := List.mem_map.mp hr
    simp
theorem grow_cons (G : Grid) (v : Nat) {r : List Nat} (h : r ≠ []) : grow G (v :: r) = (grow G r).map (v :: ·) := by
  unfold grow lst
  rw [List.map_map, List.getLast?_cons_of_ne_nil h]
  rfl
theorem sum_zeros {α : Type} : ∀ l : List α, (l.map fun _ => 0).sum = 0
  | [] => rfl
  | x :: l => by rw [List.map_cons, List.sum_cons, sum_zeros l]
theorem map_flatten' {α β : Type} (f : α → β) : ∀ l : List (List α), l.flatten.map f = (l.map (·.map f)).flatten
  | [] => rfl
  | a :: l => by rw [List.flatten_cons, List.map_append, map_flatten' f l]; rfl
theorem flatten_flatten' {α : Type} : ∀ l : List (List (List α)), l.flatten.flatten = (l.map (·.flatten)).flatten
  | [] => rfl
  | a :: l => by rw [List.flatten_cons, List.flatten_append, flatten_flatten' l]; rfl
theorem wf_snoc (G : Grid) : ∀ (t v : Nat), wf G (t + 1) v = ((wf G t v).map (grow G)).flatten
  | 0, v => by
    show ((row G v).map fun u => [[v, u]]).flatten = (grow G [v]) ++ []
    rw [List.append_nil]
    show ((row G v).map fun u => [[v, u]]).flatten = (row G v).map fun u => [v, u]
    generalize row G v = l
    induction l with
    | nil => rfl
    | cons x l ih =>
      rw [List.map_cons, List.flatten_cons, ih]
      rfl
  | t + 1, v => by
    have ih := fun u => wf_snoc G t u
    show ((row G v).map fun u => (wf G (t + 1) u).map (v :: ·)).flatten = ((((row G v).map fun u => (wf G t u).map (v :: ·)).flatten).map (grow G)).flatten
    rw [map_flatten', flatten_flatten', List.map_map, List.map_map]
    congr 1
    apply List.map_congr_left
    intro u _
    show (wf G (t + 1) u).map (v :: ·) = ((wf G t u |>.map (v :: ·)).map (grow G)).flatten
    rw [ih u, map_flatten', List.map_map, List.map_map]
    congr 1
    apply List.map_congr_left
    intro r hr
    show (grow G r).map (v :: ·) = grow G (v :: r)
    rw [grow_cons G v (wf_ne t u r hr)]
/-- the number of walks of t steps from v to the page that keep out -/
def fw (G : Grid) (out : List Nat) (p : Nat) : Nat → Nat → Nat
  | 0, v => if v = p ∧ v ∉ out then 1 else 0
  | t + 1, v => if v ∉ out then ((row G v).map fun u => fw G out p t u).sum else 0
/-- a walk to the page that keeps out -/
def good (out : List Nat) (p : Nat) (r : List Nat) : Bool := decide (lst r = p) && decide (r.filter (fun x => decide (x ∈ out)) = [])
theorem good_cons {out : List Nat} {p v : Nat} {r : List Nat} (h : r ≠ []) : good out p (v :: r) = (decide (v ∉ out) && good out p r) := by
  unfold good lst
  rw [List.getLast?_cons_of_ne_nil h]
  by_cases c : v ∈ out
  · simp [c]
  · simp [c]
theorem len_flat {α : Type} (P : α → Bool) : ∀ l : List (List α), (l.flatten.filter P).length = (l.map fun a => (a.filter P).length).sum
  | [] => rfl
  | a :: l => by rw [List.flatten_cons, List.filter_append, List.length_append, len_flat P l]; rfl
theorem fw_count (G : Grid) (out : List Nat) (p : Nat) : ∀ (t v : Nat), ((wf G t v).filter (good out p)).length = fw G out p t v
  | 0, v => by
    show ([[v]].filter (good out p)).length = if v = p ∧ v ∉ out then 1 else 0
    have e : good out p [v] = (decide (v = p) && decide (v ∉ out)) := by
      show (decide (v = p) && decide ([v].filter (fun x => decide (x ∈ out)) = [])) = _
      congr 1
      by_cases c : v ∈ out <;> simp [c]
    by_cases a : v = p <;> by_cases c : v ∈ out <;> simp [e, a, c]
    all_goals (subst a; simp_all)
  | t + 1, v => by
    show ((((row G v).map fun u => (wf G t u).map (v :: ·)).flatten).filter (good out p)).length = if v ∉ out then ((row G v).map fun u => fw G out p t u).sum else 0
    rw [len_flat, List.map_map]
    have key : ∀ u, (((wf G t u).map (v :: ·)).filter (good out p)).length = if v ∉ out then fw G out p t u else 0 := fun u => by
      rw [List.filter_map, List.length_map]
      have e : (wf G t u).filter (good out p ∘ fun x => v :: x) = (wf G t u).filter fun r => decide (v ∉ out) && good out p r := by
        apply List.filter_congr
        intro r hr
        show good out p (v :: r) = _
        rw [good_cons (wf_ne t u r hr)]
      rw [e]
      by_cases c : v ∈ out
      · simp [c]
      · rw [if_pos c]
        simp only [c, not_false_eq_true, decide_true, Bool.true_and]
        exact fw_count G out p t u
    by_cases c : v ∈ out
    · rw [if_neg (by simpa using c)]
      have : (row G v).map ((fun a => (List.filter (good out p) a).length) ∘ fun u => (wf G t u).map (v :: ·)) = (row G v).map fun _ => 0 := List.map_congr_left fun u _ => by
        show (((wf G t u).map (v :: ·)).filter (good out p)).length = 0
        rw [key u, if_neg (by simpa using c)]
      rw [this, sum_zeros]
    · rw [if_pos c]
      congr 1
      apply List.map_congr_left
      intro u _
      show (((wf G t u).map (v :: ·)).filter (good out p)).length = _
      rw [key u, if_pos c]
theorem wf_lt {G : Grid} (h : SiteOk G) : ∀ (t v : Nat), v < G.length → ∀ r ∈ wf G t v, (∀ x ∈ r, x < G.length) ∧ r.length = t + 1
  | 0, v, hv, r, hr => by
    obtain rfl : r = [v] := by simpa [wf] using hr
    exact ⟨fun x hx => by rw [List.mem_singleton.mp hx]; exact hv, rfl⟩
  | t + 1, v, hv, r, hr => by
    unfold wf at hr
    obtain ⟨a, ha, hr⟩ := List.mem_flatten.mp hr
    obtain ⟨u, hu, rfl⟩ := List.mem_map.mp ha
    obtain ⟨q, hq, rfl⟩ := List.mem_map.mp hr
    obtain ⟨h1, h2⟩ := wf_lt h t u (h.rlt hu) q hq
    refine ⟨fun x hx => ?_, by rw [List.length_cons, h2]⟩
    rcases List.mem_cons.mp hx with rfl | hx
    · exact hv
    · exact h1 x hx
theorem sum_le {f : Nat → Nat} {b : Nat} : ∀ {l : List Nat}, (∀ x ∈ l, f x ≤ b) → (l.map f).sum ≤ l.length * b
  | [], _ => by simp
  | x :: l, h => by
    have a := h x List.mem_cons_self
    have b := sum_le (l := l) fun y hy => h y (List.mem_cons_of_mem _ hy)
    rw [List.map_cons, List.sum_cons, List.length_cons, Nat.succ_mul]
    omega
theorem fw_le {G : Grid} (h : SiteOk G) (out : List Nat) (p : Nat) : ∀ t v, fw G out p t v ≤ 12 ^ t
  | 0, v => by
    unfold fw
    split <;> simp
  | t + 1, v => by
    unfold fw
    split
    · have a := sum_le (f := fun u => fw G out p t u) (b := 12 ^ t) (l := row G v) fun u _ => fw_le h out p t u
      have b := Nat.mul_le_mul_right (12 ^ t) (h.rlen v)
      rw [Nat.pow_succ, Nat.mul_comm]
      omega
    · exact Nat.zero_le _
theorem wf_len {G : Grid} (h : SiteOk G) : ∀ (t v : Nat), (wf G t v).length ≤ G.length ^ t
  | 0, v => by simp [wf]
  | t + 1, v => by
    show (((row G v).map fun u => (wf G t u).map (v :: ·)).flatten).length ≤ _
    have e : (((row G v).map fun u => (wf G t u).map (v :: ·)).flatten).length = ((row G v).map fun u => (wf G t u).length).sum := by
      rw [List.length_flatten, List.map_map]
      congr 1
      apply List.map_congr_left
      intro u _
      show ((wf G t u).map _).length = _
      rw [List.length_map]
    rw [e]
    have a := sum_le (f := fun u => (wf G t u).length) (b := G.length ^ t) (l := row G v) fun u _ => wf_len h t u
    have rl : (row G v).length ≤ G.length := by
      by_cases q : v < G.length
      · exact nodup_lt _ (asc_nodup (h.asc v _ (at_row q))) (h.lt v _ (at_row q))
      · unfold row
        rw [List.getD_eq_getElem?_getD, List.getElem?_eq_none (by omega)]
        exact Nat.zero_le _
    have b := Nat.mul_le_mul_right (G.length ^ t) rl
    rw [Nat.pow_succ, Nat.mul_comm]
    omega
theorem flat_le {α β : Type} {f : α → List β} {b : Nat} : ∀ {l : List α}, (∀ x ∈ l, (f x).length ≤ b) → (l.map f).flatten.length ≤ l.length * b
  | [], _ => by simp
  | x :: l, h => by
    have a := h x List.mem_cons_self
    have c := flat_le (l := l) fun y hy => h y (List.mem_cons_of_mem _ hy)
    rw [List.map_cons, List.flatten_cons, List.length_append, List.length_cons, Nat.succ_mul]
    omega
/-! ### products of lists of numbers -/
def cnv (a b : List Nat) (k : Nat) : Nat := ((List.range (k + 1)).map fun i => a.getD i 0 * b.getD (k - i) 0).sum
def conv (a b : List Nat) (n : Nat) : List Nat := (List.range (n + 1)).map fun k => cnv a b k
theorem conv_len (a b : List Nat) (n : Nat) : (conv a b n).length = n + 1 := by unfold conv; rw [List.length_map, List.length_range]
theorem conv_at {a b : List Nat} {n k : Nat} (h : k ≤ n) : (conv a b n)[k]? = some (cnv a b k) := by
  unfold conv
  rw [List.getElem?_map, List.getElem?_range (by omega)]
  rfl
/-- what is added up while the first i of a are done, and j of b at the next one -/
def part (a b : List Nat) (i j k : Nat) : Nat := ((List.range (k + 1)).map fun u => if u < i ∨ (u = i ∧ k - u < j) then a.getD u 0 * b.getD (k - u) 0 else 0).sum
theorem part_zero (a b : List Nat) (k : Nat) : part a b 0 0 k = 0 := by
  unfold part
  have : (List.range (k + 1)).map (fun u => if u < 0 ∨ (u = 0 ∧ k - u < 0) then a.getD u 0 * b.getD (k - u) 0 else 0) = (List.range (k + 1)).map fun _ => 0 := List.map_congr_left fun u _ => by rw [if_neg (by omega)]
  rw [this, sum_zeros]
theorem sum_one (n i : Nat) (f g : Nat → Nat) (c : Nat) (hi : i < n) (h1 : ∀ u, u < n → u ≠ i → g u = f u) (h2 : g i = f i + c) : ((List.range n).map g).sum = ((List.range n).map f).sum + c := by
  induction n with
  | zero => omega
  | succ n ih =>
    rw [List.range_succ, List.map_append, List.map_append, List.sum_append, List.sum_append]
    simp only [List.map_cons, List.map_nil, List.sum_cons, List.sum_nil]
    by_cases e : i = n
    · subst e
      have : (List.range i).map g = (List.range i).map f := List.map_congr_left fun u hu => h1 u (by rw [List.mem_range] at hu; omega) (by rw [List.mem_range] at hu; omega)
      rw [this, h2]
      omega
    · rw [ih (by omega) (fun u hu ne => h1 u (by omega) ne), h1 n (by omega) (Ne.symm e)]
      omega
theorem part_step {a b : List Nat} {i j k : Nat} : part a b i (j + 1) k = part a b i j k + if k = i + j then a.getD i 0 * b.getD j 0 else 0 := by
  unfold part
  by_cases c : k = i + j
  · rw [if_pos c]
    refine sum_one (k + 1) i _ _ _ (by omega) (fun u hu ne => ?_) ?_
    · have : (u < i ∨ (u = i ∧ k - u < j + 1)) ↔ (u < i ∨ (u = i ∧ k - u < j)) := by omega
      simp only [this]
    · have e : k - i = j := by omega
      rw [if_pos (by omega), if_neg (by omega), e, Nat.zero_add]
  · rw [if_neg c, Nat.add_zero]
    congr 1
    apply List.map_congr_left
    intro u hu
    rw [List.mem_range] at hu
    have : (u < i ∨ (u = i ∧ k - u < j + 1)) ↔ (u < i ∨ (u = i ∧ k - u < j)) := by omega
    simp only [this]
theorem part_next {a b : List Nat} {i j k : Nat} (h : k < i + j ∨ b.length ≤ j ∨ a.getD i 0 = 0) : part a b i j k = part a b (i + 1) 0 k := by
  unfold part
  congr 1
  apply List.map_congr_left
  intro u hu
  rw [List.mem_range] at hu
  by_cases c1 : u < i
  · rw [if_pos (.inl c1), if_pos (by omega)]
  · by_cases c2 : u = i
    · subst c2
      rw [if_pos (show u < u + 1 ∨ _ by omega)]
      by_cases c3 : k - u < j
      · rw [if_pos (by omega)]
      · rw [if_neg (by omega)]
        rcases h with h | h | h
        · omega
        · rw [show b.getD (k - u) 0 = 0 by rw [List.getD_eq_getElem?_getD, List.getElem?_eq_none (by omega)]; rfl, Nat.mul_zero]
        · rw [h, Nat.zero_mul]
    · rw [if_neg (by omega), if_neg (by omega)]
theorem part_full {a b : List Nat} {i k : Nat} (h : k < i ∨ a.length ≤ i) : part a b i 0 k = cnv a b k := by
  unfold part cnv
  congr 1
  apply List.map_congr_left
  intro u hu
  rw [List.mem_range] at hu
  by_cases c : u < i
  · rw [if_pos (.inl c)]
  · rw [if_neg (by omega)]
    rw [show a.getD u 0 = 0 by rw [List.getD_eq_getElem?_getD, List.getElem?_eq_none (by omega)]; rfl, Nat.zero_mul]
theorem part_le {a b : List Nat} {i j k B C : Nat} (ha : ∀ x ∈ a, x ≤ B) (hb : ∀ x ∈ b, x ≤ C) : part a b i j k ≤ (k + 1) * (B * C) := by
  unfold part
  have ga : ∀ u, a.getD u 0 ≤ B := fun u => by
    by_cases q : u < a.length
    · rw [List.getD_eq_getElem?_getD, List.getElem?_eq_getElem q]
      exact ha _ (List.getElem_mem q)
    · rw [List.getD_eq_getElem?_getD, List.getElem?_eq_none (by omega)]
      exact Nat.zero_le _
  have gb : ∀ u, b.getD u 0 ≤ C := fun u => by
    by_cases q : u < b.length
    · rw [List.getD_eq_getElem?_getD, List.getElem?_eq_getElem q]
      exact hb _ (List.getElem_mem q)
    · rw [List.getD_eq_getElem?_getD, List.getElem?_eq_none (by omega)]
      exact Nat.zero_le _
  have := sum_le (f := fun u => if u < i ∨ (u = i ∧ k - u < j) then a.getD u 0 * b.getD (k - u) 0 else 0) (b := B * C) (l := List.range (k + 1)) fun u _ => by
    split
    · exact Nat.mul_le_mul (ga u) (gb _)
    · exact Nat.zero_le _
  rw [List.length_range] at this
  exact this
/-- the list of the sums -/
def parts (a b : List Nat) (n i j : Nat) : List Nat := (List.range (n + 1)).map fun k => part a b i j k
theorem parts_len (a b : List Nat) (n i j : Nat) : (parts a b n i j).length = n + 1 := by unfold parts; rw [List.length_map, List.length_range]
theorem parts_at {a b : List Nat} {n i j k : Nat} (h : k ≤ n) : (parts a b n i j)[k]? = some (part a b i j k) := by
  unfold parts
  rw [List.getElem?_map, List.getElem?_range (by omega)]
  rfl
theorem parts_zero (a b : List Nat) (n : Nat) : parts a b n 0 0 = List.replicate (n + 1) 0 := by
  apply List.ext_getElem?
  intro k
  by_cases h : k < n + 1
  · rw [parts_at (by omega), part_zero, List.getElem?_replicate, if_pos h]
  · rw [List.getElem?_eq_none (by rw [parts_len]; omega), List.getElem?_eq_none (by rw [List.length_replicate]; omega)]
theorem parts_step {a b : List Nat} {n i j : Nat} (h : i + j ≤ n) : (parts a b n i j).set (i + j) (part a b i j (i + j) + a.getD i 0 * b.getD j 0) = parts a b n i (j + 1) := by
  apply List.ext_getElem?
  intro k
  by_cases hk : k < n + 1
  · rw [parts_at (by omega), part_step, List.getElem?_set]
    by_cases e : i + j = k
    · subst e
      rw [if_pos rfl, if_pos (by rw [parts_len]; omega), if_pos rfl]
    · rw [if_neg e, parts_at (by omega), if_neg (Ne.symm e), Nat.add_zero]
  · rw [List.getElem?_eq_none (by rw [List.length_set, parts_len]; omega), List.getElem?_eq_none (by rw [parts_len]; omega)]
theorem parts_over {a b : List Nat} {n i j : Nat} (h : n < i + j) : parts a b n i (j + 1) = parts a b n i j := by
  unfold parts
  apply List.map_congr_left
  intro k hk
  rw [List.mem_range] at hk
  rw [part_step, if_neg (by omega), Nat.add_zero]
theorem parts_next {a b : List Nat} {n i j : Nat} (h : n < i + j ∨ b.length ≤ j ∨ a.getD i 0 = 0) : parts a b n i j = parts a b n (i + 1) 0 := by
  unfold parts
  apply List.map_congr_left
  intro k hk
  rw [List.mem_range] at hk
  exact part_next (by omega)
theorem parts_full {a b : List Nat} {n i : Nat} (h : n < i ∨ a.length ≤ i) : parts a b n i 0 = conv a b n := by
  unfold parts conv
  apply List.map_congr_left
  intro k hk
  rw [List.mem_range] at hk
  exact part_full (by omega)
section
open PySem PySem.Spec PyProof.Rows L2 Evl
theorem lc_enumE {K : PySem.W.Frag} {σ : L2.St} {H1 : Hp} {g : TG} {te : TE} {vs : List Nat} {Dl : Addr} {Q : VK} {a : Addr} {xs : List V} (Pv : Nat → Hp → Prop) (h0 : Pv 0 (upd H1 Dl (.lst []))) (hl : ∀ i H, i ≤ xs.length → Pv i H → SqL K H a xs)
    (hs : ∀ i x H T, xs[i]? = some x → Pv i H → H T = none → g (.ref T) (wipe σ vs) (upd H T (.tup [.int (i : Nat), x])) fun σ2 H2 => wipe σ2 vs = wipe σ vs ∧ te σ2 H2 fun y H4 => ∃ acc, H4 Dl = some (.lst acc) ∧ acc.length < sizeLine ∧ Pv (i + 1) (upd H4 Dl (.lst (acc ++ [y]))))
    (hd : ∀ H, Pv xs.length H → Q (.ref Dl) H) : LcG (Ite K a) g tYes te vs σ Dl H1 Q := by
  refine lc_g xs.length Pv h0 (fun H h => ⟨xs, hl _ H (Nat.le_refl _) h, Nat.le_refl _⟩) (fun i H hi h => ⟨xs, xs[i], hl i H (by omega) h, List.getElem?_eq_getElem hi⟩) (fun i H x H' hi h y => ?_) hd
  obtain ⟨T, v, rfl, hT, rfl, hf⟩ := y
  exact hs i v H T (hf xs (hl i _ (by omega) h)) h hT
/-- a row of a new grid changed -/
theorem GridN.chg {H H1 : Hp} {s : Addr} {G : Grid} (h : GridN H H1 s G) {j : Nat} (hj : j < G.length) : ∃ p xs, H1 s = some (.lst xs) ∧ xs.length = G.length ∧ xs[j]? = some (.ref p) ∧ H1 p = some (.lst ((nz (row G j)).map V.int)) ∧ H p = none ∧
    ∀ r : List Nat, GridN H (upd H1 p (.lst ((nz r).map V.int))) s (G.set j r) := by
  obtain ⟨h0, ps, h1, h2, h4, h5, h3⟩ := h
  have hx : ps[j]? = some ps[j] := List.getElem?_eq_getElem (by omega)
  have hp := h3 j _ hx
  refine ⟨ps[j], _, h1, by rw [List.length_map]; exact h2, by rw [List.getElem?_map, hx]; rfl, hp.2, hp.1, fun r => ?_⟩
  have ns : s ≠ ps[j] := fun e => h5 (by rw [e]; exact List.getElem_mem _)
  refine ⟨h0, ps, by rw [upd_ne ns]; exact h1, by rw [List.length_set]; exact h2, h4, h5, fun i q e => ⟨(h3 i q e).1, ?_⟩⟩
  by_cases c : i = j
  · subst c
    rw [hx] at e
    obtain rfl := Option.some.inj e
    rw [upd_same]
    unfold row
    rw [List.getD_eq_getElem?_getD, List.getElem?_set, if_pos rfl, if_pos hj]
    rfl
  · have nq : q ≠ ps[j] := fun z => by
      subst z
      exact c (nd_at h4 e hx)
    rw [upd_ne nq, (h3 i q e).2]
    unfold row
    rw [List.getD_eq_getElem?_getD, List.getD_eq_getElem?_getD, List.getElem?_set, if_neg (Ne.symm c)]
/-! ### what the functions of loops.py give -/
def cl (G : Grid) (out : List Nat) (p n : Nat) : List Nat := (List.range (n + 1)).map fun t => fw G out p t p
def stg (G : Grid) (out : List Nat) (p k j : Nat) : Grid := (List.range G.length).map fun v => (List.range (if v < j then k + 2 else k + 1)).map fun t => fw G out p t v
theorem stg_len (G : Grid) (out : List Nat) (p k j : Nat) : (stg G out p k j).length = G.length := by unfold stg; rw [List.length_map, List.length_range]
theorem stg_row {G : Grid} {out : List Nat} {p k j v : Nat} (h : v < G.length) : row (stg G out p k j) v = (List.range (if v < j then k + 2 else k + 1)).map fun t => fw G out p t v := by
  unfold row stg
  rw [List.getD_eq_getElem?_getD, List.getElem?_map, List.getElem?_range h]
  rfl
theorem stg_set {G : Grid} {out : List Nat} {p k j : Nat} (h : j < G.length) : (stg G out p k j).set j (row (stg G out p k j) j ++ [fw G out p (k + 1) j]) = stg G out p k (j + 1) := by
  apply List.ext_getElem?
  intro v
  by_cases hv : v < G.length
  · rw [List.getElem?_set, stg_row h, if_neg (Nat.lt_irrefl j)]
    have rhs : (stg G out p k (j + 1))[v]? = some (row (stg G out p k (j + 1)) v) := at_row (by rw [stg_len]; exact hv)
    rw [rhs, stg_row hv]
    by_cases e : j = v
    · subst e
      rw [if_pos rfl, if_pos (by rw [stg_len]; exact hv), if_pos (Nat.lt_succ_self j), List.range_succ (n := k + 1), List.map_append]
      rfl
    · rw [if_neg e, at_row (by rw [stg_len]; exact hv), stg_row hv]
      by_cases c : v < j
      · rw [if_pos c, if_pos (by omega)]
      · rw [if_neg c, if_neg (by omega)]
  · rw [List.getElem?_eq_none (by rw [List.length_set, stg_len]; omega), List.getElem?_eq_none (by rw [stg_len]; omega)]
theorem stg_next (G : Grid) (out : List Nat) (p k : Nat) : stg G out p k G.length = stg G out p (k + 1) 0 := by
  unfold stg
  apply List.map_congr_left
  intro v hv
  rw [List.mem_range] at hv
  rw [if_pos hv, if_neg (by omega)]
theorem stg_cl {G : Grid} {out : List Nat} {p n : Nat} (h : p < G.length) : row (stg G out p n 0) p = cl G out p n := by
  rw [stg_row h, if_neg (by omega)]
  rfl
def prs (G : Grid) (L : List Nat) (n : Nat) : Grid := (List.range L.length).map fun i => cl G (L.take i) (L.getD i 0) n
theorem prs_len (G : Grid) (L : List Nat) (n : Nat) : (prs G L n).length = L.length := by unfold prs; rw [List.length_map, List.length_range]
theorem prs_row {G : Grid} {L : List Nat} {n i : Nat} (h : i < L.length) : row (prs G L n) i = cl G (L.take i) (L.getD i 0) n := by
  unfold row prs
  rw [List.getD_eq_getElem?_getD, List.getElem?_map, List.getElem?_range h]
  rfl
def fold (n : Nat) (P : Grid) : List Nat := P.foldl (fun f q => conv f q n) (1 :: List.replicate n 0)
theorem fold_len (n : Nat) (P : Grid) : (fold n P).length = n + 1 := by
  unfold fold
  have : ∀ (P : Grid) (f : List Nat), f.length = n + 1 → (P.foldl (fun f q => conv f q n) f).length = n + 1 := fun P => by
    induction P with
    | nil => exact fun f h => h
    | cons q P ih => exact fun f _ => ih _ (conv_len _ _ _)
  exact this P _ (by simp)
theorem fold_snoc {n : Nat} {P : Grid} {i : Nat} {q : List Nat} (h : P[i]? = some q) : fold n (P.take (i + 1)) = conv (fold n (P.take i)) q n := by
  unfold fold
  rw [List.take_add_one, h, List.foldl_append]
  rfl
theorem cl_le {G : Grid} (h : SiteOk G) (out : List Nat) (p n : Nat) : ∀ x ∈ cl G out p n, x ≤ 12 ^ n := fun x hx => by
  unfold cl at hx
  obtain ⟨t, ht, rfl⟩ := List.mem_map.mp hx
  rw [List.mem_range] at ht
  exact Nat.le_trans (fw_le h out p t p) (Nat.pow_le_pow_right (by omega) (by omega))
theorem cl_len (G : Grid) (out : List Nat) (p n : Nat) : (cl G out p n).length = n + 1 := by unfold cl; rw [List.length_map, List.length_range]
theorem cnv_le {a b : List Nat} {k B C : Nat} (ha : ∀ x ∈ a, x ≤ B) (hb : ∀ x ∈ b, x ≤ C) : cnv a b k ≤ (k + 1) * (B * C) := by
  rw [← part_full (a := a) (b := b) (i := k + 1) (k := k) (.inl (by omega))]
  exact part_le ha hb
theorem fold_le {n : Nat} {P : Grid} (hP : ∀ q ∈ P, ∀ x ∈ q, x ≤ 12 ^ n) : ∀ i, ∀ x ∈ fold n (P.take i), x ≤ ((n + 1) * 12 ^ n) ^ i := fun i => by
  induction i with
  | zero =>
    intro x hx
    rw [List.take_zero] at hx
    have : x ∈ 1 :: List.replicate n 0 := hx
    rcases List.mem_cons.mp this with rfl | h
    · simp
    · rw [List.eq_of_mem_replicate h]; exact Nat.zero_le _
  | succ i ih =>
    intro x hx
    by_cases c : i < P.length
    · have e : P[i]? = some P[i] := List.getElem?_eq_getElem c
      rw [fold_snoc e] at hx
      unfold conv at hx
      obtain ⟨k, hk, rfl⟩ := List.mem_map.mp hx
      rw [List.mem_range] at hk
      have a := cnv_le (k := k) ih (hP P[i] (List.getElem_mem c))
      have b : (k + 1) * (((n + 1) * 12 ^ n) ^ i * 12 ^ n) ≤ (n + 1) * (((n + 1) * 12 ^ n) ^ i * 12 ^ n) := Nat.mul_le_mul_right _ (by omega)
      have d : (n + 1) * (((n + 1) * 12 ^ n) ^ i * 12 ^ n) = ((n + 1) * 12 ^ n) ^ (i + 1) := by
        rw [Nat.pow_succ, Nat.mul_left_comm]
      omega
    · rw [List.take_of_length_le (by omega)] at hx
      rw [List.take_of_length_le (by omega)] at ih
      have a := ih x hx
      have b : ((n + 1) * 12 ^ n) ^ i ≤ ((n + 1) * 12 ^ n) ^ (i + 1) := Nat.pow_le_pow_right (Nat.mul_pos (by omega) (Nat.pow_pos (by omega))) (by omega)
      omega
theorem big_fold {n i : Nat} (hn : n ≤ 60) (hi : i ≤ 12) : ((n + 1) * 12 ^ n) ^ i < 2 ^ 4000 := by
  have a : (n + 1) * 12 ^ n ≤ 61 * 12 ^ 60 := Nat.mul_le_mul (by omega) (Nat.pow_le_pow_right (by omega) hn)
  have b : ((n + 1) * 12 ^ n) ^ i ≤ (61 * 12 ^ 60) ^ i := Nat.pow_le_pow_left a i
  have c : (61 * 12 ^ 60) ^ i ≤ (61 * 12 ^ 60) ^ 12 := Nat.pow_le_pow_right (by decide) hi
  have d : (61 * 12 ^ 60) ^ 12 < 2 ^ 4000 := by decide +kernel
  omega
theorem big_cl {n : Nat} (hn : n ≤ 60) : 12 ^ n < 2 ^ 4000 := by
  have a : 12 ^ n ≤ 12 ^ 60 := Nat.pow_le_pow_right (by omega) hn
  have d : 12 ^ 60 < 2 ^ 4000 := by decide +kernel
  omega
/-- a new grid behind a new grid -/
theorem GridN.ext {H H1 H2 : Hp} {s d : Addr} {G F : Grid} (h : GridN H H1 s G) (g : GridN H1 H2 d F) (e : Ex H1 H2) (low : ∀ x, H1 x = none → H x = none) : ∃ xs zs, H2 s = some (.lst xs) ∧ H2 d = some (.lst zs) ∧ xs.length = G.length ∧ zs.length = F.length ∧ GridN H (upd H2 s (.lst (xs ++ zs))) s (G ++ F) := by
  obtain ⟨h0, ps, h1, h2, h4, h5, h3⟩ := h
  obtain ⟨g0, qs, g1, g2, g4, g5, g3⟩ := g
  refine ⟨_, _, e _ _ h1, g1, by rw [List.length_map, h2], by rw [List.length_map, g2], h0, ps ++ qs, by rw [upd_same, List.map_append], by rw [List.length_append, List.length_append, h2, g2], ?_, ?_, fun i p q => ?_⟩
  · rw [List.nodup_append]
    refine ⟨h4, g4, fun a ha b hb z => ?_⟩
    subst z
    obtain ⟨i, hi, ei⟩ := List.getElem_of_mem ha
    obtain ⟨j, hj, ej⟩ := List.getElem_of_mem hb
    have a1 := (h3 i a (List.getElem?_eq_some_iff.mpr ⟨hi, ei⟩)).2
    have a2 := (g3 j a (List.getElem?_eq_some_iff.mpr ⟨hj, ej⟩)).1
    rw [a2] at a1
    cases a1
  · intro m
    rcases List.mem_append.mp m with m | m
    · exact h5 m
    · obtain ⟨j, hj, ej⟩ := List.getElem_of_mem m
      have a2 := (g3 j s (List.getElem?_eq_some_iff.mpr ⟨hj, ej⟩)).1
      rw [a2] at h1
      cases h1
  · by_cases hi : i < ps.length
    · rw [List.getElem?_append_left hi] at q
      have := h3 i p q
      have ns : p ≠ s := fun z => h5 (z ▸ List.mem_of_getElem? q)
      refine ⟨this.1, ?_⟩
      rw [upd_ne ns, e _ _ this.2]
      unfold row
      rw [List.getD_eq_getElem?_getD, List.getD_eq_getElem?_getD, List.getElem?_append_left (by omega)]
    · rw [List.getElem?_append_right (by omega)] at q
      have := g3 _ p q
      have ns : p ≠ s := fun z => by
        have a := this.1
        rw [z, h1] at a
        cases a
      refine ⟨low p this.1, ?_⟩
      rw [upd_ne ns, this.2]
      unfold row
      rw [List.getD_eq_getElem?_getD, List.getD_eq_getElem?_getD, List.getElem?_append_right (by omega), h2]
theorem kept_ones (s : List Nat) (k : Nat → Bool) : kept s.length (fun i => k (s.getD i 0)) (fun _ => V.int 1) = (nz ((s.filter k).map fun _ => 1)).map V.int := by
  unfold kept nz
  have e : (List.range s.length).map (fun i => s.getD i 0) = s := by
    apply List.ext_getElem?
    intro j
    by_cases h : j < s.length
    · rw [List.getElem?_map, List.getElem?_range h, List.getElem?_eq_getElem h]
      show some (s.getD j 0) = _
      rw [List.getD_eq_getElem?_getD, List.getElem?_eq_getElem h]
      rfl
    · rw [List.getElem?_eq_none (by rw [List.length_map, List.length_range]; omega), List.getElem?_eq_none (by omega)]
  conv => rhs; rw [← e]
  rw [List.filter_map, List.map_map, List.map_map, List.map_map]
  rfl
/-- the rows that are kept -/
theorem GridAt.keep {H' : Hp} {D : Addr} {ps : List Addr} {G : Grid} (P : List Nat → Bool) (k : Nat → Bool) (hl : ps.length = G.length) (hr : ∀ i p, ps[i]? = some p → H' p = some (.lst ((nz (row G i)).map V.int))) (hk : ∀ i, i < G.length → k i = P (row G i))
    (hD : H' D = some (.lst (kept G.length k fun i => .ref (ps.getD i 0)))) : GridAt H' D (G.filter P) := by
  have eG : G = (List.range G.length).map (row G) := by
    apply List.ext_getElem?
    intro j
    by_cases h : j < G.length
    · rw [List.getElem?_map, List.getElem?_range h, at_row h]
      rfl
    · rw [List.getElem?_eq_none (by omega), List.getElem?_eq_none (by rw [List.length_map, List.length_range]; omega)]
  have eF : G.filter P = ((List.range G.length).filter k).map (row G) := by
    conv => lhs; rw [eG]
    rw [List.filter_map]
    congr 1
    apply List.filter_congr
    intro i hi
    rw [List.mem_range] at hi
    exact (hk i hi).symm
  refine ⟨((List.range G.length).filter k).map fun i => ps.getD i 0, ?_, ?_, fun i p e => ?_⟩
  · rw [hD]
    unfold kept
    rw [List.map_map]
    rfl
  · rw [eF, List.length_map, List.length_map]
  · rw [List.getElem?_map] at e
    cases q : ((List.range G.length).filter k)[i]? with
    | none => rw [q] at e; cases e
    | some j =>
      rw [q] at e
      have hj : j < G.length := List.mem_range.mp (List.mem_filter.mp (List.mem_of_getElem? q)).1
      have hx : ps[j]? = some ps[j] := List.getElem?_eq_getElem (by omega)
      have ep : ps.getD j 0 = p := Option.some.inj e
      rw [List.getD_eq_getElem?_getD, hx] at ep
      obtain rfl : ps[j] = p := ep
      rw [hr j _ hx]
      have : row (G.filter P) i = row G j := by
        rw [eF]
        unfold row
        rw [List.getD_eq_getElem?_getD, List.getElem?_map, q]
        rfl
      rw [this]
end
end BC

set_option Elab.async false
set_option linter.all false
set_option maxRecDepth 100000
set_option maxHeartbeats 4000000
/-! dicts: readings, loops over keys, keys that are texts of lists of digits -/
namespace BC
open PySem PySem.Spec PyProof.Rows L2 Evl
section
variable {K : PySem.W.Frag} {σ : L2.St} {H : Hp} {Q : VK} {QT : Bool → Hp → Prop} {td ty tv tx : TE} {D : Ends} {g : TG} {tb : TS} {c : TE}
theorem x_dnewK : tDNewK σ H Q = ∀ p, H p = none → Q (.ref p) (upd H p (.dK [])) := rfl
theorem x_dnewT : tDNewT σ H Q = ∀ p, H p = none → Q (.ref p) (upd H p (.dT [])) := rfl
theorem x_dget : tDGet td ty σ H Q = td σ H (fun x H1 => ty σ H1 fun y H2 => ∃ a v, x = .ref a ∧ DGet H2 a y (some v) ∧ Q v H2) := rfl
theorem x_dget1 : tDGet1 td ty σ H Q = td σ H (fun x H1 => ∃ a, x = .ref a ∧ IsD H1 a ∧ ty σ H1 fun y H2 => ∃ o, DGet H2 a y o ∧ Q (o.getD .non) H2) := rfl
theorem x_dget2 : tDGet2 td ty tx σ H Q = td σ H (fun x H1 => ∃ a, x = .ref a ∧ IsD H1 a ∧ ty σ H1 fun y H2 => tx σ H2 fun z H3 => ∃ o, DGet H3 a y o ∧ Q (o.getD z) H3) := rfl
theorem x_din : tDIn ty td σ H Q = ty σ H (fun y H1 => td σ H1 fun x H2 => ∃ a o, x = .ref a ∧ DGet H2 a y o ∧ Q (.bl o.isSome) H2) := rfl
theorem x_dnotin : tDNotIn ty td σ H Q = ty σ H (fun y H1 => td σ H1 fun x H2 => ∃ a o, x = .ref a ∧ DGet H2 a y o ∧ Q (.bl (!o.isSome)) H2) := rfl
theorem x_dput : sDPut td ty tv D σ H = tv σ H (fun v H1 => td σ H1 fun x H2 => ty σ H2 fun y H3 => ∃ a H4, x = .ref a ∧ DPut H3 a y v H4 ∧ D.nx σ H4) := rfl
theorem x_ikeys {R : It → Hp → Prop} : iKeys td σ H R = td σ H (fun x H1 => ∃ d o, x = .ref d ∧ ((∃ kvs, H1 d = some (.frz o (.dK kvs)) ∧ R (Itk d o kvs) H1) ∨ ∃ kvs, H1 d = some (.frz o (.dT kvs)) ∧ R (Itkt d o kvs) H1)) := rfl
/-- the keys of a locked dict -/
theorem lg_keys {d : Addr} {o : Obj} {kvs : List (Key × V)} (Pv : Nat → L2.St → Hp → Prop) (h0 : Pv 0 σ H) (hl : ∀ i σ H, i ≤ kvs.length → Pv i σ H → H d = some (.frz o (.dK kvs)))
    (hs : ∀ i k v σ H, kvs[i]? = some (k, v) → Pv i σ H → g (kV k) σ H fun σ2 H2 => tb { D with nx := Pv (i + 1), ct := Pv (i + 1), bk := D.nx } σ2 H2) (hd : ∀ σ H, Pv kvs.length σ H → D.nx σ H) : LoopG (Itk d o kvs) g tb D σ H := by
  refine ⟨fun i m σ H => m = kvs.length - i ∧ i ≤ kvs.length ∧ Pv i σ H, ⟨kvs.length, by simp, Nat.zero_le _, h0⟩, ?_⟩
  rintro i m σ H ⟨rfl, hi, p⟩
  have q := hl i σ H hi p
  by_cases hlt : i < kvs.length
  · refine .inr ⟨⟨q, hlt⟩, Pv (i + 1), fun σ' H' p' => ⟨kvs.length - (i + 1), by omega, rfl, hlt, p'⟩, fun x H' y => ?_⟩
    obtain ⟨rfl, k, v, e, rfl⟩ := y
    exact hs i k v σ _ e p
  · have e : i = kvs.length := by omega
    subst e
    exact .inl ⟨⟨q, Nat.le_refl _⟩, hd σ H p⟩
end
theorem frz_ex {H H' : Hp} {d : Addr} {u x : HO} (h : H d = some u) (e : Ex (upd H d x) H') : Ex H (upd H' d u) := fun a o ho => by
  by_cases q : a = d
  · subst q
    rw [upd_same]
    rw [h] at ho
    exact ho
  · rw [upd_ne q]
    exact e a o (by rw [upd_ne q]; exact ho)
theorem ex_frz {H H' : Hp} {d a : Addr} {o : HO} {x : HO} (q : a ≠ d) (ho : H a = some o) (e : Ex (upd H d x) H') : H' a = some o := e a o (by rw [upd_ne q]; exact ho)
/-! ### lists of digits, shown -/
def Dg (t : List Int) : Prop := ∀ n ∈ t, 0 ≤ n ∧ n < 10
def digL (cs : List Nat) : List Int := (cs.filter fun c => decide (48 ≤ c) && decide (c < 58)).map fun c : Nat => (c : Int) - 48
theorem digL_append (a b : List Nat) : digL (a ++ b) = digL a ++ digL b := by
  unfold digL
  rw [List.filter_append, List.map_append]
theorem digL_one : ∀ k : Fin 10, digL (Str.ofString (toString ((k.val : Nat) : Int))).cps.toList = [((k.val : Nat) : Int)] := by decide +kernel
theorem digL_int {n : Int} (h0 : 0 ≤ n) (h1 : n < 10) : digL (Str.ofString (toString n)).cps.toList = [n] := by
  have h := digL_one ⟨n.toNat, by omega⟩
  rw [show ((n.toNat : Nat) : Int) = n by omega] at h
  exact h
theorem digL_join : ∀ ns : List Int, Dg ns → digL (Str.join ", " (ns.map fun n => ((toString n : String) : Str))).cps.toList = ns
  | [], _ => by decide +kernel
  | [n], h => by
    obtain ⟨h0, h1⟩ := h n List.mem_cons_self
    exact digL_int h0 h1
  | n :: m :: ns, h => by
    obtain ⟨h0, h1⟩ := h n List.mem_cons_self
    have ih := digL_join (m :: ns) fun x hx => h x (List.mem_cons_of_mem _ hx)
    show digL ((((toString n : String) : Str) ++ ", " ++ Str.join ", " ((m :: ns).map fun n => ((toString n : String) : Str))).cps.toList) = _
    rw [cps_toList_append, cps_toList_append, digL_append, digL_append, ih, digL_int h0 h1, signs_sep]
    rfl
theorem digL_shown {ns : List Int} (h : Dg ns) : digL (shInts ns).cps.toList = ns := by
  unfold shInts
  rw [PyData.shown_list, PyData.shownAll_ints, cps_toList_append, cps_toList_append, digL_append, digL_append, digL_join ns h, signs_lbrack, signs_rbrack]
  show [] ++ ns ++ [] = ns
  simp
theorem shInts_inj {a b : List Int} (ha : Dg a) (hb : Dg b) (e : shInts a = shInts b) : a = b := by
  rw [← digL_shown ha, ← digL_shown hb, e]
/-! ### dicts by such texts -/
section
variable {α : Type} {f : α → V}
def kx (t : List Int) : Key := Sum.inr (shInts t)
theorem kx_inj {a b : List Int} (ha : Dg a) (hb : Dg b) : kx a = kx b ↔ a = b := ⟨fun e => shInts_inj ha hb (Sum.inr.inj e), fun e => by rw [e]⟩
def ren (f : α → V) (L : List (List Int × α)) : List (Key × V) := L.map fun p => (kx p.1, f p.2)
def getA (L : List (List Int × α)) (t : List Int) : Option α := (L.find? fun p => decide (p.1 = t)).map (·.2)
def putA (L : List (List Int × α)) (t : List Int) (a : α) : List (List Int × α) := if (L.any fun p => decide (p.1 = t)) = true then L.map (fun p => if p.1 = t then (p.1, a) else p) else L ++ [(t, a)]
theorem ren_val (t : List Int) (ht : Dg t) : ∀ L : List (List Int × α), (∀ p ∈ L, Dg p.1) → valV (ren f L) (kx t) = (getA L t).map f
  | [], _ => rfl
  | p :: L, h => by
    have ih := ren_val t ht L fun q hq => h q (List.mem_cons_of_mem _ hq)
    have hp := h p List.mem_cons_self
    show valV ((kx p.1, f p.2) :: ren f L) (kx t) = _
    by_cases e : p.1 = t
    · rw [valV_pos (by show kx p.1 = kx t; rw [e])]
      simp [getA, e]
    · rw [valV_neg (by show ¬ kx p.1 = kx t; rw [kx_inj hp ht]; exact e), ih]
      simp [getA, e]
theorem ren_any (t : List Int) (ht : Dg t) : ∀ L : List (List Int × α), (∀ p ∈ L, Dg p.1) → ((ren f L).any fun kv => decide (kv.1 = kx t)) = L.any fun p => decide (p.1 = t)
  | [], _ => rfl
  | p :: L, h => by
    have ih := ren_any t ht L fun q hq => h q (List.mem_cons_of_mem _ hq)
    have hp := h p List.mem_cons_self
    show (decide (kx p.1 = kx t) || (ren f L).any fun kv => decide (kv.1 = kx t)) = _
    rw [ih, List.any_cons]
    congr 1
    exact decide_eq_decide.mpr (kx_inj hp ht)
theorem ren_put (t : List Int) (ht : Dg t) (a : α) (L : List (List Int × α)) (h : ∀ p ∈ L, Dg p.1) : putK (ren f L) (kx t) (f a) = ren f (putA L t a) := by
  unfold putK putA
  rw [ren_any t ht L h]
  by_cases c : (L.any fun p => decide (p.1 = t)) = true
  · rw [if_pos c, if_pos c]
    unfold ren
    rw [List.map_map, List.map_map]
    refine List.map_congr_left fun p hp => ?_
    show (if kx p.1 = kx t then (kx p.1, f a) else (kx p.1, f p.2)) = _
    by_cases e : p.1 = t
    · rw [if_pos (by rw [e])]
      show _ = (kx (if p.1 = t then (p.1, a) else p).1, f (if p.1 = t then (p.1, a) else p).2)
      rw [if_pos e]
    · rw [if_neg (by rw [kx_inj (h p hp) ht]; exact e)]
      show _ = (kx (if p.1 = t then (p.1, a) else p).1, f (if p.1 = t then (p.1, a) else p).2)
      rw [if_neg e]
  · rw [if_neg c, if_neg c]
    unfold ren
    rw [List.map_append]
    rfl
theorem putA_key {L : List (List Int × α)} {t : List Int} {a : α} {p : List Int × α} (h : p ∈ putA L t a) : p.1 = t ∨ ∃ q ∈ L, q.1 = p.1 := by
  unfold putA at h
  split at h
  · obtain ⟨q, hq, rfl⟩ := List.mem_map.mp h
    refine .inr ⟨q, hq, ?_⟩
    split <;> rfl
  · rcases List.mem_append.mp h with h | h
    · exact .inr ⟨p, h, rfl⟩
    · rw [List.mem_singleton.mp h]
      exact .inl rfl
theorem putA_len (L : List (List Int × α)) (t : List Int) (a : α) : (putA L t a).length ≤ L.length + 1 := by
  unfold putA
  split
  · rw [List.length_map]; omega
  · rw [List.length_append, List.length_singleton]; omega
theorem ren_len (L : List (List Int × α)) : (ren f L).length = L.length := by unfold ren; rw [List.length_map]
theorem ren_at {L : List (List Int × α)} {i : Nat} {k : Key} {v : V} (h : (ren f L)[i]? = some (k, v)) : ∃ t a, L[i]? = some (t, a) ∧ k = kx t ∧ v = f a := by
  unfold ren at h
  rw [List.getElem?_map] at h
  cases e : L[i]? with
  | none => rw [e] at h; cases h
  | some p => rw [e] at h; cases h; exact ⟨p.1, p.2, rfl, rfl, rfl⟩
end
end BC
namespace BC
open PySem PySem.Spec PyProof.Rows L2 Evl
section
variable {α : Type} {f : α → V}
theorem putA_nodup {L : List (List Int × α)} {t : List Int} {a : α} (h : (L.map (·.1)).Nodup) : ((putA L t a).map (·.1)).Nodup := by
  unfold putA
  split
  · rw [List.map_map]
    have e : ((fun p : List Int × α => p.1) ∘ fun p : List Int × α => if p.1 = t then (p.1, a) else p) = fun p => p.1 := funext fun p => by
      show (if p.1 = t then (p.1, a) else p).1 = p.1
      split <;> rfl
    rw [e]
    exact h
  · next c =>
    rw [List.map_append, List.nodup_append]
    refine ⟨h, by simp, fun x hx y hy e => ?_⟩
    obtain ⟨p, hp, rfl⟩ := List.mem_map.mp hx
    have hy' : y = t := by simpa using hy
    refine c (List.any_eq_true.mpr ⟨p, hp, decide_eq_true ?_⟩)
    rw [e, hy']
theorem getA_at : ∀ {L : List (List Int × α)} {i : Nat} {t : List Int} {a : α}, (L.map (·.1)).Nodup → L[i]? = some (t, a) → getA L t = some a
  | [], _, _, _, _, h => by simp at h
  | p :: L, 0, t, a, _, h => by
    have : p = (t, a) := by simpa using h
    subst this
    simp [getA]
  | p :: L, i + 1, t, a, nd, h => by
    rw [List.map_cons, List.nodup_cons] at nd
    have h' : L[i]? = some (t, a) := by simpa using h
    have ih := getA_at nd.2 h'
    have ne : p.1 ≠ t := fun e => nd.1 (List.mem_map.mpr ⟨(t, a), List.mem_of_getElem? h', e.symm⟩)
    unfold getA at ih ⊢
    rw [List.find?_cons, decide_eq_false ne]
    exact ih
end
/-- what stands at a text's key, counted -/
theorem ren_get {L : List (List Int × Int)} {t : List Int} (ht : Dg t) (h : ∀ p ∈ L, Dg p.1) : (valV (ren V.int L) (kx t)).getD (.int 0) = .int ((getA L t).getD 0) := by
  rw [ren_val t ht L h]
  cases getA L t <;> rfl
theorem ints_at {ns : List Int} {i : Nat} {v : V} (h : (ns.map V.int)[i]? = some v) : ∃ n, ns[i]? = some n ∧ v = .int n := by
  rw [List.getElem?_map] at h
  cases e : ns[i]? with
  | none => rw [e] at h; cases h
  | some n => rw [e] at h; cases h; exact ⟨n, rfl, rfl⟩
theorem refs_at {ps : List Addr} {i : Nat} {v : V} (h : (ps.map V.ref)[i]? = some v) : ∃ q, ps[i]? = some q ∧ v = .ref q := by
  rw [List.getElem?_map] at h
  cases e : ps[i]? with
  | none => rw [e] at h; cases h
  | some n => rw [e] at h; cases h; exact ⟨n, rfl, rfl⟩
theorem tyS {K : PySem.W.Frag} {H : Hp} {x : Str} : tyV K "str" (.str x) H := rfl
end BC

set_option Elab.async false
set_option linter.all false
set_option maxRecDepth 100000
set_option maxHeartbeats 4000000
/-! texts: str * int, fields of a width, f-strings of many parts -/
namespace BC
open PySem PySem.Spec PyProof.Rows L2 Evl
/-! ### a text so many times -/
def rMulS : V → V → Hp → VK → Prop := fun x y H Q => ∃ (a : Str) (n : Int), x = .str a ∧ y = .int n ∧ MulOk a n ∧ Q (.str (Txt.mul a n)) H
theorem op_mulS {X : Cx} : OpR X (binaryOp .Mult) rMulS := by
  intro pins s σ H x y v u Q I rx ry h
  obtain ⟨a, n, rfl, rfl, hz, q⟩ := h
  obtain ⟨t, rfl⟩ := rx
  obtain ⟨t', rfl⟩ := ry
  exact SB.mul hz fun t' tk => ⟨.str _, H, I.tok _, ⟨_, rfl⟩, q⟩
theorem x_mulS {a : Str} {n : Int} {H : Hp} {Q : VK} : rMulS (.str a) (.int n) H Q ↔ MulOk a n ∧ Q (.str (Txt.mul a n)) H := ⟨fun ⟨i, j, e1, e2, q⟩ => by cases e1; cases e2; exact q, fun q => ⟨a, n, rfl, rfl, q⟩⟩
theorem mul_sp {n : Int} (h0 : -1000 ≤ n) (h1 : n ≤ 1000) : MulOk ((" " : String) : Str) n := by
  refine ⟨?_, fun h2 _ => ?_, fun h2 _ => ?_⟩
  · rw [decide_eq_false (by omega), decide_eq_false (by omega)]
    rfl
  · have e : (((" " : String) : Str).length : Int) = 1 := by decide
    rw [e]
    have : n ≤ (2 ^ 63 - 1) / 1000 := by omega
    have h3 : (1 : Int) ≤ (2 ^ 63 - 1) / n := (Int.le_ediv_iff_mul_le (by omega)).mpr (by omega)
    omega
  · have e : ((" " : String) : Str).length = 1 := by decide
    rw [e, Nat.one_mul]
    show decide (_ > sizeLine) = false
    exact decide_eq_false (by unfold sizeLine; omega)
/-! ### a field of a width -/
theorem cs_none {K : PySem.W.Frag} {h : Heap} {mc : Str → Option Value} {n : Str} (X : K.In h) (G : h.Ns cStatics mc) (e : PySem.W.nsIn K cStatics n = some none) : mc n = none := by
  obtain ⟨o, es, ep, ho, hd, _, hf⟩ := G
  unfold PySem.W.nsIn at e
  split at e
  · next c d es' n' sl q =>
    have z := X _ _ q
    rw [ho] at z
    cases z
    cases hd
    split at e
    · cases e
    · next he =>
      rw [← hf]
      unfold nsFind findBy
      rw [← Array.find?_toList, he]
      rfl
  · cases e
theorem no_digits {K : PySem.W.Frag} {h : Heap} (X : K.In h) (nl : h.NoLimit) (e : PySem.W.nsIn K cStatics "sys.int_max_str_digits" = some none) : h.NoDigits := by
  obtain ⟨mc, g, _⟩ := nl
  exact ⟨mc, g, cs_none X g e⟩
def tFmtS (sp : Str) (te : TE) : TE := fun σ H Q => te σ H fun x H1 => ∃ i : Int, x = .int i ∧ 0 ≤ i ∧ i < 10 ^ 10 ∧ Q (.str (intSpecTextOf sp i)) H1
theorem x_fmtS {sp : Str} {te : TE} {σ : L2.St} {H : Hp} {Q : VK} : tFmtS sp te σ H Q = te σ H (fun x H1 => ∃ i : Int, x = .int i ∧ 0 ≤ i ∧ i < 10 ^ 10 ∧ Q (.str (intSpecTextOf sp i)) H1) := rfl
theorem k_fmtS {X : Cx} {K : PySem.W.Frag} {e es : Expr} {te : TE} {sp : Str} {pos : Pos} (hK : X.K = K) (hq : PySem.W.nsIn K cStatics "sys.int_max_str_digits" = some none) (he : PE X e te) (hs : PE X es (tC (.str sp))) (hok : intSpecOk sp = true) (hsz : sp.length ≤ sizeLine) : PE X (.FormattedValue e (-1) (some es) pos) (tFmtS sp te) := by
  subst hK
  refine ⟨fun pins s σ H Q I h => ?_⟩
  refine wpAny_FormattedValue_spec (thn (he.run pins s σ H _ I h) fun v s1 hv => ?_)
  obtain ⟨x, H1, I1, r1, i, rfl, h0, h1, q⟩ := hv
  obtain ⟨t, rfl⟩ := r1
  refine thn (hs.run pins s1 σ H1 (fun y H2 => y = .str sp ∧ H2 = H1) I1 ⟨rfl, rfl⟩) fun u s2 hu => ?_
  obtain ⟨y, H2, I2, r2, rfl, rfl⟩ := hu
  obtain ⟨t2, rfl⟩ := r2
  exact ⟨sp, t2, rfl, formatField_int_specOf (no_digits I2.kIn I2.nolimit hq) (lt_digitLimit_of_lt (by omega)) hok (fun W _ _ => ⟨.str _, H2, I2.tok _, ⟨_, rfl⟩, q⟩) hsz⟩
theorem fmt3 : ∀ i : Fin 300, intSpecTextOf ((">3" : String) : Str) ((i.val : Nat) : Int) = Txt.mul ((" " : String) : Str) (3 - ((((toString ((i.val : Nat) : Int) : String) : Str).length : Nat) : Int)) ++ ((toString ((i.val : Nat) : Int) : String) : Str) := by decide +kernel
theorem fmt4 : ∀ i : Fin 40, intSpecTextOf ((">4" : String) : Str) ((i.val : Nat) : Int) = Txt.mul ((" " : String) : Str) (4 - ((((toString ((i.val : Nat) : Int) : String) : Str).length : Nat) : Int)) ++ ((toString ((i.val : Nat) : Int) : String) : Str) := by decide +kernel
theorem len3 : ∀ i : Fin 1000, 1 ≤ ((toString ((i.val : Nat) : Int) : String) : Str).length ∧ ((toString ((i.val : Nat) : Int) : String) : Str).length ≤ 3 := by decide +kernel
/-! ### f-strings -/
theorem x_js0 {acc : Str} {σ : L2.St} {H : Hp} {Q : Str → Hp → Prop} : tJs [] acc σ H Q = Q acc H := rfl
theorem x_js {t : TE} {ts : List TE} {acc : Str} {σ : L2.St} {H : Hp} {Q : Str → Hp → Prop} : tJs (t :: ts) acc σ H Q = t σ H (fun x H1 => ∃ y : Str, x = .str y ∧ (acc ++ y).length ≤ sizeLine ∧ tJs ts (acc ++ y) σ H1 Q) := rfl
def tJn (ts : List TE) : TE := fun σ H Q => tJs ts Str.empty σ H fun out H1 => Q (.str out) H1
theorem x_jn {ts : List TE} {σ : L2.St} {H : Hp} {Q : VK} : tJn ts σ H Q = tJs ts Str.empty σ H (fun out H1 => Q (.str out) H1) := rfl
theorem k_joined {X : Cx} {v1 v2 : Expr} {rest : List Expr} {ts : List TE} {pos : Pos} (h : PJ X (v1 :: v2 :: rest) ts) : PE X (.JoinedStr (v1 :: v2 :: rest) pos) (tJn ts) := pe_joined h
theorem x_fmt {te : TE} {σ : L2.St} {H : Hp} {Q : VK} : tFmt te σ H Q = te σ H (fun x H1 => (∃ y : Str, x = .str y ∧ y.length ≤ sizeLine ∧ Q (.str y) H1) ∨ ∃ i : Int, x = .int i ∧ i.natAbs.log2 < 1920 ∧ Q (.str (toString i)) H1) := rfl
/-! ### join -/
def rJoin (K : PySem.W.Frag) : V → List V → Hp → VK → Prop := fun x xs H Q => ∃ a p, ∃ ys : List Str, x = .str a ∧ xs = [.ref p] ∧ (SqL K H p (ys.map V.str) ∨ SqT K H p (ys.map V.str)) ∧ (ys.map (·.length)).sum + ys.length * a.length ≤ 16777216 ∧ Q (.str (Txt.join a ys)) H
theorem k_join {X : Cx} {K : PySem.W.Frag} (hK : X.K = K) : MtR X "str.join" (rJoin K) := by subst hK; exact mt_join
theorem joinL {K : PySem.W.Frag} {H : Hp} {Q : VK} {a : Str} {p : Addr} {ys : List Str} (h : SqL K H p (ys.map V.str)) (hz : (ys.map (·.length)).sum + ys.length * a.length ≤ 16777216) (q : Q (.str (Txt.join a ys)) H) : rJoin K (.str a) [.ref p] H Q := ⟨a, p, ys, rfl, rfl, .inl h, hz, q⟩
def toStrs (t : List Int) : List Str := t.map fun n => ((toString n : String) : Str)
theorem len3' {n : Int} (h0 : 0 ≤ n) (h1 : n < 1000) : 1 ≤ ((toString n : String) : Str).length ∧ ((toString n : String) : Str).length ≤ 3 := by
  have h := len3 ⟨n.toNat, by omega⟩
  rw [show ((n.toNat : Nat) : Int) = n by omega] at h
  exact h
theorem strs_sum : ∀ {t : List Int}, (∀ x ∈ t, 0 ≤ x ∧ x < 1000) → ((toStrs t).map (·.length)).sum ≤ 3 * t.length
  | [], _ => Nat.le_refl _
  | x :: t, h => by
    have a := strs_sum (t := t) fun y hy => h y (List.mem_cons_of_mem _ hy)
    have b := (len3' (h x List.mem_cons_self).1 (h x List.mem_cons_self).2).2
    show ((toString x : String) : Str).length + ((toStrs t).map (·.length)).sum ≤ _
    rw [List.length_cons]
    omega
/-- a line of the list -/
def lineOf (i : Nat) (p : Int) (t : List Int) : Str := Txt.mul ((" " : String) : Str) (3 - ((((toString ((i : Nat) : Int) : String) : Str).length : Nat) : Int)) ++ ((toString ((i : Nat) : Int) : String) : Str) ++ Txt.mul ((" " : String) : Str) (4 - ((((toString p : String) : Str).length : Nat) : Int)) ++ ((toString p : String) : Str) ++ (("  " : String) : Str) ++ Txt.join ((" > " : String) : Str) (toStrs t)
theorem line_prog {i : Nat} {p : Int} {t : List Int} (hi : i < 300) (h0 : 0 ≤ p) (h1 : p < 40) : Str.empty ++ intSpecTextOf ((">3" : String) : Str) ((i : Nat) : Int) ++ intSpecTextOf ((">4" : String) : Str) p ++ (("  " : String) : Str) ++ Txt.join ((" > " : String) : Str) (toStrs t) = lineOf i p t := by
  have a := fmt3 ⟨i, hi⟩
  have b := fmt4 ⟨p.toNat, by omega⟩
  rw [show ((p.toNat : Nat) : Int) = p by omega] at b
  have a : intSpecTextOf ((">3" : String) : Str) ((i : Nat) : Int) = _ := a
  rw [a, b]
  unfold lineOf
  refine Str.ext' ?_
  have e : Str.empty.cps = #[] := rfl
  apply Array.toList_inj.mp
  simp only [cps_toList_append, e, List.append_assoc]
  rfl
theorem fl3 : ∀ i : Fin 300, (intSpecTextOf ((">3" : String) : Str) ((i.val : Nat) : Int)).length ≤ 3 := by decide +kernel
theorem fl4 : ∀ i : Fin 40, (intSpecTextOf ((">4" : String) : Str) ((i.val : Nat) : Int)).length ≤ 4 := by decide +kernel
theorem join_len {t : List Int} (h : ∀ x ∈ t, 0 ≤ x ∧ x < 1000) : (Txt.join ((" > " : String) : Str) (toStrs t)).length ≤ 6 * t.length := by
  have a := strs_sum h
  have e : ((" > " : String) : Str).length = 3 := by decide
  have b := StrLaws.join_length_le ((" > " : String) : Str) (toStrs t)
  rw [e] at b
  have l : (toStrs t).length = t.length := List.length_map _
  rw [l] at b
  have g : Txt.join ((" > " : String) : Str) (toStrs t) = Str.join ((" > " : String) : Str) (toStrs t) := StrLaws.glued_eq_join _ _
  rw [g]
  omega
end BC

set_option Elab.async false
set_option linter.all false
set_option maxRecDepth 100000
set_option maxHeartbeats 4000000
/-! head, *rest = a list -/
namespace BC
open PySem PySem.Spec PyProof.Rows L2
theorem walks_shift {prog : Program} {w : World} {A : Around} {I : Addr} {fp wr : List Addr} {G : Array GenState → Array GenState → Prop} {n : Nat} {P : Nat → Value → Prop} {St : Nat → Shared → Prop} (W : WalksS prog w A I fp wr G (n + 1) P St) :
    WalksS prog w A I fp wr G n (fun i v => P (i + 1) v) (fun i s => St (i + 1) s) :=
  ⟨W.sub, W.grefl, W.gtrans, fun i => W.frame (i + 1), fun i s Q E hi => W.item (i + 1) s Q E (by omega), W.done, fun i => W.self (i + 1)⟩
section
variable {prog : Program} {w : World} {A : Around} {E : Value → Shared → Prop} {s : Shared}
/-- the items of 'a, *b = l' -/
theorem items_star {l : Addr} {x : Value} {rest : List Value} {Q : List Value → Shared → Prop} (hh : A.handled = none) (hl : s.heap.IsList l (x :: rest).toArray) (hz : rest.length ≤ sizeLine)
    (hQ : ∀ (h' : Heap) (tk : Nat), (∀ b o, s.heap.get? b = some o → h'.get? b = some o) → Q [x, .ref h'.objs.size] { s with heap := h'.push (seqObj "list" rest.toArray 0), toks := tk }) :
    wpAny (model prog w) A (unpackItems (.ref l) 2 (some 1)) Q E s := by
  have lt : l < s.heap.objs.size := by obtain ⟨o, ho, _⟩ := hl; exact Heap.lt_size ho
  unfold unpackItems
  refine wpAny_bind ?_
  unfold notIterableAtAll
  refine wpAny_bind (wpAny_specialOf hl.typeIs PySem.F.slot_list_iter.lookup (wpAny_pure ?_))
  simp only [Bool.false_eq_true, if_false]
  refine wpAny_bind (wpAny_holding (wpAny_pyIter_list hl ?_))
  have nI : l ≠ s.heap.objs.size := Nat.ne_of_lt lt
  have it0 : (s.heap.push { cls := .type "list_iterator", data := .fields #[.ref l, .int 0 0] }).IsListIter s.heap.objs.size l 0 := ⟨_, Heap.get?_push_size _ rfl, rfl, rfl⟩
  have W := (Walks.list (prog := prog) (w := w) (A := A.in1) hh s.heap.objs.size l nI (x :: rest).toArray).toS
  have W0 := W.of_in1
  show wpAny _ _ (holding [Value.ref s.heap.objs.size] (draw (.ref s.heap.objs.size) 1) >>= _) _ _ _
  refine wpAny_bind (wpAny_holding ?_)
  show wpAny _ _ (pyNext (.ref s.heap.objs.size) >>= _) _ _ _
  refine wpAny_bind (W0.item 0 _ _ _ (by simp) ⟨it0, hl.push _⟩ fun v s1 hv st1 m1 => ?_)
  obtain rfl : x = v := by simpa using hv
  refine wpAny_bind (wpAny_holding (wpAny_pure (wpAny_pure ?_)))
  rw [if_neg (by simp)]
  have size : (x :: rest).toArray.size = rest.length + 1 := by simp
  have W1 : WalksS prog w A.in1 s.heap.objs.size [s.heap.objs.size, l] [s.heap.objs.size] (fun a b => b = a) (rest.length + 1) (fun i v => (x :: rest).toArray[i]? = some v) (fun i s' => s'.heap.IsListIter s.heap.objs.size l i ∧ s'.heap.IsList l (x :: rest).toArray) := size ▸ W
  have big : s.heap.objs.size < s1.heap.objs.size := by obtain ⟨o, ho, _⟩ := st1.1; exact Heap.lt_size ho
  refine wpAny_bind (wpAny_holding (wpAny_collect_iter (T := "list_iterator") (.inr (.inr (.inl rfl))) (walks_shift W1) (fun i s' st => ?_) st1 (fun b hb => ?_) List.mem_cons_self (fun s2 acc m2 its => ?_) hz))
  · obtain ⟨o, ho, hc, _⟩ := st.1
    exact ⟨o, ho, hc⟩
  · rcases List.mem_cons.mp hb with rfl | hb
    · exact big
    · rw [List.mem_singleton.mp hb]
      exact Nat.lt_trans lt big
  have ea : acc.toList = rest := by
    obtain ⟨e1, e2⟩ := its
    apply List.ext_getElem?
    intro i
    by_cases c : i < acc.size
    · have h1 := e2 i acc[i] (by simp [c])
      have h2 : rest[i]? = some acc[i] := by simpa using h1
      rw [h2, Array.getElem?_toList]
      simp [c]
    · rw [List.getElem?_eq_none (by simpa using Nat.le_of_not_lt c), List.getElem?_eq_none (by omega)]
  rw [ea]
  rw [if_neg (by simp)]
  simp only [Nat.sub_self, Nat.sub_zero, show 2 - 1 - 1 = 0 by rfl, List.take_length, List.drop_length]
  have kept : ∀ b o, s.heap.get? b = some o → s2.heap.get? b = some o := by
    intro b o e
    have ne : b ∉ [s.heap.objs.size] := by
      intro z
      rw [List.mem_singleton.mp z] at e
      exact absurd (Heap.lt_size e) (Nat.lt_irrefl _)
    exact m2.heap b o ne (m1.heap b o ne (Heap.get?_push_of_some _ e))
  obtain ⟨h2, g2, d2, t2, o2⟩ := s2
  have eg : g2 = s.gens := m2.gens.trans m1.gens
  have ed : d2 = s.drawn := m2.drawn.trans m1.drawn
  have eo : o2 = s.os := m2.os.trans m1.os
  subst eg ed eo
  refine wpAny_bind (wpAny_newList ?_ hz)
  exact wpAny_pure (hQ h2 t2 kept)
end
def gStar (K : PySem.W.Frag) (g1 g2 : TG) : TG := fun v σ H QG => ∃ (a : Addr) (x : V) (xs : List V), v = .ref a ∧ SqL K H a (x :: xs) ∧ ∀ p, H p = none → g1 x σ (upd H p (.lst xs)) fun σ2 H2 => g2 (.ref p) σ2 H2 QG
theorem x_gstar {K : PySem.W.Frag} {g1 g2 : TG} {v : V} {σ : L2.St} {H : Hp} {QG : L2.St → Hp → Prop} : gStar K g1 g2 v σ H QG = ∃ (a : Addr) (x : V) (xs : List V), v = .ref a ∧ SqL K H a (x :: xs) ∧ ∀ p, H p = none → g1 x σ (upd H p (.lst xs)) fun σ2 H2 => g2 (.ref p) σ2 H2 QG := rfl
theorem pg_star {X : Cx} {K : PySem.W.Frag} {t1 t2 : Expr} {sp pos : Pos} {k : Nat} {g1 g2 : TG} (hK : X.K = K) (hc : X.calm = true) (h1 : PG X t1 g1) (h2 : PG X t2 g2)
    (he : assignEach [t1, .Starred t2 sp] X.env = [(false, assign t1 X.env), (true, assign t2 X.env)] := by rfl) : PG X (.Tuple [t1, .Starred t2 sp] k pos) (gStar K g1 g2) := by
  subst hK
  constructor
  intro pins s σ H v u Q I r hw
  obtain ⟨a, x, xs, rfl, hq, hw⟩ := hw
  obtain rfl : u = Value.ref a := r
  obtain ⟨its, rv, pl, hz⟩ := I.list hq
  match its, rv with
  | y :: ys, .cons r1 rs =>
    have hl : s.heap.IsList a (y :: ys).toArray := pl.isList
    have len := rs.length
    have hz' : ys.length ≤ sizeLine := by rw [← len]; rw [List.length_cons] at hz; omega
    show wpAny _ _ (do standAt pos; unpack (.ref a) (assignEach [t1, .Starred t2 sp] X.env)) _ _ s
    rw [he]
    refine wpAny_bind (wpAny_standAt ?_)
    unfold unpack
    refine wpAny_bind (wpAny_holding ?_)
    show wpAny _ _ (unpackItems (.ref a) 2 (some 1)) _ _ s
    refine items_star (I.ok.hd hc) hl hz' fun h' tk kp => ?_
    have I1 : Inv X pins σ H { s with heap := h', toks := tk } := I.kept (t' := tk) kp
    have hn : H h'.objs.size = none := I1.hok.fresh (Nat.le_refl _)
    have J : Inv X pins σ (upd H h'.objs.size (.lst xs)) { s with heap := h'.push (seqObj "list" ys.toArray 0), toks := tk } :=
      I1.laid (t' := tk) (fun b o e => Heap.get?_push_of_some _ e) (Nat.le_refl _) ⟨by rw [len]; exact hz', ys, 0, rs, Heap.get?_push_size _ rfl⟩
    show wpAny _ _ (do holding [Value.ref h'.objs.size] (assign t1 X.env y); assignInOrder [assign t2 X.env] [Value.ref h'.objs.size]) _ _ _
    refine wpAny_bind (wpAny_holding (thn (h1.run pins _ σ _ x y _ J r1 (hw _ hn)) fun _ s3 ⟨σ3, H3, I3, q3⟩ => ?_))
    show wpAny _ _ (do holding [] (assign t2 X.env (Value.ref h'.objs.size)); assignInOrder [] []) _ _ _
    refine wpAny_bind (wpAny_holding (thn (h2.run pins s3 σ3 H3 (.ref h'.objs.size) _ _ I3 rfl q3) fun _ s4 q4 => ?_))
    exact wpAny_pure q4
end BC

set_option Elab.async false
set_option linter.all false
set_option maxRecDepth 100000
set_option maxHeartbeats 4000000
/-! strings of sites, of numbers, and what they write -/
namespace BC
open PySem PySem.Spec PyProof.Rows L2 Evl
def numS (n : Nat) : Str := ((toString ((n : Nat) : Int) : String) : Str)
theorem tl_numS (n : Nat) : TL.tl (numS n) = TL.numL n := TL.tl_num n
theorem numS_len {n : Nat} (h : n < 1000) : 1 ≤ (numS n).length ∧ (numS n).length ≤ 3 := len3' (n := (n : Int)) (by omega) (by omega)
theorem numS_free {n s : Nat} (h : s < 48 ∨ 57 < s) : s ∉ TL.tl (numS n) := by rw [tl_numS]; exact TL.numL_free h
theorem numS_inj {m n : Nat} (h : numS m = numS n) : m = n := TL.numL_inj (by rw [← tl_numS, ← tl_numS, h])
theorem joinL_mem {S : List Nat} {x : Nat} : ∀ {ps : List (List Nat)}, x ∈ TL.joinL S ps → x ∈ S ∨ ∃ p ∈ ps, x ∈ p
  | [], h => by cases h
  | [p], h => .inr ⟨p, List.mem_singleton.mpr rfl, h⟩
  | p :: q :: r, h => by
    have h' : x ∈ p ++ (S ++ TL.joinL S (q :: r)) := h
    rcases List.mem_append.mp h' with h | h
    · exact .inr ⟨p, List.mem_cons_self, h⟩
    · rcases List.mem_append.mp h with h | h
      · exact .inl h
      · rcases joinL_mem h with h | ⟨z, hz, h⟩
        · exact .inl h
        · exact .inr ⟨z, List.mem_cons_of_mem _ hz, h⟩
theorem join_mem {y : Str} {ps : List Str} {x : Nat} (h : x ∈ TL.tl (Txt.join y ps)) : x ∈ TL.tl y ∨ ∃ p ∈ ps, x ∈ TL.tl p := by
  rw [TL.join_eq, TL.tl_join] at h
  rcases joinL_mem h with h | ⟨z, hz, h⟩
  · exact .inl h
  · obtain ⟨p, hp, rfl⟩ := List.mem_map.mp hz
    exact .inr ⟨p, hp, h⟩
theorem joinL_snoc (S : List Nat) (x : List Nat) : ∀ {ps : List (List Nat)}, ps ≠ [] → TL.joinL S (ps ++ [x]) = TL.joinL S ps ++ (S ++ x)
  | [], h => absurd rfl h
  | [p], _ => rfl
  | p :: q :: r, _ => by
    show p ++ (S ++ TL.joinL S ((q :: r) ++ [x])) = p ++ (S ++ TL.joinL S (q :: r)) ++ (S ++ x)
    rw [joinL_snoc S x (by simp)]
    simp [List.append_assoc]
theorem join_snoc (y x : Str) {ps : List Str} (h : ps ≠ []) : Txt.join y (ps ++ [x]) = Txt.join y ps ++ y ++ x := by
  refine TL.ext_tl ?_
  rw [TL.tl_append, TL.tl_append, TL.join_eq, TL.join_eq, TL.tl_join, TL.tl_join, List.map_append, List.map_singleton, joinL_snoc _ _ (by simp [h]), List.append_assoc]
theorem join_one (y x : Str) : Txt.join y [x] = x := by
  rw [TL.join_eq]
  rfl
theorem join_nil (y : Str) : Txt.join y [] = Str.empty := by
  rw [TL.join_eq]
  rfl
/-! ### sites -/
def rowW (i : Nat) (r : List Nat) : List Str := (numS i ++ ((":" : String) : Str)) :: r.map numS
def rowS (i : Nat) (r : List Nat) : Str := Txt.join ((" " : String) : Str) (rowW i r)
def rowsS (G : Grid) (n : Nat) : List Str := (List.range n).map fun i => rowS i (row G i)
def siteS (G : Grid) : Str := Txt.join (("; " : String) : Str) (rowsS G G.length)
theorem rowsS_len (G : Grid) (n : Nat) : (rowsS G n).length = n := by unfold rowsS; rw [List.length_map, List.length_range]
theorem tl_sp : TL.tl ((" " : String) : Str) = [32] := by decide +kernel
theorem tl_sc : TL.tl (("; " : String) : Str) = [59, 32] := by decide +kernel
theorem tl_co : TL.tl ((":" : String) : Str) = [58] := by decide +kernel
theorem rowW_free {i : Nat} {r : List Nat} {s : Nat} (h : s < 48 ∨ 58 < s) : ∀ p ∈ rowW i r, s ∉ TL.tl p := fun p hp => by
  rcases List.mem_cons.mp hp with rfl | hp
  · rw [TL.tl_append, tl_co]
    intro m
    rcases List.mem_append.mp m with m | m
    · exact numS_free (by omega) m
    · rw [List.mem_singleton] at m
      omega
  · obtain ⟨x, _, rfl⟩ := List.mem_map.mp hp
    exact numS_free (by omega)
theorem rowS_free {i : Nat} {r : List Nat} : 59 ∉ TL.tl (rowS i r) := fun m => by
  rcases join_mem m with m | ⟨p, hp, m⟩
  · rw [tl_sp] at m
    simp at m
  · exact rowW_free (by omega) p hp m
theorem split_row (i : Nat) (r : List Nat) : Txt.split (rowS i r) ((" " : String) : Str) = rowW i r :=
  TL.split_join tl_sp (by decide +kernel) (by unfold rowW; simp) (rowW_free (by omega))
theorem split_site (G : Grid) (h : 1 ≤ G.length) : Txt.split (siteS G) (("; " : String) : Str) = rowsS G G.length :=
  TL.split_join tl_sc (by decide +kernel) (by intro e; have := congrArg List.length e; rw [rowsS_len, List.length_nil] at this; omega) (fun p hp => by
    obtain ⟨i, _, rfl⟩ := List.mem_map.mp hp
    exact rowS_free)
theorem join_bound (y : Str) (b : Nat) : ∀ ps : List Str, (∀ p ∈ ps, p.length ≤ b) → (Txt.join y ps).length ≤ ps.length * (b + y.length) := fun ps h => by
  have a := StrLaws.join_length_le y ps
  rw [TL.join_eq]
  have s : ∀ ps : List Str, (∀ p ∈ ps, p.length ≤ b) → (ps.map (·.length)).sum ≤ ps.length * b := fun ps => by
    induction ps with
    | nil => intro _; simp
    | cons p ps ih =>
      intro h
      have a := ih fun q hq => h q (List.mem_cons_of_mem _ hq)
      have c := h p List.mem_cons_self
      rw [List.map_cons, List.sum_cons, List.length_cons, Nat.succ_mul]
      omega
  have := s ps h
  rw [Nat.mul_add]
  omega
theorem rowS_len {i : Nat} {r : List Nat} (hi : i < 1000) (hr : ∀ x ∈ r, x < 1000) : (rowS i r).length ≤ (r.length + 1) * 5 := by
  have b := join_bound ((" " : String) : Str) 4 (rowW i r) (fun p hp => by
    rcases List.mem_cons.mp hp with rfl | hp
    · have := (numS_len hi).2
      rw [Str.length_append, show ((":" : String) : Str).length = 1 by decide]
      omega
    · obtain ⟨x, hx, rfl⟩ := List.mem_map.mp hp
      have := (numS_len (hr x hx)).2
      omega)
  rw [show ((" " : String) : Str).length = 1 by decide] at b
  unfold rowW at b
  rw [List.length_cons, List.length_map] at b
  exact b
theorem rowsS_succ (G : Grid) (n : Nat) : rowsS G (n + 1) = rowsS G n ++ [rowS n (row G n)] := by
  unfold rowsS
  rw [List.range_succ, List.map_append]
  rfl
theorem SiteOk.row12 {G : Grid} (h : SiteOk G) (i : Nat) : ∀ x ∈ row G i, x < 1000 := fun x hx => by
  have a := h.rlt hx
  have b := h.n2
  omega
theorem site_len {G : Grid} (h : SiteOk G) (n : Nat) (hn : n ≤ 12) : (Txt.join (("; " : String) : Str) (rowsS G n)).length ≤ n * 67 := by
  have b := join_bound (("; " : String) : Str) 65 (rowsS G n) (fun p hp => by
    obtain ⟨i, hi, rfl⟩ := List.mem_map.mp hp
    rw [List.mem_range] at hi
    have := rowS_len (i := i) (r := row G i) (by omega) (h.row12 i)
    have := h.rlen i
    omega)
  rw [show (("; " : String) : Str).length = 2 by decide, rowsS_len] at b
  omega
/-! ### what the law puts together -/
/-- the text so far, within row i behind j of its links -/
def part7 (G : Grid) (i j : Nat) : Str := Txt.join (("; " : String) : Str) (rowsS G i) ++ (if 0 < i then (("; " : String) : Str) else Str.empty) ++ rowS i ((row G i).take j)
theorem part7_end {G : Grid} {i : Nat} : part7 G i (row G i).length = Txt.join (("; " : String) : Str) (rowsS G (i + 1)) := by
  unfold part7
  rw [List.take_length, rowsS_succ]
  cases i with
  | zero =>
    show Txt.join _ [] ++ Str.empty ++ _ = Txt.join _ ([] ++ [_])
    rw [List.nil_append, join_nil, join_one, Str.empty_append, Str.empty_append]
  | succ i =>
    rw [if_pos (by omega), join_snoc _ _ (by intro e; have := congrArg List.length e; rw [rowsS_len] at this; simp at this)]
theorem part7_next {G : Grid} {i j x : Nat} (h : (row G i)[j]? = some x) : part7 G i j ++ ((" " : String) : Str) ++ numS x = part7 G i (j + 1) := by
  unfold part7
  have e : rowS i ((row G i).take (j + 1)) = rowS i ((row G i).take j) ++ ((" " : String) : Str) ++ numS x := by
    unfold rowS
    rw [List.take_add_one, h]
    show Txt.join _ ((numS i ++ _) :: (((row G i).take j ++ [x]).map numS)) = _
    rw [List.map_append, List.map_singleton]
    exact join_snoc (ps := rowW i ((row G i).take j)) _ _ (by unfold rowW; simp)
  rw [e]
  simp only [Str.append_assoc]
theorem part7_zero {G : Grid} {i : Nat} : Txt.join (("; " : String) : Str) (rowsS G i) ++ (if 0 < i then (("; " : String) : Str) else Str.empty) ++ numS i ++ ((":" : String) : Str) = part7 G i 0 := by
  unfold part7
  have e : rowS i ((row G i).take 0) = numS i ++ ((":" : String) : Str) := by
    unfold rowS rowW
    rw [List.take_zero, List.map_nil]
    exact join_one _ _
  rw [e]
  simp only [Str.append_assoc]
theorem part7_len {G : Grid} (h : SiteOk G) {i j : Nat} (hi : i < 12) : (part7 G i j).length ≤ 1000 := by
  unfold part7
  rw [Str.length_append, Str.length_append]
  have a := site_len h i (by omega)
  have b := rowS_len (i := i) (r := (row G i).take j) (by omega) (fun x hx => h.row12 i x (List.mem_of_mem_take hx))
  have c := h.rlen i
  rw [List.length_take] at b
  have d : (if 0 < i then (("; " : String) : Str) else Str.empty).length ≤ 2 := by
    split
    · decide
    · decide
  have : (min j (row G i).length + 1) * 5 ≤ 13 * 5 := Nat.mul_le_mul_right _ (by omega)
  have : i * 67 ≤ 11 * 67 := Nat.mul_le_mul_right _ (by omega)
  omega
/-! ### numbers read -/
/-- the number of at most two digits that a word writes -/
def numIn (x : Str) : Option Nat := (List.range 100).find? fun n => decide (numS n = x)
def numV (x : Str) : V := match numIn x with | some n => .int (n : Int) | none => .non
theorem numIn_some {x : Str} {n : Nat} (h : numIn x = some n) : n < 100 ∧ x = numS n := by
  have a := List.find?_some h
  have b := List.mem_of_find?_eq_some h
  exact ⟨List.mem_range.mp b, (of_decide_eq_true a).symm⟩
theorem numIn_num {n : Nat} (h : n < 100) : numIn (numS n) = some n := by
  cases e : numIn (numS n) with
  | some m => rw [numS_inj (numIn_some e).2]
  | none =>
    have := List.find?_eq_none.mp e n (List.mem_range.mpr h)
    simp at this
theorem numV_num {n : Nat} (h : n < 100) : numV (numS n) = .int (n : Int) := by unfold numV; rw [numIn_num h]
theorem num_two : ∀ n : Fin 100, 1 ≤ (numS n.val).length ∧ (numS n.val).length ≤ 2 ∧ (numS n.val).cps.toList.all (fun c => decide (48 ≤ c) && decide (c ≤ 57)) = true := by decide +kernel
theorem numIn_odd {x : Str} (h : ¬ (1 ≤ x.length ∧ x.length ≤ 2 ∧ x.cps.toList.all (fun c => decide (48 ≤ c) && decide (c ≤ 57)) = true)) : numV x = .non := by
  unfold numV
  cases e : numIn x with
  | none => rfl
  | some n =>
    obtain ⟨a, rfl⟩ := numIn_some e
    exact absurd (num_two ⟨n, a⟩) h
theorem num_one : ∀ a : Fin 10, numV ⟨#[48 + a.val]⟩ = .int (a.val : Nat) ∧ intText? ⟨#[48 + a.val]⟩ = some ((a.val : Nat) : Int) := by decide +kernel
theorem num_pair : ∀ a b : Fin 10, (numV ⟨#[48 + a.val, 48 + b.val]⟩ = if a.val = 0 then .non else .int ((10 * a.val + b.val : Nat) : Int)) ∧ intText? ⟨#[48 + a.val, 48 + b.val]⟩ = some ((10 * a.val + b.val : Nat) : Int) := by decide +kernel
theorem digits_mem (c : Nat) : c ∈ ((("0123456789" : String) : Str)).cps.toList ↔ 48 ≤ c ∧ c ≤ 57 := by
  have e : ((("0123456789" : String) : Str)).cps.toList = [48, 49, 50, 51, 52, 53, 54, 55, 56, 57] := by decide +kernel
  rw [e]
  simp only [List.mem_cons, List.mem_nil_iff, or_false]
  omega
section
variable {K : PySem.W.Frag} {σ : L2.St} {H1 : Hp} {tt : TT} {te : TE} {vs : List Nat} {Dl : Addr} {Q : VK}
theorem lc_str {x : Str} {j : Nat} (keep : Nat → Bool) (f : Nat → V) (hD : H1 Dl = none) (hn : x.cps.size ≤ 100000)
    (hw : ∀ u : V, wipe ((wipe σ vs).set j (some u)) vs = wipe σ vs)
    (ht : ∀ i c, x.cps.toList[i]? = some c → Evl.EvT tt ((wipe σ vs).set j (some (.str ⟨#[c]⟩))) H1 (keep i))
    (he : ∀ i c, x.cps.toList[i]? = some c → keep i = true → Evl.Ev te ((wipe σ vs).set j (some (.str ⟨#[c]⟩))) H1 (f i))
    (hd : ∀ H', Evl.Ex H1 H' → H' Dl = some (.lst (kept x.cps.size keep f)) → Q (.ref Dl) H') : LcG (Its x) (gName j) tt te vs σ Dl H1 Q := by
  have at' : ∀ i, i < x.cps.size → x.cps.toList[i]? = some (x.cps.toList.getD i 0) := fun i hi => by
    rw [List.getD_eq_getElem?_getD, List.getElem?_eq_getElem (by simpa using hi)]
    rfl
  refine lc_pure x.cps.size (fun i => (wipe σ vs).set j (some (.str ⟨#[x.cps.toList.getD i 0]⟩))) keep f hD hn (fun H' e => Nat.le_refl _) (fun i H' hi e => hi)
    (fun i H' x' H'' QG hi e y q => ?_) (fun i hi => hw _) (fun i hi => ht i _ (at' i hi)) (fun i hi => he i _ (at' i hi)) hd
  obtain ⟨rfl, c, hc, rfl⟩ := y
  have e1 : x.cps.toList.getD i 0 = c := by
    rw [List.getD_eq_getElem?_getD, Array.getElem?_toList, hc]
    rfl
  show QG _ _
  rw [← e1]
  exact q (Evl.Ex.refl _)
end
theorem x_inS {c : Nat} {z : Str} {H : Hp} {Q : VK} : rInS (.str ⟨#[c]⟩) (.str z) H Q ↔ Q (.bl (decide (c ∈ z.cps.toList))) H := ⟨fun ⟨i, j, e1, e2, q⟩ => by cases e1; cases e2; exact q, fun q => ⟨c, z, rfl, rfl, q⟩⟩
/-- a str that is cut -/
def rSplit : V → List V → Hp → VK → Prop := fun x xs H Q => ∃ a b, x = .str a ∧ xs = [.str b] ∧ (b.length == 0) = false ∧ a.length + 2 ≤ sizeLine ∧ ∀ p, H p = none → Q (.ref p) (upd H p (.lst ((Txt.split a b).map V.str)))
theorem k_split {X : Cx} : MtR X "str.split" rSplit := mt_split
def rAddS : R2 := fun x y H Q => ∃ i j, x = .str i ∧ y = .str j ∧ i.length + j.length ≤ sizeLine ∧ Q (.str (i ++ j)) H
theorem k_addS {X : Cx} : OpR X (binaryOp .Add) rAddS := op_add_str
theorem x_addS {i j : Str} {H : Hp} {Q : VK} : rAddS (.str i) (.str j) H Q ↔ i.length + j.length ≤ sizeLine ∧ Q (.str (i ++ j)) H := ⟨fun ⟨i, j, e1, e2, q⟩ => by cases e1; cases e2; exact q, fun q => ⟨i, j, rfl, rfl, q⟩⟩
def rIntS : List V → Hp → VK → Prop := fun xs H Q => ∃ a n, xs = [.str a] ∧ PySem.intText? a = some n ∧ a.length ≤ 640 ∧ Q (.int n) H
theorem k_intS {X : Cx} : CallR X (.type "int") rIntS := call_int_str
end BC

set_option Elab.async false
set_option linter.all false
set_option maxRecDepth 100000
set_option maxHeartbeats 4000000
/-! sorted(set(xs)), len(set(xs)) of a longer list of numbers, with doubles -/
namespace BC
open PySem PySem.Spec PyProof.Rows L2 Evl RZ
theorem sub_len : ∀ {a b : List Int}, a.Nodup → (∀ x ∈ a, x ∈ b) → a.length ≤ b.length
  | [], _, _, _ => Nat.zero_le _
  | x :: a, b, nd, h => by
    rw [List.nodup_cons] at nd
    have hx := h x List.mem_cons_self
    have ih := sub_len (a := a) (b := b.erase x) nd.2 fun y hy => (List.mem_erase_of_ne (fun e => nd.1 (by rw [← e]; exact hy))).mpr (h y (List.mem_cons_of_mem _ hy))
    rw [List.length_erase_of_mem hx] at ih
    have := List.length_pos_of_mem hx
    rw [List.length_cons]
    omega
theorem dup_len {a b : List Int} (nd : a.Nodup) (h : ∀ x ∈ a, x ∈ b) (g : ∀ x ∈ b, x ∈ a) (e : a.length = b.length) : b.Nodup := by
  induction b generalizing a with
  | nil => exact List.nodup_nil
  | cons y b ih =>
    have hy := g y List.mem_cons_self
    have el := List.length_erase_of_mem hy
    have pos := List.length_pos_of_mem hy
    by_cases q : y ∈ b
    · have : a.length ≤ b.length := sub_len nd fun x hx => by
        rcases List.mem_cons.mp (h x hx) with rfl | m
        · exact q
        · exact m
      rw [List.length_cons] at e
      omega
    · rw [List.nodup_cons]
      refine ⟨q, ih (a := a.erase y) (nd.erase y) (fun x hx => ?_) (fun x hx => ?_) ?_⟩
      · have hne := (List.Nodup.mem_erase_iff nd).mp hx
        rcases List.mem_cons.mp (h x hne.2) with rfl | m
        · exact absurd rfl hne.1
        · exact m
      · exact (List.Nodup.mem_erase_iff nd).mpr ⟨fun z => q (by rw [← z]; exact hx), g x (List.mem_cons_of_mem _ hx)⟩
      · rw [List.length_cons] at e
        omega
theorem range_len {a : List Int} {m : Nat} (nd : a.Nodup) (h : ∀ x ∈ a, 0 ≤ x ∧ x < m) : a.length ≤ m := by
  have := sub_len (b := (List.range m).map fun i : Nat => (i : Int)) nd fun x hx => by
    have := h x hx
    exact List.mem_map.mpr ⟨x.toNat, List.mem_range.mpr (by omega), by show ((x.toNat : Nat) : Int) = x; omega⟩
  rw [List.length_map, List.length_range] at this
  exact this
section
variable {w : World} {h : Heap} {a : Addr} {S : Int → Bool} {n m : Nat}
theorem setR_few (R : SetR w h a S n) (hb : ∀ k, S k = true → 0 ≤ k ∧ k < m) : n ≤ m := by
  obtain ⟨o, es, ep, t, ho, hex, hd, g, nd, hm, hbd, hf, hn, hr, hl⟩ := R
  have := range_len (m := m) nd fun x hx => hb x ((hm x).mpr hx)
  rw [List.length_map, Array.length_toList] at this
  omega
theorem setR_count {ns : List Int} (R : SetR w h a (fun j => decide (j ∈ ns)) n) : n = ns.length ↔ ns.Nodup := by
  obtain ⟨o, es, ep, t, ho, hex, hd, g, nd, hm, hbd, hf, hn, hr, hl⟩ := R
  have sub : ∀ x ∈ es.toList.map keyOf, x ∈ ns := fun x hx => of_decide_eq_true ((hm x).mpr hx)
  have sup : ∀ x ∈ ns, x ∈ es.toList.map keyOf := fun x hx => (hm x).mp (decide_eq_true hx)
  have e1 : (es.toList.map keyOf).length = n := by rw [List.length_map, Array.length_toList]; exact hn
  constructor
  · intro e
    exact dup_len nd sub sup (by rw [e1]; exact e)
  · intro q
    have := sub_len q sup
    have := sub_len nd sub
    omega
end
section
variable {X : Cx} {K : PySem.W.Frag} {a : Expr} {ta : TE} {p p2 q pos : Pos}
/-- sorted(set(xs)): numbers below 60, as many as there are -/
def tSortSetB (K : PySem.W.Frag) (ta : TE) : TE := fun σ H Q => ta σ H fun x H1 => ∃ (l : Addr) (ns : List Int), x = .ref l ∧ SqL K H1 l (ns.map V.int) ∧ ns.length ≤ 4000 ∧ (∀ k ∈ ns, 0 ≤ k ∧ k < (60 : Nat)) ∧
  ∀ (ms : List Int) r, ms.Pairwise (· < ·) → (∀ k : Int, k ∈ ms ↔ k ∈ ns) → H1 r = none → Q (.ref r) (upd H1 r (.lst (ms.map V.int)))
theorem k_sortSetB (hK : X.K = K) (hg : Gl X "sorted") (hm : X.mg "sorted" = none) (hg2 : Gl X "set") (hm2 : X.mg "set" = none) (ha : PE X a ta) (hc : X.calm = true := by rfl)
    (na : starEach [a] X.env = (false, eval a X.env) :: starEach [] X.env := by rfl) : PE X (.Call (.Name "sorted" p) [.Call (.Name "set" p2) [a] [] q] [] pos) (tSortSetB K ta) := by
  subst hK
  refine ⟨fun pins s σ H Q I h => ?_⟩
  refine Call_ (ld_blt I hg hm (show bootBuiltins ("sorted" : Str) = some (.builtin "sorted") by decide +kernel) ?_)
  refine callWith_builtin1 (args_cons ?_ rfl) rfl rfl
  refine Call_ (ld_blt I hg2 hm2 boot_set ?_)
  refine callWith_type1 (args_cons (thn (ha.run pins s σ H _ I h) fun v s1 ⟨x, H1, I1, r1, q1⟩ => args_nil ?_) na) na rfl
  obtain ⟨l, ns, rfl, hq, hl, hb, q1⟩ := q1
  cases r1
  obtain ⟨its, r, pl, hz⟩ := I1.list hq
  refine set_of_list ns (I1.ok.hd hc) pl.isList (by simpa using intsAre_vals r) (by unfold scanBound; omega) fun h' tk c hS hcl hk => ?_
  refine args_nil ?_
  have I2 : Inv X pins σ H1 { s1 with heap := h', toks := tk } := I1.kept hk
  have few60 := setR_few (m := 60) hS fun k hk => hb k (of_decide_eq_true hk)
  refine sorted_set hS (I2.ok.hd hc) (by omega) fun s' p out c2 ms k g o hp hg hi hs hm hlen => ?_
  have few : (ms.map V.int).length ≤ sizeLine := by rw [List.length_map, hlen, sizeLine_eq]; omega
  have hn : H1 p = none := I2.hok.fresh hp
  have J : Inv X pins σ (upd H1 p (.lst (ms.map V.int))) { ({ s1 with heap := h', toks := tk } : Shared) with heap := s'.heap, gens := s'.gens, drawn := s'.drawn, toks := s'.toks } :=
    I2.call (ch := []) (Un.laid k hp hn) (I2.hok.laid k hp ⟨few, out.toList, c2, vals_of_ints hi, hg⟩) (by rw [g]; exact I2.bare) (fun _ z => nomatch z)
  have e : s' = { ({ s1 with heap := h', toks := tk } : Shared) with heap := s'.heap, gens := s'.gens, drawn := s'.drawn, toks := s'.toks } := by
    cases s'
    cases o
    rfl
  rw [e]
  exact ⟨.ref p, _, J, rfl, q1 ms p hs (fun k => by rw [hm k, decide_eq_true_eq]) hn⟩
theorem x_sortSetB {σ : L2.St} {H : Hp} {Q : VK} : tSortSetB K ta σ H Q = ta σ H fun x H1 => ∃ (l : Addr) (ns : List Int), x = .ref l ∧ SqL K H1 l (ns.map V.int) ∧ ns.length ≤ 4000 ∧ (∀ k ∈ ns, 0 ≤ k ∧ k < (60 : Nat)) ∧
  ∀ (ms : List Int) r, ms.Pairwise (· < ·) → (∀ k : Int, k ∈ ms ↔ k ∈ ns) → H1 r = none → Q (.ref r) (upd H1 r (.lst (ms.map V.int))) := rfl
/-- len(set(xs)): as many as the list has just where nothing stands twice -/
def tLenSetA (K : PySem.W.Frag) (ta : TE) : TE := fun σ H Q => ta σ H fun x H1 => ∃ (l : Addr) (ns : List Int), x = .ref l ∧ SqL K H1 l (ns.map V.int) ∧ ns.length ≤ 4000 ∧ ∀ n : Nat, (n = ns.length ↔ ns.Nodup) → n ≤ ns.length → Q (.int (n : Nat)) H1
theorem k_lenSetA (hK : X.K = K) (hg : Gl X "len") (hm : X.mg "len" = none) (hg2 : Gl X "set") (hm2 : X.mg "set" = none) (ha : PE X a ta) (hc : X.calm = true := by rfl)
    (na : starEach [a] X.env = (false, eval a X.env) :: starEach [] X.env := by rfl) : PE X (.Call (.Name "len" p) [.Call (.Name "set" p2) [a] [] q] [] pos) (tLenSetA K ta) := by
  subst hK
  refine ⟨fun pins s σ H Q I h => ?_⟩
  refine Call_ (ld_blt I hg hm boot_len ?_)
  refine callWith_builtin1 (args_cons ?_ rfl) rfl rfl
  refine Call_ (ld_blt I hg2 hm2 boot_set ?_)
  refine callWith_type1 (args_cons (thn (ha.run pins s σ H _ I h) fun v s1 ⟨x, H1, I1, r1, q1⟩ => args_nil ?_) na) na rfl
  obtain ⟨l, ns, rfl, hq, hl, q1⟩ := q1
  cases r1
  obtain ⟨its, r, pl, hz⟩ := I1.list hq
  refine set_of_list ns (I1.ok.hd hc) pl.isList (by simpa using intsAre_vals r) (by unfold scanBound; omega) fun h' tk c hS hcl hk => ?_
  refine args_nil ?_
  have I2 : Inv X pins σ H1 { s1 with heap := h', toks := tk } := I1.kept hk
  have cnt := setR_count hS
  obtain ⟨o, es, ep, t, ho, hex, hd, _, _, _, hbd, hf, hn, _, _⟩ := hS
  exact call_len_set ho hex hd hf (by rw [hn]; omega) ⟨.int c, H1, I2.tok _, ⟨_, by rw [hn]⟩, q1 c cnt hcl⟩
theorem x_lenSetA {σ : L2.St} {H : Hp} {Q : VK} : tLenSetA K ta σ H Q = ta σ H fun x H1 => ∃ (l : Addr) (ns : List Int), x = .ref l ∧ SqL K H1 l (ns.map V.int) ∧ ns.length ≤ 4000 ∧ ∀ n : Nat, (n = ns.length ↔ ns.Nodup) → n ≤ ns.length → Q (.int (n : Nat)) H1 := rfl
end
end BC

set_option Elab.async false
set_option linter.all false
set_option maxRecDepth 100000
set_option maxHeartbeats 4000000
/-! strings of trails, cut and read; list.count of flat values -/
namespace BC
open PySem PySem.Spec PyProof.Rows L2 Evl
/-! ### list.count of flat values -/
def rCntF (K : PySem.W.Frag) : V → List V → Hp → VK → Prop := fun x xs H Q => ∃ (a : Addr) (ys : List V) (y : V), x = .ref a ∧ xs = [y] ∧ SqL K H a ys ∧ flatV y = true ∧ ys.all flatV = true ∧ Q (.int ((ys.countP fun z => eqV z y : Nat) : Int)) H
theorem cnt_flat {y : V} : ∀ {ys : List V} {us : List Value}, Vals ys us → ys.all flatV = true → us.countP (eqU y) = ys.countP fun z => eqV z y
  | [], _, .nil, _ => rfl
  | z :: ys, _, .cons r rs, f => by
    rw [List.all_cons, Bool.and_eq_true] at f
    rw [List.countP_cons, List.countP_cons, cnt_flat rs f.2, eqU_of r f.1]
theorem k_cntF {X : Cx} {K : PySem.W.Frag} (hK : X.K = K) : MtR X "list.count" (rCntF K) := by
  subst hK
  intro pins s σ H x xs v us Q I rx rxs h
  obtain ⟨a, ys, y, rfl, rfl, hs, fy, fys, q⟩ := h
  cases rx
  cases rxs with
  | cons ry rt =>
    rename_i uy ut
    cases rt
    obtain ⟨its, rv, ⟨⟨cls, dd, data, sl⟩, n, ho, hc, hdn, hd⟩, hlen⟩ := I.list hs
    simp only at hc hd
    subst hc hd
    refine call_meets PySem.F.slot_list_count ⟨_, ho, rfl⟩ PySem.F.entry_list_count (PySem.F.args_list_count_2 _ _)
      (SeqAt.list_countAt a its.toArray n dd sl uy (eqU y)) ⟨ho, fun u' hu' => mem_eqAt ry fy rv fys u' (by simpa using hu'), ?_⟩
    have ec : its.toArray.toList.countP (eqU y) = ys.countP fun z => eqV z y := cnt_flat rv fys
    refine ⟨.int ((ys.countP fun z => eqV z y : Nat) : Int), H, I.tok _, ⟨s.toks, ?_⟩, q⟩
    show Value.int ((its.toArray.toList.countP (eqU y) : Nat) : Int) s.toks = _
    rw [ec]
/-! ### lengths -/
def totL (ps : List Str) : Nat := (ps.map (·.length)).sum
theorem totL_app (a b : List Str) : totL (a ++ b) = totL a + totL b := by unfold totL; rw [List.map_append, List.sum_append]
theorem totL_rev (a : List Str) : totL a.reverse = totL a := by
  unfold totL
  rw [List.map_reverse, List.sum_reverse]
theorem totL_take (a : List Str) (n : Nat) : totL (a.take n) ≤ totL a := by
  have := totL_app (a.take n) (a.drop n)
  rw [List.take_append_drop] at this
  omega
theorem totL_drop (a : List Str) (n : Nat) : totL (a.drop n) ≤ totL a := by
  have := totL_app (a.take n) (a.drop n)
  rw [List.take_append_drop] at this
  omega
theorem join_length (y : Str) : ∀ {ps : List Str}, ps ≠ [] → (Str.join y ps).length = totL ps + (ps.length - 1) * y.length
  | [], h => absurd rfl h
  | [p], _ => by
    show p.length = _
    unfold totL
    simp
  | p :: q :: r, _ => by
    have ih := join_length y (ps := q :: r) (by simp)
    show (p ++ y ++ Str.join y (q :: r)).length = _
    rw [Str.length_append, Str.length_append, ih]
    have e : totL (p :: q :: r) = p.length + totL (q :: r) := by unfold totL; rw [List.map_cons, List.sum_cons]
    rw [e]
    have l : (p :: q :: r).length - 1 = ((q :: r).length - 1) + 1 := by simp
    rw [l, Nat.succ_mul]
    omega
theorem split_ne (x y : Str) (h : 1 ≤ x.length ∨ Txt.split x y ≠ []) : Txt.split x y ≠ [] := by
  rcases h with h | h
  · intro e
    have := StrLaws.join_split x y
    rw [e] at this
    have : x.length = 0 := by rw [← this]; rfl
    omega
  · exact h
theorem split_sum (x y : Str) : totL (Txt.split x y) ≤ x.length ∧ ((Txt.split x y).length - 1) * y.length ≤ x.length := by
  by_cases h : Txt.split x y = []
  · rw [h]
    exact ⟨Nat.zero_le _, by simp⟩
  · have a := StrLaws.join_split x y
    have b := join_length y h
    rw [a] at b
    omega
theorem split_len {x y : Str} (h : 1 ≤ y.length) : (Txt.split x y).length ≤ x.length + 1 := by
  have a := (split_sum x y).2
  have b : (Txt.split x y).length - 1 ≤ ((Txt.split x y).length - 1) * y.length := Nat.le_mul_of_pos_right _ h
  omega
theorem join_le (y : Str) (ps : List Str) : (Txt.join y ps).length ≤ totL ps + ps.length * y.length := by
  rw [TL.join_eq]
  by_cases h : ps = []
  · rw [h]; exact Nat.zero_le _
  · rw [join_length y h]
    have : (ps.length - 1) * y.length ≤ ps.length * y.length := Nat.mul_le_mul_right _ (by omega)
    omega
/-! ### trails that are read -/
abbrev NX : Str := ((" > " : String) : Str)
theorem tl_nx : TL.tl NX = [32, 62, 32] := by decide +kernel
def wordsT (x : Str) : List Str := if x = Str.empty then [] else Txt.split x NX
def ptGo : List Str → List Nat → Option (List Nat)
  | [], acc => some acc
  | x :: ws, acc => match numIn x with
    | some n => if n < 40 ∧ n ∉ acc then ptGo ws (acc ++ [n]) else none
    | none => none
def ptT (x : Str) : Option (List Nat) := ptGo (wordsT x) []
theorem wordsT_len {x : Str} (h : x.length ≤ 4000) : (wordsT x).length ≤ 1400 := by
  unfold wordsT
  split
  · exact Nat.zero_le _
  · have a := (split_sum x NX).2
    rw [show NX.length = 3 by decide] at a
    omega
theorem wordsT_word {x p : Str} (h : p ∈ wordsT x) : p.length ≤ x.length := by
  unfold wordsT at h
  split at h
  · simp at h
  · have a := (split_sum x NX).1
    have b : p.length ≤ totL (Txt.split x NX) := by
      obtain ⟨s, t, e⟩ := List.append_of_mem h
      rw [e, totL_app]
      have : totL (p :: t) = p.length + totL t := by unfold totL; rw [List.map_cons, List.sum_cons]
      omega
    omega
theorem ptGo_ok : ∀ {ws : List Str} {acc L : List Nat}, acc.Nodup → (∀ n ∈ acc, n < 40) → ptGo ws acc = some L → L.Nodup ∧ (∀ n ∈ L, n < 40) ∧ ∃ M, L = acc ++ M ∧ ws = M.map numS
  | [], acc, L, nd, lt, h => by
    cases h
    exact ⟨nd, lt, [], by simp, rfl⟩
  | x :: ws, acc, L, nd, lt, h => by
    unfold ptGo at h
    cases e : numIn x with
    | none => rw [e] at h; cases h
    | some n =>
      rw [e] at h
      by_cases c : n < 40 ∧ n ∉ acc
      · simp only [c, not_false_eq_true, and_self, if_true] at h
        obtain ⟨a, b, M, m1, m2⟩ := ptGo_ok (ws := ws) (acc := acc ++ [n]) (L := L) (List.nodup_append.mpr ⟨nd, by simp, fun u hu v hv => by rw [List.mem_singleton.mp hv]; exact fun z => c.2 (z ▸ hu)⟩)
          (fun u hu => by
            rcases List.mem_append.mp hu with q | q
            · exact lt u q
            · rw [List.mem_singleton.mp q]; exact c.1) h
        refine ⟨a, b, n :: M, by rw [m1, List.append_assoc]; rfl, ?_⟩
        rw [List.map_cons, ← (numIn_some e).2, m2]
      · simp only [c, if_false] at h
        cases h
/-- read: the words write different pages -/
theorem ptGo_all {ws : List Str} {acc M : List Nat} (hw : ws = M.map numS) (lt : ∀ n ∈ M, n < 40) (nd : (acc ++ M).Nodup) : ptGo ws acc = some (acc ++ M) := by
  subst hw
  induction M generalizing acc with
  | nil => simp [ptGo]
  | cons n M ih =>
    rw [List.map_cons]
    unfold ptGo
    have n40 := lt n List.mem_cons_self
    rw [numIn_num (by omega)]
    have nn : n ∉ acc := fun m => by
      rw [List.nodup_append] at nd
      exact nd.2.2 n m n List.mem_cons_self rfl
    simp only [n40, nn, not_false_eq_true, and_self, if_true]
    have e : acc ++ n :: M = acc ++ [n] ++ M := by simp
    rw [e] at nd ⊢
    exact ih (fun u hu => lt u (List.mem_cons_of_mem _ hu)) nd
theorem ptT_some {x : Str} {L : List Nat} (h : ptT x = some L) : L.Nodup ∧ (∀ n ∈ L, n < 40) ∧ wordsT x = L.map numS := by
  obtain ⟨a, b, M, m1, m2⟩ := ptGo_ok List.nodup_nil (fun n hn => by simp at hn) h
  rw [List.nil_append] at m1
  subst m1
  exact ⟨a, b, m2⟩
theorem ptT_none {x : Str} (h : ptT x = none) {M : List Nat} (hw : wordsT x = M.map numS) (lt : ∀ n ∈ M, n < 40) : ¬ M.Nodup := fun nd => by
  have := ptGo_all (acc := []) hw lt (by simpa using nd)
  unfold ptT at h
  rw [this] at h
  cases h
theorem ptT_join {L : List Nat} (nd : L.Nodup) (lt : ∀ n ∈ L, n < 40) : ptT (Txt.join NX (L.map numS)) = some L := by
  refine (ptGo_all (acc := []) (M := L) ?_ lt (by simpa using nd)).trans (by simp)
  unfold wordsT
  cases L with
  | nil =>
    rw [List.map_nil, join_nil, if_pos rfl]
  | cons n M =>
    rw [if_neg]
    · exact TL.split_join tl_nx (by decide +kernel) (by simp) (fun p hp => by
        obtain ⟨x, _, rfl⟩ := List.mem_map.mp hp
        exact numS_free (by omega))
    · intro e
      have a := join_length NX (ps := (n :: M).map numS) (by simp)
      rw [← TL.join_eq, e] at a
      have b := (numS_len (n := n) (by have := lt n List.mem_cons_self; omega)).1
      have c : totL ((n :: M).map numS) = (numS n).length + totL (M.map numS) := by unfold totL; rw [List.map_cons, List.map_cons, List.sum_cons]
      rw [c] at a
      have d : Str.empty.length = 0 := by decide
      omega
/-! ### the words, made numbers -/
/-- is the value a page? -/
def isPg : V → Bool
  | .int n => decide (0 ≤ n) && decide (n ≤ 39)
  | _ => false
theorem numV_kind (x : Str) : numV x = .non ∨ ∃ n : Nat, n < 100 ∧ numV x = .int (n : Int) ∧ x = numS n := by
  unfold numV
  cases e : numIn x with
  | none => exact .inl rfl
  | some n =>
    obtain ⟨a, b⟩ := numIn_some e
    exact .inr ⟨n, a, rfl, b⟩
/-- all words are pages: they are numbers below 40 -/
theorem pages_of : ∀ {ws : List Str}, (ws.map numV).all isPg = true → ∃ M : List Nat, ws = M.map numS ∧ (∀ n ∈ M, n < 40) ∧ ws.map numV = (nz M).map V.int
  | [], _ => ⟨[], rfl, fun n h => by simp at h, rfl⟩
  | x :: ws, h => by
    rw [List.map_cons, List.all_cons, Bool.and_eq_true] at h
    obtain ⟨M, m1, m2, m3⟩ := pages_of h.2
    rcases numV_kind x with e | ⟨n, n1, e, rfl⟩
    · rw [e] at h
      exact absurd h.1 (by decide)
    · rw [e] at h
      have h1 : (decide ((0 : Int) ≤ (n : Int)) && decide (((n : Nat) : Int) ≤ 39)) = true := h.1
      rw [Bool.and_eq_true, decide_eq_true_eq, decide_eq_true_eq] at h1
      refine ⟨n :: M, by rw [List.map_cons, m1], fun u hu => ?_, ?_⟩
      · rcases List.mem_cons.mp hu with rfl | hu
        · omega
        · exact m2 u hu
      · rw [List.map_cons, e, m3]
        rfl
theorem pages_are {M : List Nat} (h : ∀ n ∈ M, n < 40) : ((M.map numS).map numV).all isPg = true := by
  rw [List.all_eq_true]
  intro v hv
  rw [List.map_map] at hv
  obtain ⟨n, hn, rfl⟩ := List.mem_map.mp hv
  have := h n hn
  show isPg (numV (numS n)) = true
  rw [numV_num (by omega)]
  show (decide ((0 : Int) ≤ (n : Int)) && decide (((n : Nat) : Int) ≤ 39)) = true
  rw [decide_eq_true (by omega), decide_eq_true (by omega)]
  rfl
theorem numV_ints {M : List Nat} (h : ∀ n ∈ M, n < 40) : (M.map numS).map numV = (nz M).map V.int := by
  unfold nz
  rw [List.map_map, List.map_map]
  refine List.map_congr_left fun n hn => ?_
  have := h n hn
  exact numV_num (by omega)
end BC

set_option Elab.async false
set_option linter.all false
set_option maxRecDepth 100000
set_option maxHeartbeats 4000000
/-! repr of anything that is shown: numbers, texts, None, lists, tuples, empty dicts, at any depth -/
namespace BC
open PySem PySem.Spec PyProof.Rows L2 Evl
mutual
inductive De (K : PySem.W.Frag) (H : Hp) : V → PyData → Prop
  | non : De K H .non .none
  | bl (b : Bool) : De K H (.bl b) (.bool b)
  | int (i : Int) : De K H (.int i) (.int i)
  | str (x : Str) : De K H (.str x) (.str x)
  | lst {a : Addr} {xs : List V} {ds : List PyData} : SqL K H a xs → DeAll K H xs ds → De K H (.ref a) (.list ds)
  | tup {a : Addr} {xs : List V} {ds : List PyData} : SqT K H a xs → DeAll K H xs ds → De K H (.ref a) (.tuple ds)
  | dic {a : Addr} : H a = some (.dK []) → De K H (.ref a) (.dict [])
inductive DeAll (K : PySem.W.Frag) (H : Hp) : List V → List PyData → Prop
  | nil : DeAll K H [] []
  | cons {v : V} {vs : List V} {d : PyData} {ds : List PyData} : De K H v d → DeAll K H vs ds → DeAll K H (v :: vs) (d :: ds)
end
section
variable {X : Cx} {pins : List (Addr × Obj)} {σ : L2.St} {H : Hp} {s : Shared}
/-- what is known of a value that is shown -/
def Shows (X : Cx) (s : Shared) (u : Value) (d : PyData) : Prop :=
  (∃ as, Reads s.heap u d as) ∧ ∃ bs, ReadAtMost s.heap d.depth bs ∧ ReprK X.prog X.w bs s.heap d.depth u d.shown
def ShowsAll (X : Cx) (s : Shared) (us : List Value) (ds : List PyData) : Prop :=
  (∃ as, ReadsAll s.heap us ds as) ∧ ∃ bs, ReadAtMost s.heap (PyData.depthAll ds) bs ∧ ReprAllK X.prog X.w bs s.heap (PyData.depthAll ds) us (PyData.shownAll ds)
theorem empty_dict (I : Inv X pins σ H s) {a : Addr} (e : H a = some (.dK [])) : (a == sysModules) = false ∧ ∃ o n, s.heap.get? a = some o ∧ o.cls = .type "dict" ∧ o.data = .dict #[] n := by
  obtain ⟨_, hs, vs, kv, o, es, ep, ho, hx, hd, _, hm, _⟩ := dk_of I.hok e
  cases kv
  have he : es = #[] := by
    obtain ⟨l⟩ := es
    cases l with
    | nil => rfl
    | cons y l => cases hm
  subst he
  exact ⟨hs, o, ep, ho, hx.1, hd⟩
mutual
theorem De.shows (I : Inv X pins σ H s) : ∀ (d : PyData) (v : V) (u : Value), De X.K H v d → RelV v u → d.showable = true → d.shown.length ≤ sizeLine → Shows X s u d
  | .none, _, _, h, r, _, _ => by
    cases h; cases r
    exact ⟨⟨_, .none⟩, [], (fun _ m => nomatch m), by rw [show PyData.shown .none = ("None" : Str) by simp only [PyData.shown]]; exact .of_is ReprIs.none _ _ _⟩
  | .bool b, _, _, h, r, _, _ => by
    cases h; cases r
    exact ⟨⟨_, .bool b⟩, [], (fun _ m => nomatch m), by simp only [PyData.shown]; exact .of_is (ReprIs.bool b) _ _ _⟩
  | .int i, _, _, h, r, hs, _ => by
    cases h
    obtain ⟨t, rfl⟩ := r
    have h1 : i.natAbs.log2 < 1920 := by simpa [PyData.showable] using hs
    exact ⟨⟨_, .int i t⟩, [], (fun _ m => nomatch m), by simp only [PyData.shown]; exact .of_is (ReprIs.int t h1) _ _ _⟩
  | .str x, _, _, h, r, _, hz => by
    cases h
    obtain ⟨t, rfl⟩ := r
    simp only [PyData.shown] at hz
    exact ⟨⟨_, .str x t⟩, [], (fun _ m => nomatch m), by simp only [PyData.shown]; exact .of_is (ReprIs.str x t hz) _ _ _⟩
  | .list ds, _, _, h, r, hs, hz => by
    cases h with
    | lst hl ha =>
      cases r
      obtain ⟨its, rv, ⟨o, n, ho, hc, _, hd⟩, _⟩ := I.list hl
      simp only [PyData.shown] at hz
      simp only [PyData.showable] at hs
      obtain ⟨⟨as, hr⟩, bs, hb, hk⟩ := DeAll.shows I ds _ its ha rv hs fun t ht => Nat.le_trans (listText_mem_le ht) hz
      have r1 : Reads s.heap _ (.list ds) _ := .list ho hc hd hr
      have na := not_mem_of_deeper r1 (show PyData.depthAll ds < PyData.depth (.list ds) by simp only [PyData.depth]; omega) hb
      refine ⟨⟨_, r1⟩, _ :: bs, ReadAtMost.cons r1 (by simp only [PyData.depth]; omega) hb, ?_⟩
      simp only [PyData.depth, PyData.shown]
      cases its with
      | nil =>
        cases hr
        simp only [PyData.shownAll, listText_nil]
        exact ReprK.listEmpty ho hc hd
      | cons y l => exact ReprK.list ho hc hd na (by simpa using hk.length_eq) (fun i y e => hk.item i y (by simpa using e))
  | .tuple ds, _, _, h, r, hs, hz => by
    cases h with
    | tup hl ha =>
      cases r
      obtain ⟨its, rv, ⟨o, ho, hc, n, hd⟩, _⟩ := I.tuple hl
      simp only [PyData.shown] at hz
      simp only [PyData.showable] at hs
      obtain ⟨⟨as, hr⟩, bs, hb, hk⟩ := DeAll.shows I ds _ its ha rv hs fun t ht => Nat.le_trans (tupleText_mem_le ht) hz
      have r1 : Reads s.heap _ (.tuple ds) _ := .tuple ho hc hd hr
      have na := not_mem_of_deeper r1 (show PyData.depthAll ds < PyData.depth (.tuple ds) by simp only [PyData.depth]; omega) hb
      refine ⟨⟨_, r1⟩, _ :: bs, ReadAtMost.cons r1 (by simp only [PyData.depth]; omega) hb, ?_⟩
      simp only [PyData.depth, PyData.shown]
      exact ReprK.tuple ho hc hd na hk
  | .dict kvs, _, _, h, r, hs, hz => by
    cases h with
    | dic e =>
      cases r
      obtain ⟨hsys, o, n, ho, hc, hd⟩ := empty_dict I e
      have r1 : Reads s.heap _ (.dict []) _ := .dict (kvs := []) ho hc hd .nil .nil
      refine ⟨⟨_, r1⟩, [_], ReadAtMost.cons r1 (Nat.zero_le _) (fun _ m => nomatch m), ?_⟩
      simp only [PyData.depth, PyData.shown, PyData.shownKv, PyData.depthKv]
      exact ReprK.dict ho hc hd hsys List.not_mem_nil .nil
theorem DeAll.shows (I : Inv X pins σ H s) : ∀ (ds : List PyData) (vs : List V) (us : List Value), DeAll X.K H vs ds → Vals vs us → PyData.showableAll ds = true → (∀ t ∈ PyData.shownAll ds, t.length ≤ sizeLine) → ShowsAll X s us ds
  | [], _, _, h, r, _, _ => by
    cases h; cases r
    exact ⟨⟨_, .nil⟩, [], (fun _ m => nomatch m), by simp only [PyData.shownAll]; exact .nil⟩
  | d :: ds, _, _, h, r, hs, hz => by
    cases h with
    | cons h1 h2 =>
      cases r with
      | cons r1 r2 =>
        have hs2 : d.showable = true ∧ PyData.showableAll ds = true := by simpa [PyData.showableAll] using hs
        obtain ⟨⟨as, q1⟩, b1, c1, k1⟩ := De.shows I d _ _ h1 r1 hs2.1 (hz _ (by simp only [PyData.shownAll]; exact List.mem_cons_self))
        obtain ⟨⟨as2, q2⟩, b2, c2, k2⟩ := DeAll.shows I ds _ _ h2 r2 hs2.2 (fun t ht => hz t (by simp only [PyData.shownAll]; exact List.mem_cons_of_mem _ ht))
        refine ⟨⟨_, .cons q1 q2⟩, b1 ++ b2, ReadAtMost.append (c1.mono ?_) (c2.mono ?_), ?_⟩
        · simp only [PyData.depthAll]; omega
        · simp only [PyData.depthAll]; omega
        · simp only [PyData.depthAll, PyData.shownAll]
          exact .cons ((k1.more fun b m => List.mem_append_left _ m).level_le (by omega)) (k2.more_le (fun b m => List.mem_append_right _ m) (by omega))
end
def rReprA (K : PySem.W.Frag) : List V → Hp → VK → Prop := fun xs H Q => ∃ v d, xs = [v] ∧ De K H v d ∧ d.showable = true ∧ d.depth ≤ 60 ∧ d.shown.length ≤ sizeLine ∧ Q (.str d.shown) H
theorem k_reprA {K : PySem.W.Frag} (hK : X.K = K) (g : G0 X.A) (hu : X.A.units + 64 < cLine) : CallR X (.builtin "repr") (rReprA K) := by
  subst hK
  intro pins s σ H xs us Q I r h
  obtain ⟨v, d, rfl, hd, h1, h2, h4, q⟩ := h
  obtain ⟨u, rfl, ru⟩ := vals1 r
  have fin : ∀ (h' : Heap) (t tk : Nat), (∀ b o, s.heap.get? b = some o → h'.get? b = some o) → EP X pins σ Q (.str d.shown t) { s with heap := h', toks := tk } := fun h' t tk hk => ⟨.str _, H, I.kept hk, ⟨_, rfl⟩, q⟩
  cases hd with
  | non =>
    cases ru
    simp only [PyData.shown] at fin
    exact P.repr_of_none (fin s.heap _ _ fun _ _ e => e)
  | bl b =>
    cases ru
    simp only [PyData.shown] at fin
    exact P.repr_of_bool (fin s.heap _ _ fun _ _ e => e)
  | int i =>
    obtain ⟨t, rfl⟩ := ru
    simp only [PyData.shown] at fin
    exact P.repr_of_int (by simpa [PyData.showable] using h1) (fin s.heap _ _ fun _ _ e => e)
  | str x =>
    obtain ⟨t, rfl⟩ := ru
    simp only [PyData.shown] at fin h4
    exact P.repr_of_str (fin s.heap _ _ fun _ _ e => e) h4
  | @lst a ys ds hl ha =>
    cases ru
    obtain ⟨its, rv, ⟨o, n, ho, hc, _, hd⟩, _⟩ := I.list hl
    simp only [PyData.shown] at h4 fin
    simp only [PyData.showable] at h1
    simp only [PyData.depth] at h2
    obtain ⟨⟨as, hr⟩, bs, hb, hk⟩ := DeAll.shows I ds _ its ha rv h1 fun t ht => Nat.le_trans (listText_mem_le ht) h4
    have r1 : Reads s.heap _ (.list ds) _ := .list ho hc hd hr
    have na := not_mem_of_deeper r1 (show PyData.depthAll ds < PyData.depth (.list ds) by simp only [PyData.depth]; omega) hb
    refine call_repr_slot (by omega) ⟨o, ho, hc⟩ PySem.F.slot_list_repr.toG ?_
    cases its with
    | nil =>
      cases hr
      simp only [PyData.shownAll, listText_nil] at fin
      exact call_list_repr_empty ⟨o, ho, hc⟩ ho hd ⟨_, _, rfl, fin s.heap _ _ fun _ _ e => e⟩
    | cons y l => exact call_list_reprK ho hc hd na (by simpa using hk.length_eq) (fun i y e => hk.item i y (by simpa using e)) g (fun b _ => Clear.nil b) (by show X.A.units + 1 + _ < cLine; omega) (fun _ _ e => e) (fun h' u tk k => ⟨_, _, rfl, fin h' u tk k⟩) h4
  | @tup a ys ds hl ha =>
    cases ru
    obtain ⟨its, rv, ⟨o, ho, hc, n, hd⟩, _⟩ := I.tuple hl
    simp only [PyData.shown] at h4 fin
    simp only [PyData.showable] at h1
    simp only [PyData.depth] at h2
    obtain ⟨⟨as, hr⟩, bs, hb, hk⟩ := DeAll.shows I ds _ its ha rv h1 fun t ht => Nat.le_trans (tupleText_mem_le ht) h4
    have r1 : Reads s.heap _ (.tuple ds) _ := .tuple ho hc hd hr
    have na := not_mem_of_deeper r1 (show PyData.depthAll ds < PyData.depth (.tuple ds) by simp only [PyData.depth]; omega) hb
    refine call_repr_slot (by omega) ⟨o, ho, hc⟩ PySem.F.slot_tuple_repr ?_
    exact call_tuple_reprK ho hc hd na hk g (fun b _ => Clear.nil b) (by show X.A.units + 1 + _ < cLine; omega) (fun _ _ e => e) (fun h' u tk k => ⟨_, _, rfl, fin h' u tk k⟩) h4
  | dic e =>
    cases ru
    obtain ⟨hsys, o, n, ho, hc, hd⟩ := empty_dict I e
    simp only [PyData.shown, PyData.shownKv] at h4 fin
    refine call_repr_slot (by omega) ⟨o, ho, hc⟩ PySem.F.slot_dict_repr ?_
    exact call_dict_reprK (as := []) (d := 0) ho hc hd hsys List.not_mem_nil .nil g (fun b _ => Clear.nil b) (by show X.A.units + 1 + _ < cLine; omega) (fun _ _ e => e) (fun h' u tk k => ⟨_, _, rfl, fin h' u tk k⟩) h4
end
/-! ### what is shown stays so, its type, its size -/
section
variable {K : PySem.W.Frag} {H H' : Hp} {Q : VK}
mutual
theorem De.ex (e : Ex H H') : ∀ (d : PyData) (v : V), De K H v d → De K H' v d
  | .none, _, h => by cases h; exact .non
  | .bool _, _, h => by cases h; exact .bl _
  | .int _, _, h => by cases h; exact .int _
  | .str _, _, h => by cases h; exact .str _
  | .dict _, _, h => by
    cases h with
    | dic h1 => exact .dic (e _ _ h1)
  | .list ds, _, h => by
    cases h with
    | lst h1 h2 => exact .lst (ex_l e h1) (DeAll.ex e ds _ h2)
  | .tuple ds, _, h => by
    cases h with
    | tup h1 h2 => exact .tup (ex_t e h1) (DeAll.ex e ds _ h2)
theorem DeAll.ex (e : Ex H H') : ∀ (ds : List PyData) (vs : List V), DeAll K H vs ds → DeAll K H' vs ds
  | [], _, h => by cases h; exact .nil
  | d :: ds, _, h => by
    cases h with
    | cons h1 h2 => exact .cons (De.ex e d _ h1) (DeAll.ex e ds _ h2)
end
theorem De.ty {v : V} {d : PyData} (h : De K H v d) : TyX K H v (.type (tyn d)) := by
  cases h with
  | non => exact .base .non
  | bl b => exact .base (.bl b)
  | int i => exact .base (.int i)
  | str x => exact .base (.str x)
  | lst h _ => exact tyx_l h
  | tup h _ => exact tyx_t h
  | dic h => exact .base (.dK h)
theorem de_ints (ns : List Int) : DeAll K H (ns.map V.int) (ns.map PyData.int) := by
  induction ns with
  | nil => exact .nil
  | cons n ns ih => exact .cons (.int n) ih
theorem DeAll.len {vs : List V} {ds : List PyData} (h : DeAll K H vs ds) : vs.length = ds.length := by
  induction ds generalizing vs with
  | nil => cases h; rfl
  | cons d ds ih =>
    cases h with
    | cons _ h2 => simp [ih h2]
theorem DeAll.at {vs : List V} {ds : List PyData} (h : DeAll K H vs ds) {i : Nat} {v : V} (hv : vs[i]? = some v) : ∃ d, ds[i]? = some d ∧ De K H v d := by
  induction ds generalizing vs i with
  | nil => cases h; simp at hv
  | cons d ds ih =>
    cases h with
    | cons h1 h2 =>
      cases i with
      | zero => cases hv; exact ⟨d, rfl, h1⟩
      | succ i => exact ih h2 (by simpa using hv)
theorem DeAll.app {vs ws : List V} {ds es : List PyData} (h : DeAll K H vs ds) (g : DeAll K H ws es) : DeAll K H (vs ++ ws) (ds ++ es) := by
  induction ds generalizing vs with
  | nil => cases h; exact g
  | cons d ds ih =>
    cases h with
    | cons h1 h2 => exact .cons h1 (ih h2)
/-- shown in few signs -/
structure Gd (n W : Nat) (d : PyData) : Prop where
  s : d.showable = true
  l : d.leavesShort 40 = true
  dp : d.depth ≤ n
  w : d.weight ≤ W
theorem Gd.mono {n W n2 W2 : Nat} {d : PyData} (h : Gd n W d) (a : n ≤ n2) (b : W ≤ W2) : Gd n2 W2 d := ⟨h.s, h.l, Nat.le_trans h.dp a, Nat.le_trans h.w b⟩
theorem Gd.non : Gd 0 0 .none := ⟨rfl, rfl, Nat.le_refl _, Nat.le_refl _⟩
theorem Gd.bl (b : Bool) : Gd 0 0 (.bool b) := ⟨rfl, rfl, Nat.le_refl _, Nat.le_refl _⟩
theorem Gd.dic : Gd 1 0 (.dict []) := ⟨by simp [PyData.showable, PyData.showableKv], by simp [PyData.leavesShort, PyData.leavesShortKv], by simp [PyData.depth, PyData.depthKv], by simp [PyData.weight, PyData.weightKv]⟩
theorem Gd.int {i : Int} (h : i.natAbs < 10 ^ 38) : Gd 0 130 (.int i) := by
  have h2 : i.natAbs < 2 ^ 130 := Nat.lt_trans h (by decide +kernel)
  have hl : i.natAbs.log2 < 130 := log2_small (by decide) h2
  refine ⟨?_, ?_, Nat.le_refl _, ?_⟩
  · show decide (i.natAbs.log2 < 1920) = true
    exact decide_eq_true (by omega)
  · show decide ((PyData.shown (.int i)).length ≤ 40) = true
    refine decide_eq_true ?_
    have e := int_text_length_le10 (k := 38) (by decide) h
    simp only [PyData.shown]
    rw [show ((toString i : String) : Str).length = (toString i).length from PySem.ofString_length _]
    omega
  · simp only [PyData.weight]
    split
    · omega
    · omega
theorem Gd.str {x : Str} (h : (PyData.str x).leavesShort 40 = true) : Gd 0 x.cps.size (.str x) := ⟨rfl, h, Nat.le_refl _, by simp only [PyData.weight]; exact Nat.le_refl _⟩
theorem gd_all {ds : List PyData} {n W : Nat} (h : ∀ d ∈ ds, Gd n W d) : PyData.showableAll ds = true ∧ PyData.leavesShortAll 40 ds = true ∧ PyData.depthAll ds ≤ n ∧ PyData.weightAll ds ≤ (W + 1) * ds.length := by
  induction ds with
  | nil => exact ⟨rfl, rfl, Nat.zero_le _, Nat.zero_le _⟩
  | cons d ds ih =>
    have a := h d List.mem_cons_self
    obtain ⟨b1, b2, b3, b4⟩ := ih fun e m => h e (List.mem_cons_of_mem _ m)
    have := a.dp
    have := a.w
    simp only [PyData.showableAll, PyData.leavesShortAll, PyData.depthAll, PyData.weightAll, List.length_cons, Nat.mul_add, a.s, a.l, b1, b2, Bool.and_self]
    exact ⟨trivial, trivial, by omega, by omega⟩
theorem Gd.list {ds : List PyData} {n W : Nat} (h : ∀ d ∈ ds, Gd n W d) : Gd (n + 1) ((W + 1) * ds.length) (.list ds) := by
  obtain ⟨b1, b2, b3, b4⟩ := gd_all h
  exact ⟨by simp only [PyData.showable]; exact b1, by simp only [PyData.leavesShort]; exact b2, by simp only [PyData.depth]; omega, by simp only [PyData.weight]; exact b4⟩
theorem Gd.tuple {ds : List PyData} {n W : Nat} (h : ∀ d ∈ ds, Gd n W d) : Gd (n + 1) ((W + 1) * ds.length) (.tuple ds) := by
  obtain ⟨b1, b2, b3, b4⟩ := gd_all h
  exact ⟨by simp only [PyData.showable]; exact b1, by simp only [PyData.leavesShort]; exact b2, by simp only [PyData.depth]; omega, by simp only [PyData.weight]; exact b4⟩
theorem Gd.fits {n W : Nat} {d : PyData} (h : Gd n W d) (hW : W ≤ 370000) : d.shown.length ≤ sizeLine := by
  have a := PyData.shown_le 40 (by decide) d h.l
  have b := h.w
  rw [sizeLine_eq]
  omega
theorem reprA {v : V} {d : PyData} {n W : Nat} (h : De K H v d) (g : Gd n W d) (hn : n ≤ 60) (hW : W ≤ 370000) (q : Q (.str d.shown) H) : rReprA K [v] H Q :=
  ⟨v, d, rfl, h, g.s, Nat.le_trans g.dp hn, g.fits hW, q⟩
end
/-! ### values that are shown in few signs; one address hidden -/
def hidB (b : Addr) (H : Hp) : Hp := fun a => if a = b then none else H a
theorem hid_ex {b : Addr} {H : Hp} : Ex (hidB b H) H := fun a o h => by
  unfold hidB at h
  split at h
  · cases h
  · exact h
theorem hid_ne {b a : Addr} {H : Hp} (n : a ≠ b) : hidB b H a = H a := by
  unfold hidB
  rw [if_neg n]
theorem hid_fx {b : Addr} {H H' : Hp} (f : Fx b H H') : Ex (hidB b H) (hidB b H') := fun a o h => by
  unfold hidB at h ⊢
  by_cases e : a = b
  · rw [if_pos e] at h; cases h
  · rw [if_neg e] at h ⊢
    exact f a o e h
theorem hid_of {b : Addr} {H H' : Hp} (e : Ex H H') : Ex (hidB b H) (hidB b H') := hid_fx (fun a o _ h => e a o h)
def Sv (K : PySem.W.Frag) (H : Hp) (n W : Nat) (v : V) : Prop := ∃ d, De K H v d ∧ Gd n W d
section
variable {K : PySem.W.Frag} {H H' : Hp} {Q : VK} {n W : Nat} {v : V}
theorem Sv.ex (h : Sv K H n W v) (e : Ex H H') : Sv K H' n W v := by
  obtain ⟨d, a, g⟩ := h
  exact ⟨d, De.ex e d v a, g⟩
theorem Sv.mono {n2 W2 : Nat} (h : Sv K H n W v) (a : n ≤ n2) (b : W ≤ W2) : Sv K H n2 W2 v := by
  obtain ⟨d, x, g⟩ := h
  exact ⟨d, x, g.mono a b⟩
theorem Sv.non : Sv K H n W .non := ⟨_, .non, Gd.non.mono (Nat.zero_le _) (Nat.zero_le _)⟩
theorem Sv.bl (b : Bool) : Sv K H n W (.bl b) := ⟨_, .bl b, (Gd.bl b).mono (Nat.zero_le _) (Nat.zero_le _)⟩
theorem Sv.int {i : Int} (h : i.natAbs < 10 ^ 38) (hW : 130 ≤ W) : Sv K H n W (.int i) := ⟨_, .int i, (Gd.int h).mono (Nat.zero_le _) hW⟩
theorem Sv.str {x : Str} (h : (PyData.str x).leavesShort 40 = true) (hW : x.cps.size ≤ W) : Sv K H n W (.str x) := ⟨_, .str x, (Gd.str h).mono (Nat.zero_le _) hW⟩
theorem Sv.dic {a : Addr} (h : H a = some (.dK [])) (hn : 1 ≤ n) : Sv K H n W (.ref a) := ⟨_, .dic h, Gd.dic.mono hn (Nat.zero_le _)⟩
theorem sv_all {xs : List V} (h : ∀ x ∈ xs, Sv K H n W x) : ∃ ds, DeAll K H xs ds ∧ (∀ d ∈ ds, Gd n W d) ∧ ds.length = xs.length := by
  induction xs with
  | nil => exact ⟨[], .nil, (fun _ m => nomatch m), rfl⟩
  | cons x xs ih =>
    obtain ⟨d, a, g⟩ := h x List.mem_cons_self
    obtain ⟨ds, b, c, l⟩ := ih fun y m => h y (List.mem_cons_of_mem _ m)
    refine ⟨d :: ds, .cons a b, fun e m => ?_, by simp [l]⟩
    rcases List.mem_cons.mp m with rfl | m
    · exact g
    · exact c e m
theorem Sv.lst {a : Addr} {xs : List V} {W2 n2 : Nat} (h : SqL K H a xs) (hx : ∀ x ∈ xs, Sv K H n W x) (hn : n + 1 ≤ n2) (hW : (W + 1) * xs.length ≤ W2) : Sv K H n2 W2 (.ref a) := by
  obtain ⟨ds, b, c, l⟩ := sv_all hx
  exact ⟨.list ds, .lst h b, (Gd.list c).mono hn (by rw [l]; exact hW)⟩
theorem Sv.tup {a : Addr} {xs : List V} {W2 n2 : Nat} (h : SqT K H a xs) (hx : ∀ x ∈ xs, Sv K H n W x) (hn : n + 1 ≤ n2) (hW : (W + 1) * xs.length ≤ W2) : Sv K H n2 W2 (.ref a) := by
  obtain ⟨ds, b, c, l⟩ := sv_all hx
  exact ⟨.tuple ds, .tup h b, (Gd.tuple c).mono hn (by rw [l]; exact hW)⟩
theorem sv_ints {ns : List Int} (h : ∀ i ∈ ns, i.natAbs < 10 ^ 38) (hW : 130 ≤ W) : ∀ x ∈ ns.map V.int, Sv K H n W x := fun x m => by
  obtain ⟨i, hi, rfl⟩ := List.mem_map.mp m
  exact .int (h i hi) hW
end
/-- a part of a list of numbers is one -/
theorem cut_ints (ns : List Int) (lo hi : Option Int) : ∃ ms : List Int, cutV (ns.map V.int) lo hi = ms.map V.int ∧ ms.length ≤ ns.length ∧ ∀ m ∈ ms, m ∈ ns := by
  have h : ∀ xs : List V, (∀ x ∈ xs, x ∈ ns.map V.int) → ∃ ms : List Int, xs = ms.map V.int ∧ ∀ m ∈ ms, m ∈ ns := fun xs => by
    induction xs with
    | nil => exact fun _ => ⟨[], rfl, fun _ m => nomatch m⟩
    | cons x xs ih =>
      intro hx
      obtain ⟨i, hi, rfl⟩ := List.mem_map.mp (hx x List.mem_cons_self)
      obtain ⟨ms, rfl, hm⟩ := ih fun y m => hx y (List.mem_cons_of_mem _ m)
      refine ⟨i :: ms, rfl, fun m e => ?_⟩
      rcases List.mem_cons.mp e with rfl | e
      · exact hi
      · exact hm m e
  obtain ⟨ms, e, hm⟩ := h _ fun x m => cutV_mem m
  refine ⟨ms, e, ?_, hm⟩
  have := cutV_len (ns.map V.int) lo hi
  rw [e, List.length_map, List.length_map] at this
  exact this
/-! ### new things with the heap left closed -/
section
variable {K : PySem.W.Frag} {H : Hp} {Q : VK}
theorem newE {o : HO} (q : ∀ (p : Addr) (H' : Hp), H p = none → Ex H H' → H' p = some o → Q (.ref p) H') : ∀ p, H p = none → Q (.ref p) (upd H p o) := fun p np => q p _ np (Ex.new np) upd_same
theorem slE {a : Addr} {lo hi : Option Int} {row : List Int} (h : SqL K H a (row.map V.int)) (q : ∀ (p : Addr) (H' : Hp) (ms : List Int), H p = none → Ex H H' → H' p = some (.lst (ms.map V.int)) → ms.length ≤ row.length → (∀ m ∈ ms, m ∈ row) → Q (.ref p) H') : rSlL K (.ref a) lo hi H Q := by
  obtain ⟨ms, e, l, i⟩ := cut_ints row lo hi
  refine slL h fun z nz => ?_
  rw [e]
  exact q z _ ms nz (Ex.new nz) upd_same l i
theorem slXE {a : Addr} {lo hi : Option Int} {xs : List V} (h : SqL K H a xs) (q : ∀ (p : Addr) (H' : Hp) (ys : List V), H p = none → Ex H H' → H' p = some (.lst ys) → ys = cutV xs lo hi → ys.length ≤ xs.length → (∀ m ∈ ys, m ∈ xs) → Q (.ref p) H') : rSlL K (.ref a) lo hi H Q :=
  slL h fun z nz => q z _ _ nz (Ex.new nz) upd_same rfl (cutV_len _ _ _) fun m hm => cutV_mem hm
theorem catE {a b : Addr} {xs ys : List V} (h : H a = some (.lst xs)) (hb : H b = some (.lst ys)) (hz : xs.length + ys.length ≤ 100000) (q : ∀ (p : Addr) (H' : Hp), H p = none → Ex H H' → H' p = some (.lst (xs ++ ys)) → Q (.ref p) H') : rCat (.ref a) (.ref b) H Q :=
  catL h hb (sz_ok hz) (newE q)
theorem repE {a : Addr} {xs : List V} {k : Nat} (h : H a = some (.lst xs)) (hk : k ≤ 100000) (hz : xs.length * k ≤ 100000) (q : ∀ (p : Addr) (H' : Hp), H p = none → Ex H H' → H' p = some (.lst (List.replicate k xs).flatten) → Q (.ref p) H') : rRep (.ref a) (.int k) H Q :=
  repL h (by omega) (by omega) (sz_ok (by simpa using hz)) (by simpa using newE q)
theorem lstE {xs : List V} (hz : xs.length ≤ 100000) (q : ∀ (p : Addr) (H' : Hp), H p = none → Ex H H' → H' p = some (.lst xs) → Q (.ref p) H') : xs.length ≤ sizeLine ∧ ∀ p, H p = none → Q (.ref p) (upd H p (.lst xs)) := ⟨sz_ok hz, newE q⟩
theorem tupE {xs : List V} (hz : xs.length ≤ 100000) (q : ∀ (p : Addr) (H' : Hp), H p = none → Ex H H' → H' p = some (.tup xs) → Q (.ref p) H') : xs.length ≤ sizeLine ∧ ∀ p, H p = none → Q (.ref p) (upd H p (.tup xs)) := ⟨sz_ok hz, newE q⟩
end
end BC

set_option Elab.async false
set_option linter.all false
set_option maxRecDepth 100000
set_option maxHeartbeats 4000000
/-! a caught exception as a tracked object: in its suite, behind it, and handed to defs -/
namespace BC
open PySem PySem.Spec PyProof.Rows L2
/-- an exception's object: its class, its dict -/
def ExT (cls : Value) (d : Option Addr) (a : Addr) : HO := .ext fun h => ∃ (ob : Obj) (fs : Array Value), h.get? a = some ob ∧ Zc cls d ob ∧ ob.data = .fields fs
theorem exT_ok {P : Program} {w : World} {H : Hp} {h : Heap} {a : Addr} {cls : Value} {d : Option Addr} {ob : Obj} {fs : Array Value} (e : h.get? a = some ob) (z : Zc cls d ob) (f : ob.data = .fields fs) : ObjOk P w H h a (ExT cls d a) := by
  refine ⟨⟨ob, fs, e, z, f⟩, ⟨ob, e⟩, ?_⟩
  rintro h1 h2 ⟨o2, f2, e2, z2, q2⟩ k
  exact ⟨o2, f2, k _ e2, z2, q2⟩
/-- at a stands an exception of this class, without a dict -/
def IsEx (H : Hp) (a : Addr) (cls : Value) : Prop := ∃ φ : Heap → Prop, H a = some (.ext φ) ∧ ∀ h, φ h → ∃ (ob : Obj) (fs : Array Value), h.get? a = some ob ∧ Zc cls none ob ∧ ob.data = .fields fs
theorem isEx_T {H : Hp} {a : Addr} {cls : Value} (h : H a = some (ExT cls none a)) : IsEx H a cls := ⟨_, h, fun _ q => q⟩
theorem isEx_O {H : Hp} {a : Addr} {cls : Value} (h : H a = some (ExO cls a)) : IsEx H a cls := ⟨_, h, fun _ q => by
  obtain ⟨ob, fs, e, z, d, _⟩ := q
  exact ⟨ob, fs, e, z, d⟩⟩
theorem IsEx.at {H H' : Hp} {a : Addr} {cls : Value} (x : IsEx H a cls) (h : ∀ o, H a = some o → H' a = some o) : IsEx H' a cls := by
  obtain ⟨φ, e, q⟩ := x
  exact ⟨φ, h _ e, q⟩
section
variable {X : Cx} {pins : List (Addr × Obj)} {σ : L2.St} {H : Hp} {s : Shared}
/-- an object that stands untracked, younger than the frame, is tracked -/
theorem inv_track {a : Addr} {φ : Heap → Prop} (I : Inv X pins σ H s) (n0 : X.s_0.heap.get? a = none) (na : H a = none) (nL : a ≠ X.env.locals) (nC : ∀ x c, X.env.cells.lookup x = some c → c ≠ a) (nP : ∀ p ∈ X.pn ++ pins, p.1 ≠ a)
    (new : ObjOk X.prog X.w (upd H a (.ext φ)) s.heap a (.ext φ)) : Inv X pins σ (upd H a (.ext φ)) s := by
  have old : ∀ b o, X.s_0.heap.get? b = some o → b ≠ a := by
    rintro b o e rfl
    rw [n0] at e
    cases e
  have trk : ∀ {b : Addr} {o : HO}, H b = some o → b ≠ a := by
    rintro b o e rfl
    rw [na] at e
    cases e
  have frame : upd H a (.ext φ) X.env.locals = none := by rw [upd_ne (Ne.symm nL)]; exact I.free
  have un : Un X.fs X.ex X.H_0 (upd H a (.ext φ)) X.s_0.heap s.heap :=
    { keep := I.base.keep
      slot := I.base.slot
      free := fun b o e n x => by rw [upd_ne (old b o e)]; exact I.base.free b o e n x
      there := I.base.there
      tups := fun b xs e => by have q := I.base.tups b xs e; rw [upd_ne (trk q)]; exact q
      frzs := fun b o xs e => by have q := I.base.frzs b o xs e; rw [upd_ne (trk q)]; exact q
      tbls := fun b ps e => by obtain ⟨m, q⟩ := I.base.tbls b ps e; exact ⟨m, by rw [upd_ne (trk q)]; exact q⟩ }
  have held : HOk X.prog X.w (upd H a (.ext φ)) s.heap := by
    intro b u e
    by_cases q : b = a
    · subst q
      rw [upd_same] at e
      cases e
      exact new
    · rw [upd_ne q] at e
      exact (I.hok b u e).stay (fun _ _ _ z => z) (fun c z => by rw [upd_ne (trk z)]; exact z) fun c xs z => by rw [upd_ne (trk z)]; exact z
  exact { ok := I.ok, os := I.os, bare := I.bare, base := un, loc := I.loc, cell := I.cell, free := frame, hok := held, len := I.len
          freeC := fun x c e => by rw [upd_ne (nC x c e)]; exact I.freeC x c e
          pin := fun p hp => by obtain ⟨h1, h2, h3⟩ := I.pin p hp; exact ⟨h1, by rw [upd_ne (nP p hp)]; exact h2, h3⟩ }
/-- into the suite, the exception tracked -/
theorem inv_intoT (I : Inv X pins σ H s) (a : Addr) : Inv (X.suite a (X.pn ++ pins)) [] σ H s :=
  ⟨I.ok.suite a (X.pn ++ pins), I.os, I.bare, I.base, I.loc, I.cell, I.free, I.freeC, fun p hp => I.pin p (by rwa [List.append_nil] at hp), I.hok, I.len⟩
theorem inv_outT {a : Addr} {pn' : List (Addr × Obj)} (I : Inv (X.suite a (X.pn ++ pins)) pn' σ H s) (ok : X.Ok) : Inv X pins σ H s :=
  ⟨ok, I.os, I.bare, I.base, I.loc, I.cell, I.free, I.freeC, fun p hp => I.pin p (List.mem_append_left _ hp), I.hok, I.len⟩
end
/-- the wish of 'except x as n' where the exception is tracked from then on -/
def wTrk (K : PySem.W.Frag) (c : Value) (i : Nat) (ts : Addr → Value → Option Addr → TS) (Wout : WX) (D : Ends) : WX := fun cls d σ H =>
  ∃ b, PySem.W.exmOne K cls c = some b ∧ (b = true → ∀ a, H a = none → ts a cls d { nx := fun σ' H' => D.nx (σ'.set i none) H', rt := D.rt, bk := fun σ' H' => D.bk (σ'.set i none) H', ct := fun σ' H' => D.ct (σ'.set i none) H' } (σ.set i (some (.ref a))) (upd H a (ExT cls d a))) ∧
    (b = false → Wout cls d σ H)
section
variable {X : Cx} {x n : Str} {c : Value} {i : Nat} {body suite : List Stmt} {b0 : Stmt} {np pos hpos : Pos} {tb : WX → TS} {ts : Addr → Value → Option Addr → TS} {Wout : WX}
theorem ps_try_trk (hs : X.stack = X.env :: X.outer) (hf : X.env.frame = some X.env.locals) (hx : X.ex = []) (hN : X.N.Nodup) (hi : X.N[i]? = some n) (hln : X.env.kindOf n = some .local) (hc : Names X x c) (tk : Takes X Wout)
    (hb : ∀ (W : WX) (pn : List (Addr × Obj)) (xe : Value → Shared → Prop), Takes (X.tr pn xe) W → PassesOwn (model X.prog X.w) X.A X.env xe → PSs (X.tr pn xe) body (tb W))
    (hsu : ∀ (a : Addr) (cls : Value) (d : Option Addr) (pn : List (Addr × Obj)), PSs (X.suite a pn) (b0 :: suite) (ts a cls d)) :
    PS X (.Try body [.ExceptHandler (some (.Name x np)) (some n) (b0 :: suite) hpos] [] [] pos) (fun D σ H => tb (wTrk X.K c i ts Wout D) D σ H) := by
  constructor
  intro pins s σ H D I h
  have ok := I.ok
  have frames : X.A.frames = some (X.env :: X.outer) := hs ▸ ok.frames
  let W0 := wTrk X.K c i ts Wout D
  let after := fun (e : Value) (s1 : Shared) => wpAny (model X.prog X.w) X.A (noteFrame e X.env) (fun _ s2 => wpAny (model X.prog X.w) X.A (setFlight e none) (fun _ s3 =>
    wpAny (model X.prog X.w) X.A (handleBy e X.env [.ExceptHandler (some (.Name x np)) (some n) (b0 :: suite) hpos]) (SP X pins D) X.xe s3) X.xe s2) X.xe s1
  have take : Takes (X.tr (X.pn ++ pins) after) W0 := by
    rintro u s' ⟨a, B, sI, pins1, σ1, H1, cls, d, rfl, J0, nb, up, sky, na, os, ag, b, eb, yes, no⟩
    have J : Inv X pins σ1 H1 sI := J0.ofTry ok
    rw [show (X.tr (X.pn ++ pins) after).stack = X.env :: X.outer from hs] at sky
    refine Sky.land (Z := Zc cls d) Zc.steady frames hf sky fun h3 fly3 up3 => ?_
    have J3 : Inv X pins σ1 H1 { s' with heap := h3 } := J.landed nb fly3.1 (up.trans up3) os ag
    obtain ⟨o3, f3, e3, z3, d3⟩ := fly3.there
    have outside : a ∉ frs (X.env :: X.outer) := by
      intro hm
      obtain ⟨_, o', e', no'⟩ := fly3.2.2.1.mem hm
      rw [e3] at e'
      cases e'
      exact no' _ d3
    have gone : sI.heap.get? a = none := by
      cases q : sI.heap.get? a with
      | none => rfl
      | some o =>
        have z := nb a o q (by rw [show (X.tr (X.pn ++ pins) after).stack = X.env :: X.outer from hs]; exact outside)
        rw [fly3.2.1] at z
        cases z
    have n0 : X.s_0.heap.get? a = none := by
      cases q : X.s_0.heap.get? a with
      | none => rfl
      | some o =>
        obtain ⟨o', z⟩ := J.base.there a o q (by rw [hx]; exact List.not_mem_nil)
        rw [gone] at z
        cases z
    have nL : a ≠ X.env.locals := fun z => outside (List.mem_filterMap.mpr ⟨X.env, List.mem_cons_self, by rw [hf, z]⟩)
    have nF : a ∉ X.fs := by
      intro hm
      obtain ⟨e, he, q⟩ := List.mem_filterMap.mp hm
      exact outside (List.mem_filterMap.mpr ⟨e, List.mem_cons_of_mem _ he, q⟩)
    have nC : ∀ y k, X.env.cells.lookup y = some k → k ≠ a := by
      rintro y k e rfl
      obtain ⟨v, o, z, _⟩ := J.cell y k e
      rw [gone] at z
      cases z
    have nP : ∀ p ∈ X.pn ++ pins, p.1 ≠ a := by
      intro p hp q
      have z := (J.pin p hp).1
      rw [q, gone] at z
      cases z
    have S3 := J3.suite e3 d3 na nL nF
    refine wpAny_handleBy_cons (codeAny_handlers_test ?_) (fun q => nomatch q)
    have LT : PySem.W.Looks (model X.prog X.w) h3 (typeOf (.ref a)) cls := fun A Q E s2 k q => wpAny_typeOf_ref (k _ _ e3) (by rw [z3.1]; exact q)
    have LM := PySem.W.exm_one (M := model X.prog X.w) (J3.kIn) LT eb
    have asked : ∀ {Q : Value → Shared → Prop} {E : Value → Shared → Prop}, Q c { s' with heap := h3 } → wpAny (model X.prog X.w) (X.A.mark (some (.ref a))) (eval (.Name x np) X.env) Q E { s' with heap := h3 } := by
      intro Q E q
      obtain ⟨hg, hdb, hm | ⟨hm, hv, hnn⟩⟩ := hc
      · exact ld_glob (X := X.suite a ((a, o3) :: (X.pn ++ pins))) S3 hg hm q hdb
      · exact ld_blt (X := X.suite a ((a, o3) :: (X.pn ++ pins))) S3 hg hm hv q hnn hdb
    refine asked (LM.here ?_)
    cases b with
    | false =>
      show wpAny _ X.A (handleBy (.ref a) X.env []) _ _ _
      refine wpAny_handleBy_nil ?_
      obtain ⟨_, _, _, ob, vs, T, oT, tt, he, hz, hd, h1, hr⟩ := id fly3
      have fin : wpAny (model X.prog X.w) X.A (setFlight (.ref a) X.env.frame) (fun _ s4 => wpAny (model X.prog X.w) X.A (throw (.ref a) : Sem Flow) (SP X pins D) X.xe s4) X.xe { s' with heap := h3 } := by
        rw [hf]
        refine HandSPX.setFlight_upZ fly3 fun h4 held up4 => wpAny_throw (tk _ _ ?_)
        exact ⟨a, B, sI, pins, σ1, H1, cls, d, rfl, J, by rw [hs]; rw [show (X.tr (X.pn ++ pins) after).stack = X.env :: X.outer from hs] at nb; exact nb, (up.trans up3).trans up4, .inr (.inr (by rw [hs]; exact held)), na, os, ag, no rfl⟩
      unfold PySem.passOn
      refine wpAny_bind (wpAny_field he hd h1 ?_)
      rw [if_neg (by simp : ¬ ((Value.ref T == Value.none) = true))]
      first
        | exact wpAny_bind fin
        | exact wpAny_bind (wpAny_pure (wpAny_bind fin))
    | true =>
      refine codeAny_handlers_suite_as ?_
      refine HandSPX.lands_againZ fly3 fun h4 fly4 up4 => ?_
      have J4 : Inv X pins σ1 H1 { s' with heap := h4 } := J.landed nb fly4.1 ((up.trans up3).trans up4) os ag
      obtain ⟨o4, f4, e4, z4, d4⟩ := fly4.there
      have T4 : Inv X pins σ1 (upd H1 a (ExT cls d a)) { s' with heap := h4 } := inv_track J4 n0 na nL nC nP (exT_ok e4 z4 d4)
      refine store_ok (X := X.suite a (X.pn ++ pins)) (v := .ref a) (inv_intoT T4 a) hN hi (.inl hln) rfl (fun s5 S5 => ?_) (.inr hln)
      refine wpAny_mono ((hsu a cls d (X.pn ++ pins)).run [] s5 _ _ _ S5 (yes rfl a na)) (fun fl s6 res => ?_) fun _ _ z => z.elim
      have close : ∀ {σ6 : L2.St} {H6 : Hp} {Q : Shared → Prop}, Inv (X.suite a (X.pn ++ pins)) [] σ6 H6 s6 → (∀ s7, Inv X pins (σ6.set i none) H6 s7 → Q s7) →
          wpAny (model X.prog X.w) X.A (do bindName X.env n .none; unbindBehindTheSuite X.env n hpos) (fun _ s7 => Q s7) X.xe s6 := fun S6 q => gone_ok (inv_outT S6 ok) hN hi hln q
      match fl, res with
      | .next, res =>
        obtain ⟨σ6, H6, S6, q6⟩ := res
        exact close S6 fun s7 J7 => ⟨_, _, J7, q6⟩
      | .brk, res =>
        obtain ⟨σ6, H6, S6, q6⟩ := res
        exact close S6 fun s7 J7 => ⟨_, _, J7, q6⟩
      | .cont, res =>
        obtain ⟨σ6, H6, S6, q6⟩ := res
        exact close S6 fun s7 J7 => ⟨_, _, J7, q6⟩
      | .ret u, res =>
        obtain ⟨v6, σ6, H6, S6, r6, q6⟩ := res
        exact close S6 fun s7 J7 => ⟨_, _, _, J7, r6, q6⟩
  refine wpAny_Try_except (wpAny_mono ((hb W0 (X.pn ++ pins) after take PassesOwn.looking).run [] s σ H D (I.toTry _) h) (fun fl s1 res => ?_) fun e s1 he => he)
  match fl, res with
  | .next, res =>
    obtain ⟨σ2, H2, J2, q⟩ := res
    exact wpAny_execs_nil ⟨σ2, H2, J2.ofTry ok, q⟩
  | .brk, res =>
    obtain ⟨σ2, H2, J2, q⟩ := res
    exact ⟨σ2, H2, J2.ofTry ok, q⟩
  | .cont, res =>
    obtain ⟨σ2, H2, J2, q⟩ := res
    exact ⟨σ2, H2, J2.ofTry ok, q⟩
  | .ret u, res =>
    obtain ⟨v, σ2, H2, J2, r, q⟩ := res
    exact ⟨v, σ2, H2, J2.ofTry ok, r, q⟩
end
/-! ### isinstance of a tracked exception -/
/-- isinstance(e, C) -/
def rIsX (K : PySem.W.Frag) : List V → Hp → VK → Prop := fun xs H Q => ∃ (a D : Addr) (c : V) (cv : Value) (b : Bool), xs = [.ref a, c] ∧ IsEx H a (.ref D) ∧ ExcC K D ∧ ClsV c cv ∧ PySem.W.kitOne K (.ref D) cv = some b ∧ Q (.bl b) H
/-- isinstance(e, (C1, C2, ..)) -/
def rIsXT (K : PySem.W.Frag) : List V → Hp → VK → Prop := fun xs H Q => ∃ (a D tp : Addr) (cs : List V) (us : List Value) (b : Bool), xs = [.ref a, .ref tp] ∧ IsEx H a (.ref D) ∧ ExcC K D ∧ H tp = some (.tup cs) ∧ Paired ClsV cs us ∧ PySem.W.kitAny K (.ref D) us = some b ∧ Q (.bl b) H
section
variable {X : Cx} {K : PySem.W.Frag}
theorem isx_at {pins : List (Addr × Obj)} {σ : L2.St} {H : Hp} {s : Shared} {a D : Addr} (I : Inv X pins σ H s) (x : IsEx H a (.ref D)) : ∃ ob, PySem.W.InstAt s.heap a ob D none := by
  obtain ⟨φ, e, q⟩ := x
  obtain ⟨ob, fs, e1, ⟨z1, z2⟩, d1⟩ := q _ (I.hok a _ e).1
  obtain ⟨oc, od, dt, sl⟩ := ob
  dsimp only at z1 z2 d1
  subst z1 z2 d1
  exact ⟨_, e1, rfl, rfl, trivial⟩
theorem k_isX (hK : X.K = K) : CallR X (.builtin "isinstance") (rIsX K) := by
  subst hK
  intro pins s σ H xs us Q I r h
  obtain ⟨a, D, c, cv, b, rfl, x, C, k, e, q⟩ := h
  obtain ⟨u1, u2, rfl, r1, r2⟩ := vals2 r
  obtain rfl : u1 = Value.ref a := r1
  obtain rfl := k.eq r2
  obtain ⟨ob, J⟩ := isx_at I x
  exact PySem.W.kia_one (PySem.W.handS_kitx_exc C.hg C.hk C.hs C.hd C.ha C.hn C.ht C.hm) I.kIn J e (fun z => nomatch z) fun tk => ⟨.bl b, H, I.tok tk, rfl, q⟩
theorem k_isXT (hK : X.K = K) : CallR X (.builtin "isinstance") (rIsXT K) := by
  subst hK
  intro pins s σ H xs us Q I r h
  obtain ⟨a, D, tp, cs, ws, b, rfl, x, C, hT, k, e, q⟩ := h
  obtain ⟨u1, u2, rfl, r1, r2⟩ := vals2 r
  obtain rfl : u1 = Value.ref a := r1
  obtain rfl : u2 = Value.ref tp := r2
  obtain ⟨ob, J⟩ := isx_at I x
  obtain ⟨_, its, rv, o, h1, h2, m, h3⟩ := (I.hok tp _ hT : ObjOk X.prog X.w H s.heap tp (.tup cs))
  obtain rfl := ClsV.all k rv
  obtain ⟨oc, od, dt, sl⟩ := o
  dsimp only at h2 h3
  subst h2 h3
  exact PySem.W.kia_tup (PySem.W.handS_kitx_exc C.hg C.hk C.hs C.hd C.ha C.hn C.ht C.hm) I.kIn J h1 e (fun z => nomatch z) fun tk => ⟨.bl b, H, I.tok tk, rfl, q⟩
end
/-! ### defs that may be called while an exception is handled -/
structure FnU (P : Program) (w : World) (K : PySem.W.Frag) (mg : Str → Option Value) (base : Heap) (k : Nat) (f : Addr) (fd : FuncData) (ps : List Str) (sp : Sp) : Prop where
  size : ∀ vs H Q E, sp vs H Q E → vs.length = ps.length
  go : ∀ (A : Around) (outer : List Env) (s : Shared) (H : Hp) (args : Args) (us : List Value) (vs : List V) (Q : VK) (E : XK), L2H.RoomH k A → Env0 P w K mg base A outer s H →
    BindsTo s fd args (ps.zip us) → Vals vs us → sp vs H Q E → codeAny (model P w) A (.call (.ref f) args) (CR CX0 outer P w H s Q E) s
/-- the context of such a def's body -/
def cxU (P : Program) (w : World) (K : PySem.W.Frag) (mg : Str → Option Value) (base : Heap) (N : List Str) (qual : Str) (scope : Scope) (f : Addr) (cd : Value) (A : Around) (outer : List Env) (s : Shared) (H : Hp) (E : XK) : Cx :=
  { cxOf CX0 P w K mg base N qual scope f cd A outer s H E with calm := false }
section
variable {P : Program} {w : World} {K : PySem.W.Frag} {mg : Str → Option Value} {base : Heap} {k : Nat} {f : Addr} {fd : FuncData} {ps : List Str} {sp : Sp}
theorem fun_okU {x qual : Str} {st : Stmt} {N : List Str} (F : Fun K x qual st f fd) (S : FnScope N ps (defScope st)) (size : ∀ vs H Q E, sp vs H Q E → vs.length = ps.length)
    (body : ∀ (cdv : Value) (A : Around) (outer : List Env) (s : Shared) (H : Hp) (vs : List V) (Q : VK) (E : XK), L2H.RoomH k (A.deeper (envOfC qual (defScope st) s.heap.objs.size f cdv)) → sp vs H Q E →
      ∃ t, PSs (cxU P w K mg base N qual (defScope st) f cdv A outer s H E) (defBody st) t ∧ t { nx := fun _ H' => Q .non H', rt := Q } (start N vs) H) : FnU P w K mg base (k + 1) f fd ps sp := by
  obtain ⟨oc, od, kV, doc, pm, an, cdv, ct, osl, rfl, lk, hcd⟩ := F.ex
  refine ⟨size, fun A outer s H args us vs Q E room env bind vals prom => ?_⟩
  have inK : K.In s.heap := env.mod.kin.keeps fun b o q => (env.bs b o q).1
  have loose : s.heap.NoLimit := env.mod.nolimit.keeps fun b o q => (env.bs b o q).1
  have kinds : ∀ z ∈ ps.zip us, (defScope st).names.lookup z.1 = some .local ∨ ((defScope st).names.lookup z.1 = some .cell ∧ ((cellsFrom (s.heap.objs.size + 1) (defScope st).names []).lookup z.1).isSome = true) := by
    rintro ⟨n, v⟩ hz
    have hn := (List.of_mem_zip hz).1
    rcases S.par n hn with h | h
    · exact Or.inl h
    · exact Or.inr ⟨h, PySem.W.cellsFrom_some _ _ _ (Or.inl h)⟩
  refine codeAny_call_function room.depth (inK _ _ lk) rfl S.co S.gen rfl (PySem.W.codeRec_of inK hcd) (bind _ _ _ _ ?_)
  refine wpAny_newFunctionEnv_cells S.kind kinds fun env' e1 s1 into => ?_
  subst e1
  refine ⟨loose.keeps into.toInCall.keep, codeAny_func ?_⟩
  obtain ⟨t, deriv, read⟩ := body cdv A outer s H vs Q E (room.deeper _) prom
  have env1 : Env0 P w K mg base { A with handled := none } outer s H := ⟨env.frames, env.mod, env.bs, env.bsz, env.funs, env.frf, env.hok, env.bare⟩
  have I0 := inv_start (CX := CX0) (E := E) (A := { A with handled := none }) S rfl env1 (size _ _ _ _ prom) vals into
  have I : Inv (cxU P w K mg base N qual (defScope st) f cdv A outer s H E) [] (start N vs) H s1 :=
    ⟨⟨I0.ok.mod, I0.ok.kind, I0.ok.glob, I0.ok.blt, I0.ok.above, I0.ok.inj, I0.ok.has, I0.ok.cab, (fun z => absurd (show false = true from z) Bool.false_ne_true), I0.ok.frames, I0.ok.stk, I0.ok.exf, I0.ok.bs, I0.ok.bsz, I0.ok.noex, I0.ok.exfs, I0.ok.funs, I0.ok.frf⟩,
      I0.os, I0.bare, I0.base, I0.loc, I0.cell, I0.free, I0.freeC, I0.pin, I0.hok, I0.len⟩
  refine wpAny_mono (deriv.run [] s1 (start N vs) H _ I read) (fun flow s' ends => ?_) fun _ _ q => q
  have done : ∀ {σ2 : L2.St} {H2 : Hp} {v : V} {u : Value}, Inv (cxU P w K mg base N qual (defScope st) f cdv A outer s H E) [] σ2 H2 s' → RelV v u → Q v H2 → CE outer P w H s Q u s' := by
    intro σ2 H2 v u J rel q
    exact ⟨v, H2, J.os, J.bare, J.base, J.hok, rel, q⟩
  match flow, ends with
  | .ret u, ends =>
    obtain ⟨v, σ2, H2, J, rel, q⟩ := ends
    exact done J rel q
  | .next, ends =>
    obtain ⟨σ2, H2, J, q⟩ := ends
    exact done (v := V.non) (u := Value.none) J rfl q
  | .brk, ends =>
    obtain ⟨_, _, _, q⟩ := ends
    exact q.elim
  | .cont, ends =>
    obtain ⟨_, _, _, q⟩ := ends
    exact q.elim
end
section
variable {X : Cx} {k : Nat} {f : Addr} {fd : FuncData} {ps : List Str} {sp : Sp} {E : XK} {x : Str} {p pos : Pos} {e : Expr} {es : List Expr} {t : TA}
theorem pe_callU (F : FnU X.prog X.w X.K X.mg X.base k f fd ps sp) (hr : L2H.RoomH k X.A) (hg : Gl X x) (hm : X.mg x = some (.ref f)) (hk : PySem.W.keepIn X.K (.ref f) = true) (hb : Binds X.K fd ps []) (hx : Passes CX0 X E)
    (ha : PA X (e :: es) t) (hdb : (x == ("__debug__" : Str)) = false := by decide) (he : starEach (e :: es) X.env = (false, eval e X.env) :: starEach es X.env := by rfl) (hpl : (backTo pos (starEach es X.env)).any (·.1) = false := by rfl) :
    PE X (.Call (.Name x p) (e :: es) [] pos) (tCall sp [] E t) := by
  constructor
  intro pins s σ H Q I h
  have args := ha.run pos pins s σ H _ I h
  refine wpAny_Call_Name_kw (ld_glob I hg hm (PySem.W.callWith_K (h₀ := X.base) I.ok.mod.kin hk (thn args ?_) he hpl) hdb)
  rintro us s1 ⟨vs, H1, I1, r, q⟩
  rw [List.append_nil] at q
  refine ⟨I1.kIn, ?_⟩
  have many : (us ++ []).length = ps.length := by rw [List.append_nil]; exact r.length.symm.trans (F.size _ _ _ _ q)
  have bs := hb s1 us I1.kIn many
  rw [List.append_nil] at bs
  have run := F.go X.A X.stack s1 H1 ⟨us, []⟩ us vs Q E hr I1.env0 bs r q
  refine wpAny_call (codeAny_mono run fun res s' z => ?_)
  match res, z with
  | .error err, z => exact hx pins σ H1 s1 err s' I1 z
  | .ok (.ret u), z => exact I1.after z
end
end BC
namespace BC
open PySem PySem.Spec PyProof.Rows L2
theorem roomM {k : Nat} {A : Around} {v : Option Value} (r : L2H.RoomH k A) : L2H.RoomH k (A.mark v) := ⟨r.dp, r.un⟩
/-- own classes ahead of ValueError's -/
def MroIs (K : PySem.W.Frag) (C : Addr) (l : List Addr) : Prop := ∃ cd, PySem.W.clsIn K C = some cd ∧ cd.mro = l.map Value.ref ++ HandSPX.veTail
theorem own_has {l : List Addr} {D : Addr} : (l.map Value.ref ++ HandSPX.veTail).contains (.ref D) = decide (D ∈ l) := by
  induction l with
  | nil => rfl
  | cons a l ih =>
    rw [List.map_cons, List.cons_append, List.contains_cons, ih]
    by_cases e : D = a
    · subst e; simp
    · have : (Value.ref D == Value.ref a) = false := by simpa using e
      rw [this, Bool.false_or]
      simp [e]
theorem mro_sub {K : PySem.W.Frag} {C : Addr} {l : List Addr} (m : MroIs K C l) (v : Value) : PySem.W.subIn K (.ref C) v = some ((l.map Value.ref ++ HandSPX.veTail).contains v) := by
  obtain ⟨cd, h1, h2⟩ := m
  show PySem.W.mroIn K C v = _
  unfold PySem.W.mroIn
  rw [h1]
  show (if cd.mro.isEmpty = true then none else some (cd.mro.contains v)) = _
  rw [h2, if_neg (by cases l <;> simp [HandSPX.veTail])]
/-- isinstance of own exceptions, among each other -/
theorem kit_own {K : PySem.W.Frag} {C D : Addr} {l l2 : List Addr} (m : MroIs K C l) (m2 : MroIs K D l2) (t : PySem.W.typeIn K (.ref D) = some (.type "type")) (hC : C ∈ l) : PySem.W.kitOne K (.ref C) (.ref D) = some (decide (D ∈ l)) := by
  unfold PySem.W.kitOne
  by_cases e : C = D
  · subst e
    rw [if_pos (by simp), decide_eq_true hC]
  · have : (Value.ref C == Value.ref D) = false := by simpa using e
    rw [this, if_neg Bool.false_ne_true]
    obtain ⟨cd2, k1, _⟩ := id m2
    show (if ((PySem.W.clsIn K D).isSome && PySem.W.typeIn K (.ref D) == some (.type "type")) = true then PySem.W.subIn K (.ref C) (.ref D) else none) = _
    rw [k1, t, if_pos (by rfl), mro_sub m, own_has]
theorem kit_ve {K : PySem.W.Frag} {C : Addr} {l : List Addr} (m : MroIs K C l) : PySem.W.kitOne K (.ref C) (.type "ValueError") = some true := by
  unfold PySem.W.kitOne
  rw [if_neg (by simp)]
  show (if PySem.W.kitMeta "ValueError" = true then PySem.W.subIn K (.ref C) (.type "ValueError") else none) = _
  rw [if_pos (by decide +kernel), mro_sub m]
  congr 1
  clear m
  induction l with
  | nil => rfl
  | cons a l ih => rw [List.map_cons, List.cons_append, List.contains_cons, ih, Bool.or_true]
/-- an own class in an except clause -/
theorem exm_own {K : PySem.W.Frag} {C D : Addr} {l : List Addr} (m : MroIs K C l) (e : ExcC K D) (t : PySem.W.typeIn K (.ref D) = some (.type "type")) : PySem.W.exmOne K (.ref C) (.ref D) = some (decide (D ∈ l)) :=
  PySem.W.exm_ref e.hs e.hd t (by rw [mro_sub m, own_has])
theorem exm_yes {K : PySem.W.Frag} {C D : Addr} {l : List Addr} (m : MroIs K C l) (e : ExcC K D) (t : PySem.W.typeIn K (.ref D) = some (.type "type")) (h : D ∈ l) : PySem.W.exmOne K (.ref C) (.ref D) = some true := by rw [exm_own m e t, decide_eq_true h]
theorem kitAny_cons' {K : PySem.W.Frag} {t c : Value} {cs : List Value} {b r : Bool} (h : PySem.W.kitOne K t c = some b) (hr : PySem.W.kitAny K t cs = some r) : PySem.W.kitAny K t (c :: cs) = some (b || r) := by
  unfold PySem.W.kitAny
  rw [h]
  cases b with
  | true => rfl
  | false => rw [Bool.false_or]; exact hr
section
variable {σ : L2.St} {H : Hp} {Q : VK} {t : TA} {sp : Sp} {E : L2.St → XK}
theorem x_callS : tCallS sp E t σ H Q = t σ H fun vs H1 => sp vs H1 Q (E σ) := rfl
end
end BC

set_option Elab.async false
set_option linter.all false
set_option maxRecDepth 100000
set_option maxHeartbeats 4000000
namespace LW
open PySem PySem.Spec PyProof.Rows L2 BC Evl TR
def topS (i : Nat) : Stmt := PySem.Challenge.pw_breadcrumbs_k09_strings_of_trails.main.body.getD i (.Pass ⟨0, 0, 0, 0⟩)
abbrev s_is_integer : Stmt := topS 13
theorem sc_is_integer : FnScope ["value", "least", "most"] ["value", "least", "most"] (defScope s_is_integer) := ⟨rfl, rfl, rfl, by decide +kernel, rfl, by decide +kernel, by decide +kernel⟩
abbrev s_is_page : Stmt := topS 16
theorem sc_is_page : FnScope ["value"] ["value"] (defScope s_is_page) := ⟨rfl, rfl, rfl, by decide +kernel, rfl, by decide +kernel, by decide +kernel⟩
abbrev s_is_trail : Stmt := topS 17
theorem sc_is_trail : FnScope ["value", "page"] ["value"] (defScope s_is_trail) := ⟨rfl, rfl, rfl, by decide +kernel, rfl, by decide +kernel, by decide +kernel⟩
abbrev s_check_trail : Stmt := topS 18
theorem sc_check_trail : FnScope ["trail"] ["trail"] (defScope s_check_trail) := ⟨rfl, rfl, rfl, by decide +kernel, rfl, by decide +kernel, by decide +kernel⟩
abbrev s_number_in : Stmt := topS 23
theorem sc_number_in : FnScope ["word", "sign"] ["word"] (defScope s_number_in) := ⟨rfl, rfl, rfl, by decide +kernel, rfl, by decide +kernel, by decide +kernel⟩
abbrev s_check_string : Stmt := topS 24
theorem sc_check_string : FnScope ["text"] ["text"] (defScope s_check_string) := ⟨rfl, rfl, rfl, by decide +kernel, rfl, by decide +kernel, by decide +kernel⟩
abbrev s_trail_string : Stmt := topS 25
theorem sc_trail_string : FnScope ["trail", "page"] ["trail"] (defScope s_trail_string) := ⟨rfl, rfl, rfl, by decide +kernel, rfl, by decide +kernel, by decide +kernel⟩
abbrev s_format_trail : Stmt := topS 26
theorem sc_format_trail : FnScope ["trail"] ["trail"] (defScope s_format_trail) := ⟨rfl, rfl, rfl, by decide +kernel, rfl, by decide +kernel, by decide +kernel⟩
abbrev s_parse_trail : Stmt := topS 27
theorem sc_parse_trail : FnScope ["text", "trail", "word"] ["text"] (defScope s_parse_trail) := ⟨rfl, rfl, rfl, by decide +kernel, rfl, by decide +kernel, by decide +kernel⟩
abbrev s_law_source : Stmt := topS 29
theorem sc_law_source : FnScope ["_law_cell", "_law_k"] ["_law_cell", "_law_k"] (defScope s_law_source) := ⟨rfl, rfl, rfl, by decide +kernel, rfl, by decide +kernel, by decide +kernel⟩
abbrev s_law_draw : Stmt := topS 30
theorem sc_law_draw : FnScope ["_law_source_here", "_law_count", "_law_mixed", "_law_digit"] ["_law_source_here", "_law_count"] (defScope s_law_draw) := ⟨rfl, rfl, rfl, by decide +kernel, rfl, by decide +kernel, by decide +kernel⟩
abbrev s_law_visits : Stmt := topS 31
theorem sc_law_visits : FnScope ["_law_source_here", "_law_most", "_law_wide", "_law_found", "_law_step", "_law_spot"] ["_law_source_here", "_law_most"] (defScope s_law_visits) := ⟨rfl, rfl, rfl, by decide +kernel, rfl, by decide +kernel, by decide +kernel⟩
abbrev s_law_trail : Stmt := topS 32
theorem sc_law_trail : FnScope ["_law_row", "_law_found", "_law_spot"] ["_law_row"] (defScope s_law_trail) := ⟨rfl, rfl, rfl, by decide +kernel, rfl, by decide +kernel, by decide +kernel⟩
abbrev s_law_damaged : Stmt := topS 33
theorem sc_law_damaged : FnScope ["_law_source_here", "_law_line", "_law_pool", "_law_mark", "_law_parts", "_law_at", "_law_odd", "_law_kind", "_law_some", "_law_spot"] ["_law_source_here", "_law_line", "_law_pool", "_law_mark"] (defScope s_law_damaged) := ⟨rfl, rfl, rfl, by decide +kernel, rfl, by decide +kernel, by decide +kernel⟩
abbrev s_law_equal : Stmt := topS 34
theorem sc_law_equal : FnScope ["_law_result", "_law_expected", "_law_one", "_law_other"] ["_law_result", "_law_expected"] (defScope s_law_equal) := ⟨rfl, rfl, rfl, by decide +kernel, rfl, by decide +kernel, by decide +kernel⟩
abbrev s_law_name_of : Stmt := topS 35
theorem sc_law_name_of : FnScope ["_law_caught", "_law_some"] ["_law_caught"] (defScope s_law_name_of) := ⟨rfl, rfl, rfl, by decide +kernel, rfl, by decide +kernel, by decide +kernel⟩
abbrev s_law_parsed : Stmt := topS 36
theorem sc_law_parsed : FnScope ["_law_written", "_law_word", "_law_pages", "_law_row", "_law_number"] ["_law_written"] (defScope s_law_parsed) := ⟨rfl, rfl, rfl, by decide +kernel, rfl, by decide +kernel, by decide +kernel⟩
abbrev s_law_outcome : Stmt := topS 37
theorem sc_law_outcome : FnScope ["_law_value", "_law_outcome_here", "_law_caught"] ["_law_value"] (defScope s_law_outcome) := ⟨rfl, rfl, rfl, by decide +kernel, rfl, by decide +kernel, by decide +kernel⟩
abbrev s_law_holds : Stmt := topS 38
theorem sc_law_holds : FnScope ["_law_source_here", "_law_most", "_law_spot", "_law_before", "_law_attempt", "_law_step", "_law_many", "_law_fixed", "_law_one", "_law_odd", "_law_row", "_law_written", "_law_made", "_law_pool", "_law_number"] ["_law_source_here", "_law_most"] (defScope s_law_holds) := ⟨rfl, rfl, rfl, by decide +kernel, rfl, by decide +kernel, by decide +kernel⟩
abbrev s_law : Stmt := topS 39
theorem sc_law : FnScope ["_law_script", "_law_k", "_law_cell"] ["_law_script"] (defScope s_law) := ⟨rfl, rfl, rfl, by decide +kernel, rfl, by decide +kernel, by decide +kernel⟩
structure Txt (K : PySem.W.Frag) (mg : Str → Option Value) where
  C_BreadcrumbsError : Addr
  g_BreadcrumbsError : mg "BreadcrumbsError" = some (.ref C_BreadcrumbsError)
  k_BreadcrumbsError : PySem.W.keepIn K (.ref C_BreadcrumbsError) = true
  x_BreadcrumbsError : PySem.W.excIn K C_BreadcrumbsError [.type "ValueError", .type "Exception", .type "BaseException", .type "object"] "ValueError.__new__" = true
  e_BreadcrumbsError : ExcC K C_BreadcrumbsError
  t_BreadcrumbsError : PySem.W.typeIn K (.ref C_BreadcrumbsError) = some (.type "type")
  b_BreadcrumbsError : PySem.W.subIn K (.ref C_BreadcrumbsError) (.type "BaseException") = some true
  r_BreadcrumbsError : MroIs K C_BreadcrumbsError [C_BreadcrumbsError]
  C_EmptyHistoryError : Addr
  g_EmptyHistoryError : mg "EmptyHistoryError" = some (.ref C_EmptyHistoryError)
  k_EmptyHistoryError : PySem.W.keepIn K (.ref C_EmptyHistoryError) = true
  x_EmptyHistoryError : PySem.W.excIn K C_EmptyHistoryError [.type "ValueError", .type "Exception", .type "BaseException", .type "object"] "ValueError.__new__" = true
  e_EmptyHistoryError : ExcC K C_EmptyHistoryError
  t_EmptyHistoryError : PySem.W.typeIn K (.ref C_EmptyHistoryError) = some (.type "type")
  b_EmptyHistoryError : PySem.W.subIn K (.ref C_EmptyHistoryError) (.type "BaseException") = some true
  r_EmptyHistoryError : MroIs K C_EmptyHistoryError [C_EmptyHistoryError, C_BreadcrumbsError]
  C_InvalidEffectError : Addr
  g_InvalidEffectError : mg "InvalidEffectError" = some (.ref C_InvalidEffectError)
  k_InvalidEffectError : PySem.W.keepIn K (.ref C_InvalidEffectError) = true
  x_InvalidEffectError : PySem.W.excIn K C_InvalidEffectError [.type "ValueError", .type "Exception", .type "BaseException", .type "object"] "ValueError.__new__" = true
  e_InvalidEffectError : ExcC K C_InvalidEffectError
  t_InvalidEffectError : PySem.W.typeIn K (.ref C_InvalidEffectError) = some (.type "type")
  b_InvalidEffectError : PySem.W.subIn K (.ref C_InvalidEffectError) (.type "BaseException") = some true
  r_InvalidEffectError : MroIs K C_InvalidEffectError [C_InvalidEffectError, C_BreadcrumbsError]
  C_InvalidFormatError : Addr
  g_InvalidFormatError : mg "InvalidFormatError" = some (.ref C_InvalidFormatError)
  k_InvalidFormatError : PySem.W.keepIn K (.ref C_InvalidFormatError) = true
  x_InvalidFormatError : PySem.W.excIn K C_InvalidFormatError [.type "ValueError", .type "Exception", .type "BaseException", .type "object"] "ValueError.__new__" = true
  e_InvalidFormatError : ExcC K C_InvalidFormatError
  t_InvalidFormatError : PySem.W.typeIn K (.ref C_InvalidFormatError) = some (.type "type")
  b_InvalidFormatError : PySem.W.subIn K (.ref C_InvalidFormatError) (.type "BaseException") = some true
  r_InvalidFormatError : MroIs K C_InvalidFormatError [C_InvalidFormatError, C_BreadcrumbsError]
  C_InvalidLengthsError : Addr
  g_InvalidLengthsError : mg "InvalidLengthsError" = some (.ref C_InvalidLengthsError)
  k_InvalidLengthsError : PySem.W.keepIn K (.ref C_InvalidLengthsError) = true
  x_InvalidLengthsError : PySem.W.excIn K C_InvalidLengthsError [.type "ValueError", .type "Exception", .type "BaseException", .type "object"] "ValueError.__new__" = true
  e_InvalidLengthsError : ExcC K C_InvalidLengthsError
  t_InvalidLengthsError : PySem.W.typeIn K (.ref C_InvalidLengthsError) = some (.type "type")
  b_InvalidLengthsError : PySem.W.subIn K (.ref C_InvalidLengthsError) (.type "BaseException") = some true
  r_InvalidLengthsError : MroIs K C_InvalidLengthsError [C_InvalidLengthsError, C_BreadcrumbsError]
  C_InvalidNumberError : Addr
  g_InvalidNumberError : mg "InvalidNumberError" = some (.ref C_InvalidNumberError)
  k_InvalidNumberError : PySem.W.keepIn K (.ref C_InvalidNumberError) = true
  x_InvalidNumberError : PySem.W.excIn K C_InvalidNumberError [.type "ValueError", .type "Exception", .type "BaseException", .type "object"] "ValueError.__new__" = true
  e_InvalidNumberError : ExcC K C_InvalidNumberError
  t_InvalidNumberError : PySem.W.typeIn K (.ref C_InvalidNumberError) = some (.type "type")
  b_InvalidNumberError : PySem.W.subIn K (.ref C_InvalidNumberError) (.type "BaseException") = some true
  r_InvalidNumberError : MroIs K C_InvalidNumberError [C_InvalidNumberError, C_BreadcrumbsError]
  C_InvalidPageError : Addr
  g_InvalidPageError : mg "InvalidPageError" = some (.ref C_InvalidPageError)
  k_InvalidPageError : PySem.W.keepIn K (.ref C_InvalidPageError) = true
  x_InvalidPageError : PySem.W.excIn K C_InvalidPageError [.type "ValueError", .type "Exception", .type "BaseException", .type "object"] "ValueError.__new__" = true
  e_InvalidPageError : ExcC K C_InvalidPageError
  t_InvalidPageError : PySem.W.typeIn K (.ref C_InvalidPageError) = some (.type "type")
  b_InvalidPageError : PySem.W.subIn K (.ref C_InvalidPageError) (.type "BaseException") = some true
  r_InvalidPageError : MroIs K C_InvalidPageError [C_InvalidPageError, C_BreadcrumbsError]
  C_InvalidPagesError : Addr
  g_InvalidPagesError : mg "InvalidPagesError" = some (.ref C_InvalidPagesError)
  k_InvalidPagesError : PySem.W.keepIn K (.ref C_InvalidPagesError) = true
  x_InvalidPagesError : PySem.W.excIn K C_InvalidPagesError [.type "ValueError", .type "Exception", .type "BaseException", .type "object"] "ValueError.__new__" = true
  e_InvalidPagesError : ExcC K C_InvalidPagesError
  t_InvalidPagesError : PySem.W.typeIn K (.ref C_InvalidPagesError) = some (.type "type")
  b_InvalidPagesError : PySem.W.subIn K (.ref C_InvalidPagesError) (.type "BaseException") = some true
  r_InvalidPagesError : MroIs K C_InvalidPagesError [C_InvalidPagesError, C_BreadcrumbsError]
  C_InvalidSiteError : Addr
  g_InvalidSiteError : mg "InvalidSiteError" = some (.ref C_InvalidSiteError)
  k_InvalidSiteError : PySem.W.keepIn K (.ref C_InvalidSiteError) = true
  x_InvalidSiteError : PySem.W.excIn K C_InvalidSiteError [.type "ValueError", .type "Exception", .type "BaseException", .type "object"] "ValueError.__new__" = true
  e_InvalidSiteError : ExcC K C_InvalidSiteError
  t_InvalidSiteError : PySem.W.typeIn K (.ref C_InvalidSiteError) = some (.type "type")
  b_InvalidSiteError : PySem.W.subIn K (.ref C_InvalidSiteError) (.type "BaseException") = some true
  r_InvalidSiteError : MroIs K C_InvalidSiteError [C_InvalidSiteError, C_BreadcrumbsError]
  C_InvalidTrailError : Addr
  g_InvalidTrailError : mg "InvalidTrailError" = some (.ref C_InvalidTrailError)
  k_InvalidTrailError : PySem.W.keepIn K (.ref C_InvalidTrailError) = true
  x_InvalidTrailError : PySem.W.excIn K C_InvalidTrailError [.type "ValueError", .type "Exception", .type "BaseException", .type "object"] "ValueError.__new__" = true
  e_InvalidTrailError : ExcC K C_InvalidTrailError
  t_InvalidTrailError : PySem.W.typeIn K (.ref C_InvalidTrailError) = some (.type "type")
  b_InvalidTrailError : PySem.W.subIn K (.ref C_InvalidTrailError) (.type "BaseException") = some true
  r_InvalidTrailError : MroIs K C_InvalidTrailError [C_InvalidTrailError, C_BreadcrumbsError]
  C_InvalidVisitsError : Addr
  g_InvalidVisitsError : mg "InvalidVisitsError" = some (.ref C_InvalidVisitsError)
  k_InvalidVisitsError : PySem.W.keepIn K (.ref C_InvalidVisitsError) = true
  x_InvalidVisitsError : PySem.W.excIn K C_InvalidVisitsError [.type "ValueError", .type "Exception", .type "BaseException", .type "object"] "ValueError.__new__" = true
  e_InvalidVisitsError : ExcC K C_InvalidVisitsError
  t_InvalidVisitsError : PySem.W.typeIn K (.ref C_InvalidVisitsError) = some (.type "type")
  b_InvalidVisitsError : PySem.W.subIn K (.ref C_InvalidVisitsError) (.type "BaseException") = some true
  r_InvalidVisitsError : MroIs K C_InvalidVisitsError [C_InvalidVisitsError, C_BreadcrumbsError]
  nd : [C_BreadcrumbsError, C_EmptyHistoryError, C_InvalidEffectError, C_InvalidFormatError, C_InvalidLengthsError, C_InvalidNumberError, C_InvalidPageError, C_InvalidPagesError, C_InvalidSiteError, C_InvalidTrailError, C_InvalidVisitsError].Nodup
  f_is_integer : Addr
  fd_is_integer : FuncData
  F_is_integer : Fun K "is_integer" "is_integer" s_is_integer f_is_integer fd_is_integer
  m_is_integer : mg "is_integer" = some (.ref f_is_integer)
  b_is_integer : Binds K fd_is_integer ["value", "least", "most"] []
  f_is_page : Addr
  fd_is_page : FuncData
  F_is_page : Fun K "is_page" "is_page" s_is_page f_is_page fd_is_page
  m_is_page : mg "is_page" = some (.ref f_is_page)
  b_is_page : Binds K fd_is_page ["value"] []
  f_is_trail : Addr
  fd_is_trail : FuncData
  F_is_trail : Fun K "is_trail" "is_trail" s_is_trail f_is_trail fd_is_trail
  m_is_trail : mg "is_trail" = some (.ref f_is_trail)
  b_is_trail : Binds K fd_is_trail ["value"] []
  f_check_trail : Addr
  fd_check_trail : FuncData
  F_check_trail : Fun K "check_trail" "check_trail" s_check_trail f_check_trail fd_check_trail
  m_check_trail : mg "check_trail" = some (.ref f_check_trail)
  b_check_trail : Binds K fd_check_trail ["trail"] []
  f_number_in : Addr
  fd_number_in : FuncData
  F_number_in : Fun K "number_in" "number_in" s_number_in f_number_in fd_number_in
  m_number_in : mg "number_in" = some (.ref f_number_in)
  b_number_in : Binds K fd_number_in ["word"] []
  f_check_string : Addr
  fd_check_string : FuncData
  F_check_string : Fun K "check_string" "check_string" s_check_string f_check_string fd_check_string
  m_check_string : mg "check_string" = some (.ref f_check_string)
  b_check_string : Binds K fd_check_string ["text"] []
  f_trail_string : Addr
  fd_trail_string : FuncData
  F_trail_string : Fun K "trail_string" "trail_string" s_trail_string f_trail_string fd_trail_string
  m_trail_string : mg "trail_string" = some (.ref f_trail_string)
  b_trail_string : Binds K fd_trail_string ["trail"] []
  f_format_trail : Addr
  fd_format_trail : FuncData
  F_format_trail : Fun K "format_trail" "format_trail" s_format_trail f_format_trail fd_format_trail
  m_format_trail : mg "format_trail" = some (.ref f_format_trail)
  b_format_trail : Binds K fd_format_trail ["trail"] []
  f_parse_trail : Addr
  fd_parse_trail : FuncData
  F_parse_trail : Fun K "parse_trail" "parse_trail" s_parse_trail f_parse_trail fd_parse_trail
  m_parse_trail : mg "parse_trail" = some (.ref f_parse_trail)
  b_parse_trail : Binds K fd_parse_trail ["text"] []
  f_law_source : Addr
  fd_law_source : FuncData
  F_law_source : Fun K "_law_source" "_law_source" s_law_source f_law_source fd_law_source
  m_law_source : mg "_law_source" = some (.ref f_law_source)
  b_law_source : Binds K fd_law_source ["_law_cell", "_law_k"] []
  f_law_draw : Addr
  fd_law_draw : FuncData
  F_law_draw : Fun K "_law_draw" "_law_draw" s_law_draw f_law_draw fd_law_draw
  m_law_draw : mg "_law_draw" = some (.ref f_law_draw)
  b_law_draw : Binds K fd_law_draw ["_law_source_here", "_law_count"] []
  f_law_visits : Addr
  fd_law_visits : FuncData
  F_law_visits : Fun K "_law_visits" "_law_visits" s_law_visits f_law_visits fd_law_visits
  m_law_visits : mg "_law_visits" = some (.ref f_law_visits)
  b_law_visits : Binds K fd_law_visits ["_law_source_here", "_law_most"] []
  f_law_trail : Addr
  fd_law_trail : FuncData
  F_law_trail : Fun K "_law_trail" "_law_trail" s_law_trail f_law_trail fd_law_trail
  m_law_trail : mg "_law_trail" = some (.ref f_law_trail)
  b_law_trail : Binds K fd_law_trail ["_law_row"] []
  f_law_damaged : Addr
  fd_law_damaged : FuncData
  F_law_damaged : Fun K "_law_damaged" "_law_damaged" s_law_damaged f_law_damaged fd_law_damaged
  m_law_damaged : mg "_law_damaged" = some (.ref f_law_damaged)
  b_law_damaged : Binds K fd_law_damaged ["_law_source_here", "_law_line", "_law_pool", "_law_mark"] []
  f_law_equal : Addr
  fd_law_equal : FuncData
  F_law_equal : Fun K "_law_equal" "_law_equal" s_law_equal f_law_equal fd_law_equal
  m_law_equal : mg "_law_equal" = some (.ref f_law_equal)
  b_law_equal : Binds K fd_law_equal ["_law_result", "_law_expected"] []
  f_law_name_of : Addr
  fd_law_name_of : FuncData
  F_law_name_of : Fun K "_law_name_of" "_law_name_of" s_law_name_of f_law_name_of fd_law_name_of
  m_law_name_of : mg "_law_name_of" = some (.ref f_law_name_of)
  b_law_name_of : Binds K fd_law_name_of ["_law_caught"] []
  f_law_parsed : Addr
  fd_law_parsed : FuncData
  F_law_parsed : Fun K "_law_parsed" "_law_parsed" s_law_parsed f_law_parsed fd_law_parsed
  m_law_parsed : mg "_law_parsed" = some (.ref f_law_parsed)
  b_law_parsed : Binds K fd_law_parsed ["_law_written"] []
  f_law_outcome : Addr
  fd_law_outcome : FuncData
  F_law_outcome : Fun K "_law_outcome" "_law_outcome" s_law_outcome f_law_outcome fd_law_outcome
  m_law_outcome : mg "_law_outcome" = some (.ref f_law_outcome)
  b_law_outcome : Binds K fd_law_outcome ["_law_value"] []
  f_law_holds : Addr
  fd_law_holds : FuncData
  F_law_holds : Fun K "_law_holds" "_law_holds" s_law_holds f_law_holds fd_law_holds
  m_law_holds : mg "_law_holds" = some (.ref f_law_holds)
  b_law_holds : Binds K fd_law_holds ["_law_source_here", "_law_most"] []
  f_law : Addr
  fd_law : FuncData
  F_law : Fun K "law" "law" s_law f_law fd_law
  m_law : mg "law" = some (.ref f_law)
  b_law : Binds K fd_law ["_law_script"] []
  t_DIGITS : Tok
  c_DIGITS : mg "DIGITS" = some (.str "0123456789" t_DIGITS)
  t_MOST_DIGITS : Tok
  c_MOST_DIGITS : mg "MOST_DIGITS" = some (.int 2 t_MOST_DIGITS)
  t_MOST_PAGE : Tok
  c_MOST_PAGE : mg "MOST_PAGE" = some (.int 39 t_MOST_PAGE)
  t_NEXT : Tok
  c_NEXT : mg "NEXT" = some (.str " > " t_NEXT)
  n_ValueError : mg "ValueError" = none
  n_all : mg "all" = none
  n_bool : mg "bool" = none
  n_enumerate : mg "enumerate" = none
  n_int : mg "int" = none
  n_isinstance : mg "isinstance" = none
  n_len : mg "len" = none
  n_list : mg "list" = none
  n_max : mg "max" = none
  n_min : mg "min" = none
  n_range : mg "range" = none
  n_repr : mg "repr" = none
  n_set : mg "set" = none
  n_str : mg "str" = none
  n_tuple : mg "tuple" = none
  n_zip : mg "zip" = none
local macro_rules | `(tactic| walk_at "sx") => `(tactic| try simp only [x_seq, x_next, x_brk, x_cnt, x_nev, x_ret, x_retN, x_drop, x_ifS, x_asg, x_gn, x_gsub, x_par, x_par3, x_aug, x_for, x_lc, x_rng1, x_rng2, x_rng3, x_ilist, x_itup, x_ienum, x_izip, x_izipA, x_istr, x_var, x_c, x_op, x_un, x_test, x_b, x_chain, x_and, x_or, x_not, x_andV, x_orV, x_notV, x_ife, x_nil, x_cons, x_lst, x_tup, x_cb, x_call, x_callK, x_callS, x_bm, x_bm0, x_tru, x_sl, x_nopart, x_part, x_revL, x_I0, x_I, x_U, x_ip, x_ipC, x_eqI, x_neI, x_eqB, x_neB, x_eqS, x_neS, x_isB, x_isNB, x_lrg, x_gall, x_lenSet, x_augS, x_sortSet, x_sortSetB, x_lenSetA, x_rg1, x_rg2, x_mulS, x_fmtS, x_gstar, x_inS, x_addS, x_js0, x_js, x_jn, x_fmt, x_callS,
  L2.start, List.map_cons, List.map_nil, List.length_cons, List.length_nil, Nat.reduceAdd, Nat.reduceSub, Nat.sub_self, Nat.zero_add, List.replicate, List.replicate_succ, List.replicate_zero, List.append_nil, List.cons_append, List.nil_append, List.set_cons_zero, List.set_cons_succ, List.getElem?_cons_zero, List.getElem?_cons_succ, Option.some.injEq, V.int.injEq, V.bl.injEq, V.ref.injEq, V.str.injEq, List.cons.injEq, and_true, true_and, exists_eq_left', exists_eq_left, exists_and_left, exists_eq, if_true, if_false, ite_true, ite_false, Bool.true_eq_false, Bool.false_eq_true, reduceIte, reduceCtorEq, Bool.not_true, Bool.not_false, decide_true, decide_false, decide_eq_true_eq, Bool.and_true, Bool.true_and, Bool.and_self, Bool.and_false, Bool.false_and, Bool.or_self, Bool.or_false, Bool.false_or, Bool.or_true, Bool.true_or, eq_self])
section
variable {P : Program} {w : World} {K : PySem.W.Frag} {mg : Str → Option Value} {base : Heap}
/-- a value with its type: a number, or what is none -/
inductive Kd (K : PySem.W.Frag) (H : Hp) : V → Prop
  | int (i : Int) : Kd K H (.int i)
  | bl (b : Bool) : Kd K H (.bl b)
  | odd {v : V} {t : Value} (h : TyX K H v t) (n : PySem.W.kitOne K t (.type "int") = some false) : Kd K H v
def inR (lo hi : Int) : V → Bool
  | .int i => decide (lo ≤ i) && decide (i ≤ hi)
  | _ => false
def spIsInt (K : PySem.W.Frag) : Sp := fun vs H Q _ => ∃ (v : V) (lo hi : Int), vs = [v, .int lo, .int hi] ∧ Kd K H v ∧ Q (.bl (inR lo hi v)) H
theorem ok_is_integer (T : Txt K mg) : FnOk P w K mg base CX0 1 T.f_is_integer T.fd_is_integer ["value", "least", "most"] (spIsInt K) := by
  refine T.F_is_integer.ok sc_is_integer (fun vs H Q E h => ?_) (fun cdv A outer s H vs Q E hr h => ?_)
  · obtain ⟨v, lo, hi, rfl, _⟩ := h
    rfl
  · obtain ⟨v, lo, hi, rfl, kd, k⟩ := h
    apply Exists.intro
    apply And.intro
    · apply pss_one
      exact (ps_ret (pe_and (pe_callB (k_isi (K := K) rfl) (by rfl) T.n_isinstance (by decide +kernel) (pa_cons (pv 0) (pa_cons (pe_bltn (v := .ty "int") (by rfl) T.n_int (by decide +kernel) rfl) pa_nil))) (pe_and (pe_not (pe_callB (k_isi (K := K) rfl) (by rfl) T.n_isinstance (by decide +kernel) (pa_cons (pv 0) (pa_cons (pe_bltn (v := .ty "bool") (by rfl) T.n_bool (by decide +kernel) rfl) pa_nil)))) (pe_one (pe_chain op_le op_le (pv 1) (pv 0) (pv 2))))))
    walk_at "sx"
    cases kd with
    | int i =>
      refine isi_int (b := true) (by decide +kernel) ?_
      walk_at "sx"
      refine isi_int (b := false) (by decide +kernel) ?_
      have k' : Q (.bl (decide (lo ≤ i) && decide (i ≤ hi))) H := k
      walk_at "sx"
      by_cases h1 : lo ≤ i
      · simpa [h1] using k'
      · simpa [h1] using k'
    | bl b =>
      refine ⟨.bl b, .ty "int", .type "bool", .type "int", true, rfl, .ty "int", .base (.bl b), kit_ty (by decide +kernel), ?_⟩
      walk_at "sx"
      refine ⟨.bl b, .ty "bool", .type "bool", .type "bool", true, rfl, .ty "bool", .base (.bl b), kit_ty (by decide +kernel), ?_⟩
      walk_at "sx"
      exact k
    | odd ty n =>
      refine ⟨v, .ty "int", _, .type "int", false, rfl, .ty "int", ty, n, ?_⟩
      have e : inR lo hi v = false := by
        cases v with
        | int i =>
          cases ty with
          | base h => cases h; exact absurd n (by rw [kit_ty (r := true) (by decide +kernel)]; simp)
        | _ => rfl
      rw [e] at k
      walk_at "sx"
      exact k
def spIsPage (K : PySem.W.Frag) : Sp := fun vs H Q _ => ∃ v, vs = [v] ∧ Kd K H v ∧ Q (.bl (inR 0 39 v)) H
theorem ok_is_page (T : Txt K mg) : FnOk P w K mg base CX0 2 T.f_is_page T.fd_is_page ["value"] (spIsPage K) := by
  refine T.F_is_page.ok sc_is_page (fun vs H Q E h => ?_) (fun cdv A outer s H vs Q E hr h => ?_)
  · obtain ⟨i, rfl, _⟩ := h
    rfl
  · obtain ⟨i, rfl, kd, k⟩ := h
    apply Exists.intro
    apply And.intro
    · apply pss_one
      exact (ps_ret (pe_call (ok_is_integer T) (hr.mono (by decide)) (by rfl) T.m_is_integer T.F_is_integer.kp T.b_is_integer .nil pass0 (pa_cons (pv 0) (pa_cons pe_int (pa_cons (pe_glob (v := .int 39) rfl T.c_MOST_PAGE ⟨_, rfl⟩) pa_nil)))))
    walk_at "sx"
    exact ⟨i, 0, 39, rfl, kd, k⟩
theorem Kd.of {K : PySem.W.Frag} {H : Hp} {v : V} {t : Value} (h : TyX K H v t) (n : PySem.W.kitOne K t (.type "int") = some false) : Kd K H v := .odd h n
theorem kd_non {K : PySem.W.Frag} {H : Hp} : Kd K H .non := .odd (.base .non) (kit_ty (by decide +kernel))
theorem kd_str {K : PySem.W.Frag} {H : Hp} (x : Str) : Kd K H (.str x) := .odd (.base (.str x)) (kit_ty (by decide +kernel))
theorem kd_lst {K : PySem.W.Frag} {H : Hp} {a : Addr} {xs : List V} (e : H a = some (.lst xs)) : Kd K H (.ref a) := .odd (.base (.lst e)) (kit_ty (by decide +kernel))
theorem kd_tup {K : PySem.W.Frag} {H : Hp} {a : Addr} {xs : List V} (e : H a = some (.tup xs)) : Kd K H (.ref a) := .odd (.base (.tup e)) (kit_ty (by decide +kernel))
theorem kd_dic {K : PySem.W.Frag} {H : Hp} {a : Addr} {xs : List (Key × V)} (e : H a = some (.dK xs)) : Kd K H (.ref a) := .odd (.base (.dK e)) (kit_ty (by decide +kernel))
end
section
variable {P : Program} {w : World} {K : PySem.W.Frag} {mg : Str → Option Value} {base : Heap}
theorem zero_s : (("0" : String) : Str) = ⟨#[48]⟩ := by decide +kernel
def dig (c : Nat) : Bool := decide (c ∈ ((("0123456789" : String) : Str)).cps.toList)
theorem dig_iff (c : Nat) : dig c = true ↔ 48 ≤ c ∧ c ≤ 57 := by
  unfold dig
  rw [decide_eq_true_eq]
  exact digits_mem c
theorem dig_all (l : List Nat) : (l.map dig).all id = l.all (fun c => decide (48 ≤ c) && decide (c ≤ 57)) := by
  rw [List.all_map]
  congr 1
  funext c
  show dig c = _
  cases e : dig c with
  | true =>
    have := (dig_iff c).mp e
    rw [decide_eq_true this.1, decide_eq_true this.2]
    rfl
  | false =>
    by_cases h : 48 ≤ c ∧ c ≤ 57
    · rw [(dig_iff c).mpr h] at e
      cases e
    · by_cases h1 : 48 ≤ c
      · rw [decide_eq_true h1, decide_eq_false (fun h2 => h ⟨h1, h2⟩)]
        rfl
      · rw [decide_eq_false h1]
        rfl
theorem digs_kept (x : Str) : kept x.cps.size (fun _ => true) (fun i => V.bl (dig (x.cps.toList.getD i 0))) = (x.cps.toList.map dig).map V.bl := by
  rw [kept_all]
  apply List.ext_getElem?
  intro i
  by_cases c : i < x.cps.size
  · rw [List.getElem?_map, List.getElem?_range c, List.getElem?_map, List.getElem?_map, List.getElem?_eq_getElem (by simpa using c)]
    show some (V.bl (dig (x.cps.toList.getD i 0))) = _
    rw [List.getD_eq_getElem?_getD, List.getElem?_eq_getElem (by simpa using c)]
    rfl
  · rw [List.getElem?_eq_none (by rw [List.length_map, List.length_range]; omega), List.getElem?_eq_none (by simp; omega)]
theorem two_shape {x : Str} (h1 : 1 ≤ x.length) (h2 : x.length ≤ 2) (h : x.cps.toList.all (fun c => decide (48 ≤ c) && decide (c ≤ 57)) = true) : (∃ a : Fin 10, x = ⟨#[48 + a.val]⟩) ∨ ∃ a b : Fin 10, x = ⟨#[48 + a.val, 48 + b.val]⟩ := by
  have hl : x.length = x.cps.toList.length := by simp [Str.length]
  rw [hl] at h1 h2
  have hx : ∀ l : List Nat, x.cps.toList = l → x = ⟨l.toArray⟩ := fun l e => by
    refine TL.ext_tl ?_
    show x.cps.toList = l
    exact e
  generalize x.cps.toList = l at h1 h2 h hx
  have hx := hx l rfl
  match l, h1, h2, h, hx with
  | [a], _, _, h, hx =>
    have : 48 ≤ a ∧ a ≤ 57 := by simpa using h
    exact .inl ⟨⟨a - 48, by omega⟩, by rw [hx]; show _ = (⟨#[48 + (a - 48)]⟩ : Str); rw [show 48 + (a - 48) = a by omega]⟩
  | [a, b], _, _, h, hx =>
    have : (48 ≤ a ∧ a ≤ 57) ∧ 48 ≤ b ∧ b ≤ 57 := by simpa using h
    exact .inr ⟨⟨a - 48, by omega⟩, ⟨b - 48, by omega⟩, by rw [hx]; show _ = (⟨#[48 + (a - 48), 48 + (b - 48)]⟩ : Str); rw [show 48 + (a - 48) = a by omega, show 48 + (b - 48) = b by omega]⟩
  | _ :: _ :: _ :: _, _, h2, _, _ => exact absurd h2 (by simp)
def spNumIn (K : PySem.W.Frag) : Sp := fun vs H Q _ => ∃ x : Str, vs = [.str x] ∧ x.length ≤ 100000 ∧ ∀ H', Ex H H' → Q (numV x) H'
theorem ok_number_in (T : Txt K mg) : FnOk P w K mg base CX0 1 T.f_number_in T.fd_number_in ["word"] (spNumIn K) := by
  refine T.F_number_in.ok sc_number_in (fun vs H Q E h => ?_) (fun cdv A outer s H vs Q E hr h => ?_)
  · obtain ⟨x, rfl, _⟩ := h
    rfl
  · obtain ⟨x, rfl, hx, k⟩ := h
    apply Exists.intro
    apply And.intro
    · apply pss_cons
      · apply ps_if
        · exact (PW.pt (pw_or (pt_not (pt_chain op_le op_le pe_int (pe_callB call_len_str (by rfl) T.n_len PySem.boot_len (pa_cons (pv 0) pa_nil)) (pe_glob (v := .int 2) rfl T.c_MOST_DIGITS ⟨_, rfl⟩))) (pw_or1 (pt_not (pt_val (pe_callB (k_all (K := K) rfl rfl) (by rfl) T.n_all (by decide +kernel) (pa_cons (pe_lc (own := [("sign", 1)]) rfl sc_number_in.nd (pi_str (pv 0)) (blkOk_by (own := [("sign", 1)]) (N := ["word", "sign"]) (sc := defScope s_number_in) (by decide +kernel)) (fun _ _ _ _ _ => by exact (pg_name (i := 1) sc_number_in.nd rfl (.inl rfl))) (fun _ _ _ _ _ => by exact pts_nil) (fun _ _ _ _ _ => by exact (pe_cmpR op_inS (pv 1) (pe_glob (v := .str "0123456789") rfl T.c_DIGITS ⟨_, rfl⟩) (by rfl)))) pa_nil)))))))
        · apply pss_one
          exact (ps_ret pe_non)
        · exact pss_nil
      apply pss_one
      exact (ps_ret (pe_ifExp (PW.pt (pw_or (pt_cmpR op_eq (pv 0) pe_str (by rfl)) (pw_or1 (pt_cmpR op_ne (pe_ix ix_str (pv 0) pe_int (fun _ _ => rfl)) pe_str (by rfl))))) (pe_callTy k_intS (by rfl) T.n_int (by decide +kernel) (pa_cons (pv 0) pa_nil)) pe_non))
    walk_at "sx"
    have szl : x.length ≤ sizeLine := sz_ok hx
    refine ⟨szl, ?_⟩
    by_cases c1 : 1 ≤ x.length
    rotate_left
    · rw [if_neg (by omega)]
      rw [numIn_odd (fun h => c1 h.1)] at k
      exact k _ (Ex.refl _)
    rw [if_pos (by omega)]
    by_cases c2 : x.length ≤ 2
    rotate_left
    · rw [decide_eq_false (by omega)]
      rw [numIn_odd (fun h => c2 h.2.1)] at k
      exact k _ (Ex.refl _)
    rw [decide_eq_true (by omega)]
    walk_at "sx"
    intro D nD
    refine lc_str (fun _ => true) (fun i => V.bl (dig (x.cps.toList.getD i 0))) nD (by show x.length ≤ _; omega) (fun u => rfl) (fun i c _ => tyes) (fun i c hc _ => ?_) (fun H1 e1 hD => ?_)
    · intro H3 e3 R hR
      walk_at "sx"
      rw [List.getD_eq_getElem?_getD, hc] at hR
      refine ⟨_, rfl, x_inS.mpr ?_⟩
      exact hR _ (Ex.refl _)
    · rw [digs_kept] at hD
      refine allL (.inl (.inl hD)) ?_
      rw [dig_all]
      refine ⟨_, rfl, ?_⟩
      have k := fun H' e => k H' (e1.trans e)
      cases h3 : x.cps.toList.all (fun c => decide (48 ≤ c) && decide (c ≤ 57)) with
      | false =>
        rw [numIn_odd (fun h => by rw [h3] at h; exact absurd h.2.2 (by decide))] at k
        exact k _ (Ex.refl _)
      | true =>
        walk_at "sx"
        rw [show Str.ofString "0" = ⟨#[48]⟩ from zero_s]
        rcases two_shape c1 c2 h3 with ⟨a, rfl⟩ | ⟨a, b, rfl⟩
        · obtain ⟨n1, n2⟩ := num_one a
          rw [n1] at k
          have go : ∀ H' , Ex H1 H' → rIntS [V.str ⟨#[48 + a.val]⟩] H' Q := fun H' e => ⟨_, _, rfl, n2, by omega, k _ e⟩
          split
          · exact go _ (Ex.refl _)
          · next ne =>
            refine ⟨_, 0, 48 + a.val, rfl, rfl, szl, rfl, ?_⟩
            refine x_neS.mpr ⟨_, rfl, ?_⟩
            rw [decide_eq_false ne]
            exact go _ (Ex.refl _)
        · obtain ⟨n1, n2⟩ := num_pair a b
          rw [n1] at k
          rw [if_neg (by intro e; have := congrArg (fun y : Str => y.cps.size) e; simp at this)]
          refine ⟨_, 0, 48 + a.val, rfl, rfl, szl, rfl, ?_⟩
          refine x_neS.mpr ⟨_, rfl, ?_⟩
          by_cases c0 : a.val = 0
          · rw [if_pos c0] at k
            rw [decide_eq_true (show (⟨#[48 + a.val]⟩ : Str) = ⟨#[48]⟩ by rw [c0])]
            exact k _ (Ex.refl _)
          · rw [if_neg c0] at k
            rw [decide_eq_false (fun e => c0 (by have := congrArg (fun y : Str => y.cps.getD 0 0) e; simp at this; rw [this]; rfl))]
            exact ⟨_, _, rfl, n2, by omega, k _ (Ex.refl _)⟩
end
end LW

set_option Elab.async false
set_option linter.all false
set_option maxRecDepth 100000
set_option maxHeartbeats 4000000
namespace LW
open PySem PySem.Spec PyProof.Rows L2 BC Evl TR
local macro_rules | `(tactic| walk_at "sx") => `(tactic| try simp only [x_seq, x_next, x_brk, x_cnt, x_nev, x_ret, x_retN, x_drop, x_ifS, x_asg, x_gn, x_gsub, x_par, x_par3, x_aug, x_for, x_lc, x_rng1, x_rng2, x_rng3, x_ilist, x_itup, x_ienum, x_izip, x_izipA, x_istr, x_var, x_c, x_op, x_un, x_test, x_b, x_chain, x_and, x_or, x_not, x_andV, x_orV, x_notV, x_ife, x_nil, x_cons, x_lst, x_tup, x_cb, x_call, x_callK, x_callS, x_bm, x_bm0, x_tru, x_sl, x_nopart, x_part, x_revL, x_I0, x_I, x_U, x_ip, x_ipC, x_eqI, x_neI, x_eqB, x_neB, x_eqS, x_neS, x_isB, x_isNB, x_lrg, x_gall, x_lenSet, x_augS, x_sortSet, x_sortSetB, x_lenSetA, x_rg1, x_rg2, x_mulS, x_fmtS, x_gstar, x_inS, x_addS, x_js0, x_js, x_jn, x_fmt, x_callS,
  L2.start, List.map_cons, List.map_nil, List.length_cons, List.length_nil, Nat.reduceAdd, Nat.reduceSub, Nat.sub_self, Nat.zero_add, List.replicate, List.replicate_succ, List.replicate_zero, List.append_nil, List.cons_append, List.nil_append, List.set_cons_zero, List.set_cons_succ, List.getElem?_cons_zero, List.getElem?_cons_succ, Option.some.injEq, V.int.injEq, V.bl.injEq, V.ref.injEq, V.str.injEq, List.cons.injEq, and_true, true_and, exists_eq_left', exists_eq_left, exists_and_left, exists_eq, if_true, if_false, ite_true, ite_false, Bool.true_eq_false, Bool.false_eq_true, reduceIte, reduceCtorEq, Bool.not_true, Bool.not_false, decide_true, decide_false, decide_eq_true_eq, Bool.and_true, Bool.true_and, Bool.and_self, Bool.and_false, Bool.false_and, Bool.or_self, Bool.or_false, Bool.false_or, Bool.or_true, Bool.true_or, eq_self])
section
variable {P : Program} {w : World} {K : PySem.W.Frag} {mg : Str → Option Value} {base : Heap}
theorem isPg_inR (v : V) : inR 0 39 v = isPg v := by cases v <;> rfl
theorem pgs_kept (xs : List V) : kept xs.length (fun _ => true) (fun i => V.bl (isPg (xs.getD i .non))) = (xs.map isPg).map V.bl := by
  rw [kept_all]
  apply List.ext_getElem?
  intro i
  by_cases c : i < xs.length
  · rw [List.getElem?_map, List.getElem?_range c, List.getElem?_map, List.getElem?_map, List.getElem?_eq_getElem c]
    show some (V.bl (isPg (xs.getD i .non))) = _
    rw [List.getD_eq_getElem?_getD, List.getElem?_eq_getElem c]
    rfl
  · rw [List.getElem?_eq_none (by rw [List.length_map, List.length_range]; omega), List.getElem?_eq_none (by simp; omega)]
def spIsTr (K : PySem.W.Frag) : Sp := fun vs H Q _ => ∃ (a : Addr) (xs : List V), vs = [.ref a] ∧ SqL K H a xs ∧ (∀ x ∈ xs, x = .non ∨ ∃ i, x = .int i) ∧ xs.length ≤ 4000 ∧ (xs.all isPg = true → ∃ M : List Nat, xs = (nz M).map V.int) ∧
  ∀ b H', (xs.all isPg = false → b = false) → (∀ M : List Nat, xs.all isPg = true → xs = (nz M).map V.int → b = decide M.Nodup) → Ex H H' → Q (.bl b) H'
theorem ints_inj : ∀ {a b : List Int}, a.map V.int = b.map V.int → a = b
  | [], [], _ => rfl
  | [], y :: b, h => by cases h
  | x :: a, [], h => by cases h
  | x :: a, y :: b, h => by
    rw [List.map_cons, List.map_cons] at h
    injection h with h1 h2
    injection h1 with h1
    rw [h1, ints_inj h2]
theorem nz_nd (M : List Nat) : (nz M).Nodup ↔ M.Nodup := ⟨fun h => by
  unfold nz List.Nodup at h
  rw [List.pairwise_map] at h
  exact h.imp fun h e => h (by rw [e]), nz_nodup⟩
theorem ok_is_trail (T : Txt K mg) : FnOk P w K mg base CX0 3 T.f_is_trail T.fd_is_trail ["value"] (spIsTr K) := by
  refine T.F_is_trail.ok sc_is_trail (fun vs H Q E h => ?_) (fun cdv A outer s H vs Q E hr h => ?_)
  · obtain ⟨a, xs, rfl, _⟩ := h
    rfl
  · obtain ⟨a, xs, rfl, hA, hk, hl, hM, k⟩ := h
    apply Exists.intro
    apply And.intro
    · apply pss_cons
      · apply ps_if
        · exact (PW.pt (pw_or (pt_not (pt_val (pe_callB (k_isi (K := K) rfl) (by rfl) T.n_isinstance (by decide +kernel) (pa_cons (pv 0) (pa_cons (pe_bltn (v := .ty "list") (by rfl) T.n_list (by decide +kernel) rfl) pa_nil))))) (pw_or1 (pt_not (pt_val (pe_callB (k_all (K := K) rfl rfl) (by rfl) T.n_all (by decide +kernel) (pa_cons (pe_lc (own := [("page", 1)]) rfl sc_is_trail.nd (k_pi_list (K := K) rfl (pv 0)) (blkOk_by (own := [("page", 1)]) (N := ["value", "page"]) (sc := defScope s_is_trail) (by decide +kernel)) (fun _ _ _ _ _ => by exact (pg_name (i := 1) sc_is_trail.nd rfl (.inl rfl))) (fun _ _ _ _ _ => by exact pts_nil) (fun _ _ _ _ _ => by exact (pe_call (ok_is_page T) (hr.mono (by decide)) (by rfl) T.m_is_page T.F_is_page.kp T.b_is_page .nil pass0 (pa_cons (pv 1) pa_nil)))) pa_nil)))))))
        · apply pss_one
          exact (ps_ret pe_bl)
        · exact pss_nil
      apply pss_one
      exact (ps_ret (pe_cmpR op_eq (k_lenSetA (K := K) rfl (by rfl) T.n_len (by rfl) T.n_set (pv 0)) (pe_callB (k_len (K := K) rfl) (by rfl) T.n_len PySem.boot_len (pa_cons (pv 0) pa_nil)) (by rfl)))
    walk_at "sx"
    refine isi_x (b := true) (tyx_l hA) (by decide +kernel) ?_
    walk_at "sx"
    refine ⟨⟨_, hA⟩, fun D nD => ?_⟩
    refine lc_list (fun _ => true) (fun i => V.bl (isPg (xs.getD i .non))) hA nD (by omega) (fun u => rfl) (fun i x _ => tyes) (fun i x hx _ => ?_) (fun H2 e2 hD => ?_)
    · refine ev_call (vs := [x]) (ea_cons (ev_var rfl) ea_nil) (fun H3 e3 Q3 q3 E3 => ⟨x, rfl, ?_, ?_⟩)
      · rcases hk x (List.mem_of_getElem? hx) with rfl | ⟨i, rfl⟩
        · exact kd_non
        · exact .int i
      · rw [isPg_inR]
        rw [List.getD_eq_getElem?_getD, hx] at q3
        exact q3 H3 (Ex.refl _)
    · rw [pgs_kept] at hD
      refine allL (.inl (.inl hD)) ?_
      have ea : (xs.map isPg).all id = xs.all isPg := by rw [List.all_map]; rfl
      rw [ea]
      cases c : xs.all isPg with
      | false =>
        walk_at "sx"
        exact k false _ (fun _ => rfl) (fun M h => by rw [c] at h; cases h) e2
      | true =>
        obtain ⟨M, rfl⟩ := hM c
        rw [List.length_map, nz_len] at hl
        walk_at "sx"
        refine ⟨_, ex_l e2 hA, by rw [nz_len]; exact hl, fun n h1 h2 => ?_⟩
        refine lenL (ex_l e2 hA) ?_
        rw [List.length_map, nz_len]
        walk_at "sx"
        rw [nz_len, nz_nd] at h1
        refine k _ _ (fun h => by rw [c] at h; cases h) (fun M' _ h => ?_) e2
        have e : M' = M := by
          refine (nz_inj (ints_inj h)).symm
        rw [e]
        by_cases nd : M.Nodup
        · rw [decide_eq_true nd, decide_eq_true (by have := h1.mpr nd; omega)]
        · rw [decide_eq_false nd, decide_eq_false (fun z => nd (h1.mp (by omega)))]
def spCkTr (K : PySem.W.Frag) : Sp := fun vs H Q _ => ∃ (a : Addr) (M : List Nat), vs = [.ref a] ∧ SqL K H a ((nz M).map V.int) ∧ M.Nodup ∧ (∀ n ∈ M, n < 40) ∧ ∀ H', Ex H H' → Q .non H'
theorem pages_all {M : List Nat} (h : ∀ n ∈ M, n < 40) : ((nz M).map V.int).all isPg = true := by
  rw [← numV_ints h]
  exact pages_are h
theorem ok_check_trail (T : Txt K mg) : FnOk P w K mg base CX0 4 T.f_check_trail T.fd_check_trail ["trail"] (spCkTr K) := by
  refine T.F_check_trail.ok sc_check_trail (fun vs H Q E h => ?_) (fun cdv A outer s H vs Q E hr h => ?_)
  · obtain ⟨a, M, rfl, _⟩ := h
    rfl
  · obtain ⟨a, M, rfl, hA, nd, lt, k⟩ := h
    apply Exists.intro
    apply And.intro
    · apply pss_one
      apply ps_if
      · exact (pt_not (pt_val (pe_call (ok_is_trail T) (hr.mono (by decide)) (by rfl) T.m_is_trail T.F_is_trail.kp T.b_is_trail .nil pass0 (pa_cons (pv 0) pa_nil))))
      · apply pss_one
        exact ps_never
      · exact pss_nil
    walk_at "sx"
    have l40 := nodup_lt 40 nd lt
    refine ⟨a, _, rfl, hA, fun x hx => ?_, by rw [List.length_map, nz_len]; omega, fun _ => ⟨M, rfl⟩, fun b H1 _ h2 e1 => ?_⟩
    · obtain ⟨i, _, rfl⟩ := List.mem_map.mp hx
      exact .inr ⟨i, rfl⟩
    · rw [h2 M (pages_all lt) rfl, decide_eq_true nd]
      walk_at "sx"
      exact k _ e1
def spTS (K : PySem.W.Frag) : Sp := fun vs H Q _ => ∃ (a : Addr) (M : List Nat), vs = [.ref a] ∧ SqL K H a ((nz M).map V.int) ∧ (∀ n ∈ M, n < 40) ∧ M.length ≤ 300 ∧ ∀ H', Ex H H' → Q (.str (Txt.join NX (M.map numS))) H'
theorem log_k {i : Int} (h0 : 0 ≤ i) (h1 : i < 1000) : i.natAbs.log2 < 1920 := log2_small (by decide) (Nat.lt_of_lt_of_le (m := 2 ^ 10) (by omega) (Nat.pow_le_pow_right (by omega) (by omega)))
theorem nums_kept (r : List Nat) : (List.range r.length).map (fun j => V.str (numS (r.getD j 0))) = (r.map numS).map V.str := by
  rw [List.map_map]
  apply List.ext_getElem?
  intro i
  rw [List.getElem?_map, List.getElem?_map]
  by_cases c : i < r.length
  · rw [List.getElem?_range c, List.getElem?_eq_getElem c, Option.map_some, Option.map_some, List.getD_eq_getElem?_getD, List.getElem?_eq_getElem c]
    rfl
  · rw [List.getElem?_eq_none (by rw [List.length_range]; omega), List.getElem?_eq_none (by omega)]
    rfl
theorem tot_nums {M : List Nat} (h : ∀ n ∈ M, n < 1000) : totL (M.map numS) ≤ 3 * M.length := by
  unfold totL
  induction M with
  | nil => simp
  | cons n M ih =>
    have a := ih fun u hu => h u (List.mem_cons_of_mem _ hu)
    have b := (numS_len (h n List.mem_cons_self)).2
    rw [List.map_cons, List.map_cons, List.sum_cons, List.length_cons]
    omega
theorem ok_trail_string (T : Txt K mg) : FnOk P w K mg base CX0 1 T.f_trail_string T.fd_trail_string ["trail"] (spTS K) := by
  refine T.F_trail_string.ok sc_trail_string (fun vs H Q E h => ?_) (fun cdv A outer s H vs Q E hr h => ?_)
  · obtain ⟨a, t, rfl, _⟩ := h
    rfl
  · obtain ⟨a, M, rfl, hA, lt, hl, k⟩ := h
    apply Exists.intro
    apply And.intro
    · apply pss_one
      exact (ps_ret (k_bm (K := K) rfl (pe_bm PySem.F.plainAttrs_str PySem.F.slot_str_join PySem.F.type_str_join (k_join (K := K) rfl) (pe_glob (v := .str " > ") rfl T.c_NEXT ⟨_, rfl⟩) (pa_cons (pe_lc (own := [("page", 1)]) rfl sc_trail_string.nd (k_pi_list (K := K) rfl (pv 0)) (blkOk_by (own := [("page", 1)]) (N := ["trail", "page"]) (sc := defScope s_trail_string) (by decide +kernel)) (fun _ _ _ _ _ => by exact (pg_name (i := 1) sc_trail_string.nd rfl (.inl rfl))) (fun _ _ _ _ _ => by exact pts_nil) (fun _ _ _ _ _ => by exact (pe_callTy call_str_int (by rfl) T.n_str (by decide +kernel) (pa_cons (pv 1) pa_nil)))) pa_nil))))
    walk_at "sx"
    refine ⟨rfl, ⟨_, hA⟩, fun D nD => ?_⟩
    refine lc_list (fun _ => true) (fun j => V.str (numS (M.getD j 0))) hA nD (by rw [List.length_map, nz_len]; omega) (fun u => rfl) (fun i x _ => tyes) (fun i x hx _ => ?_) (fun H2 e2 hD => ?_)
    · obtain ⟨n, hn, rfl⟩ := at_nz hx
      have := lt n (List.mem_of_getElem? hn)
      intro H3 e3 R hR
      walk_at "sx"
      refine ⟨_, rfl, _, rfl, log_k (by omega) (by omega), ?_⟩
      rw [List.getD_eq_getElem?_getD, hn] at hR
      exact hR _ (Ex.refl _)
    · rw [kept_all, List.length_map, nz_len, nums_kept] at hD
      refine joinL (.inl (.inl hD)) ?_ (k _ e2)
      have s := tot_nums (M := M) (fun n hn => by have := lt n hn; omega)
      unfold totL at s
      have e : ((" > " : String) : Str).length = 3 := by decide
      rw [e, List.length_map]
      omega
def spCkTrS (K : PySem.W.Frag) : Sp := fun vs H Q _ => ∃ (a : Addr) (M : List Nat), vs = [.ref a] ∧ SqL K H a ((nz M).map V.int) ∧ M.Nodup ∧ (∀ n ∈ M, n < 40) ∧ ∀ H', Ex H H' → Q (.str (Txt.join NX (M.map numS))) H'
theorem ok_format_trail (T : Txt K mg) : FnOk P w K mg base CX0 5 T.f_format_trail T.fd_format_trail ["trail"] (spCkTrS K) := by
  refine T.F_format_trail.ok sc_format_trail (fun vs H Q E h => ?_) (fun cdv A outer s H vs Q E hr h => ?_)
  · obtain ⟨a, t, rfl, _⟩ := h
    rfl
  · obtain ⟨a, M, rfl, hA, nd, lt, k⟩ := h
    apply Exists.intro
    apply And.intro
    · apply pss_cons
      · exact (ps_expr (pe_call (ok_check_trail T) (hr.mono (by decide)) (by rfl) T.m_check_trail T.F_check_trail.kp T.b_check_trail .nil pass0 (pa_cons (pv 0) pa_nil)))
      apply pss_one
      exact (ps_ret (pe_call (ok_trail_string T) (hr.mono (by decide)) (by rfl) T.m_trail_string T.F_trail_string.kp T.b_trail_string .nil pass0 (pa_cons (pv 0) pa_nil)))
    walk_at "sx"
    have l40 := nodup_lt 40 nd lt
    refine ⟨a, M, rfl, hA, nd, lt, fun H1 e1 => ?_⟩
    exact ⟨a, M, rfl, ex_l e1 hA, lt, by omega, fun H2 e2 => k _ (e1.trans e2)⟩
def spCkStr (K : PySem.W.Frag) (C : Addr) : Sp := fun vs H Q E => ∃ (v : V) (A : String) (b : Bool), vs = [v] ∧ TyX K H v (.type A) ∧ kitB A "str" = some b ∧ (b = true → Q .non H) ∧ (b = false → E (.ref C) none H)
theorem ok_check_string (T : Txt K mg) : FnOk P w K mg base (L2.CX P w) 1 T.f_check_string T.fd_check_string ["text"] (spCkStr K T.C_InvalidFormatError) := by
  refine T.F_check_string.okX sc_check_string (fun vs H Q E h => ?_) (fun cdv A outer s H vs Q E hr h => ?_)
  · obtain ⟨v, A, b, rfl, _⟩ := h
    rfl
  · obtain ⟨v, A, b, rfl, ty, kb, k1, k2⟩ := h
    apply Exists.intro
    apply And.intro
    · apply pss_one
      apply ps_if
      · exact (pt_not (pt_val (pe_callB (k_isi (K := K) rfl) (by rfl) T.n_isinstance (by decide +kernel) (pa_cons (pv 0) (pa_cons (pe_bltn (v := .ty "str") (by rfl) T.n_str (by decide +kernel) rfl) pa_nil)))))
      · apply pss_one
        exact (ps_raise rfl (takes_of rfl rfl rfl rfl) (pmk_own PySem.F.excBase_ValueError T.x_InvalidFormatError T.g_InvalidFormatError T.k_InvalidFormatError (raises_own T.b_InvalidFormatError T.t_InvalidFormatError) (by rfl)))
      · exact pss_nil
    walk_at "sx"
    refine isi_x (b := b) ty kb ?_
    cases b with
    | true =>
      walk_at "sx"
      exact k1 rfl
    | false =>
      walk_at "sx"
      exact k2 rfl
def spParseT (K : PySem.W.Frag) (C : Addr) : Sp := fun vs H Q E => ∃ (v : V) (A : String) (b : Bool), vs = [v] ∧ TyX K H v (.type A) ∧ kitB A "str" = some b ∧ (b = false → E (.ref C) none H) ∧
  (b = true → ∃ x : Str, v = .str x ∧ x.length ≤ 4000 ∧ (∀ L, ptT x = some L → ∀ r H', H r = none → Ex H H' → H' r = some (.lst ((nz L).map V.int)) → Q (.ref r) H') ∧ (ptT x = none → ∀ H', Ex H H' → E (.ref C) none H'))
theorem ok_parse_trail (T : Txt K mg) : FnOk P w K mg base (L2.CX P w) 4 T.f_parse_trail T.fd_parse_trail ["text"] (spParseT K T.C_InvalidFormatError) := by
  refine T.F_parse_trail.okX sc_parse_trail (fun vs H Q E h => ?_) (fun cdv A outer s H vs Q E hr h => ?_)
  · obtain ⟨v, A, b, rfl, _⟩ := h
    rfl
  · obtain ⟨v, A, b, rfl, ty, kb, k2, k1⟩ := h
    apply Exists.intro
    apply And.intro
    · apply pss_cons
      · exact (ps_expr (pe_callS (ok_check_string T) (hr.mono (by decide)) (by rfl) T.m_check_string T.F_check_string.kp T.b_check_string (fun σ => passAt (takes_of rfl rfl rfl rfl) σ) (pa_cons (pv 0) pa_nil)))
      apply pss_cons
      · exact (ps_set (i := 1) sc_parse_trail.nd rfl (.inl rfl) (pe_ifExp (pt_cmpR op_ne (pv 0) pe_str (by rfl)) (pe_lc (own := [("word", 2)]) rfl sc_parse_trail.nd (k_pi_list (K := K) rfl (k_bm (K := K) rfl (pe_bm PySem.F.plainAttrs_str PySem.F.slot_str_split PySem.F.type_str_split k_split (pv 0) (pa_cons (pe_glob (v := .str " > ") rfl T.c_NEXT ⟨_, rfl⟩) pa_nil)))) (blkOk_by (own := [("word", 2)]) (N := ["text", "trail", "word"]) (sc := defScope s_parse_trail) (by decide +kernel)) (fun _ _ _ _ _ => by exact (pg_name (i := 2) sc_parse_trail.nd rfl (.inl rfl))) (fun _ _ _ _ _ => by exact pts_nil) (fun _ _ _ _ _ => by exact (pe_call (ok_number_in T) (hr.mono (by decide)) (by rfl) T.m_number_in T.F_number_in.kp T.b_number_in .nil pass0 (pa_cons (pv 2) pa_nil)))) (pe_lst pa_nil)))
      apply pss_cons
      · apply ps_if
        · exact (pt_not (pt_val (pe_call (ok_is_trail T) (hr.mono (by decide)) (by rfl) T.m_is_trail T.F_is_trail.kp T.b_is_trail .nil pass0 (pa_cons (pv 1) pa_nil))))
        · apply pss_one
          exact (ps_raise rfl (takes_of rfl rfl rfl rfl) (pmk_own PySem.F.excBase_ValueError T.x_InvalidFormatError T.g_InvalidFormatError T.k_InvalidFormatError (raises_own T.b_InvalidFormatError T.t_InvalidFormatError) (by rfl)))
        · exact pss_nil
      apply pss_one
      exact (ps_ret (pv 1))
    walk_at "sx"
    refine ⟨v, A, b, rfl, ty, kb, fun hb => ?_, k2⟩
    obtain ⟨x, rfl, hx, q1, q2⟩ := k1 hb
    have fin : ∀ r H', H r = none → Ex H H' → H' r = some (.lst ((wordsT x).map numV)) → spIsTr K [.ref r] H' (fun x H' => ∃ k, x = V.bl k ∧ if (!k) = true then E (Value.ref T.C_InvalidFormatError) none H' else Q (V.ref r) H') E0 := fun r H' nr e hr => by
      refine ⟨r, _, rfl, .inl (.inl hr), fun y hy => ?_, by rw [List.length_map]; have := wordsT_len hx; omega, fun h => ?_, fun b H2 g1 g2 e2 => ⟨b, rfl, ?_⟩⟩
      · obtain ⟨u, _, rfl⟩ := List.mem_map.mp hy
        rcases numV_kind u with z | ⟨n, _, z, _⟩
        · exact .inl z
        · exact .inr ⟨_, z⟩
      · obtain ⟨M, _, _, m3⟩ := pages_of h
        exact ⟨M, m3⟩
      · cases hp : ptT x with
        | some L =>
          obtain ⟨nd, lt, we⟩ := ptT_some hp
          rw [we] at g2
          rw [g2 L (pages_are lt) (numV_ints lt), decide_eq_true nd, if_neg (by decide)]
          refine q1 L hp r H2 nr (e.trans e2) ?_
          rw [e2 _ _ hr, we, numV_ints lt]
        | none =>
          have hb0 : b = false := by
            cases c : ((wordsT x).map numV).all isPg with
            | false => exact g1 c
            | true =>
              obtain ⟨M, m1, m2, m3⟩ := pages_of c
              rw [g2 M c m3]
              exact decide_eq_false (ptT_none hp m1 m2)
          rw [hb0, if_pos (by decide)]
          exact q2 hp _ (e.trans e2)
    refine x_neS.mpr ⟨_, rfl, ?_⟩
    have se : Str.ofString "" = Str.empty := by decide +kernel
    rw [se]
    by_cases c : x = Str.empty
    · rw [decide_eq_true c, if_neg (by decide)]
      refine ⟨sz_ok (by omega), fun p np => fin p _ np (Ex.new np) ?_⟩
      rw [upd_same]
      unfold wordsT
      rw [if_pos c]
      rfl
    · rw [decide_eq_false c, if_pos (by decide)]
      refine ⟨tyS, _, _, rfl, rfl, by decide, sz_ok (by omega), fun p np => ⟨p, rfl, ⟨_, .inl (.inl upd_same)⟩, fun D nD => ?_⟩⟩
      have e1 := Ex.new np (o := .lst ((Txt.split x (Str.ofString " > ")).map V.str))
      have hp1 : (upd H p (.lst ((Txt.split x (Str.ofString " > ")).map V.str))) p = some (.lst ((Txt.split x (Str.ofString " > ")).map V.str)) := upd_same
      have we : wordsT x = Txt.split x (Str.ofString " > ") := by unfold wordsT; rw [if_neg c]
      rw [← we] at hp1 e1 nD ⊢
      have wl := wordsT_len hx
      generalize upd H p (.lst ((wordsT x).map V.str)) = H1 at *
      refine lc_list (xs := (wordsT x).map V.str) (fun _ => true) (fun i => numV ((wordsT x).getD i Str.empty)) (.inl (.inl hp1)) nD (by rw [List.length_map]; omega) (fun u => rfl) (fun i x _ => tyes) (fun i y hy _ => ?_) (fun H2 e2 hD => ?_)
      · rw [List.getElem?_map] at hy
        cases hu : (wordsT x)[i]? with
        | none => rw [hu] at hy; cases hy
        | some u =>
          rw [hu] at hy
          obtain rfl : V.str u = y := Option.some.inj hy
          refine ev_call (vs := [V.str u]) (ea_cons (ev_var rfl) ea_nil) (fun H3 e3 Q3 q3 E3 => ?_)
          refine ⟨u, rfl, by have := wordsT_word (List.mem_of_getElem? hu); omega, fun H9 e9 => ?_⟩
          rw [List.getD_eq_getElem?_getD, hu] at q3
          exact q3 _ e9
      · refine fin D H2 (fresh_back e1 nD) (e1.trans e2) ?_
        rw [hD, kept_all, List.length_map]
        congr 2
        apply List.ext_getElem?
        intro i
        rw [List.getElem?_map, List.getElem?_map]
        by_cases ci : i < (wordsT x).length
        · rw [List.getElem?_range ci, List.getElem?_eq_getElem ci, Option.map_some, Option.map_some, List.getD_eq_getElem?_getD, List.getElem?_eq_getElem ci]
          rfl
        · rw [List.getElem?_eq_none (by rw [List.length_range]; omega), List.getElem?_eq_none (by omega)]
          rfl
end
end LW

set_option Elab.async false
set_option linter.all false
set_option maxRecDepth 100000
set_option maxHeartbeats 4000000
namespace LW
open PySem PySem.Spec PyProof.Rows L2 BC Evl TR
local macro_rules | `(tactic| walk_at "sx") => `(tactic| try simp only [x_seq, x_next, x_brk, x_cnt, x_nev, x_ret, x_retN, x_drop, x_ifS, x_asg, x_gn, x_gsub, x_par, x_par3, x_aug, x_for, x_lc, x_rng1, x_rng2, x_rng3, x_ilist, x_itup, x_ienum, x_izip, x_izipA, x_istr, x_var, x_c, x_op, x_un, x_test, x_b, x_chain, x_and, x_or, x_not, x_andV, x_orV, x_notV, x_ife, x_nil, x_cons, x_lst, x_tup, x_cb, x_call, x_callK, x_callS, x_bm, x_bm0, x_tru, x_sl, x_nopart, x_part, x_revL, x_I0, x_I, x_U, x_ip, x_ipC, x_eqI, x_neI, x_eqB, x_neB, x_eqS, x_neS, x_isB, x_isNB, x_lrg, x_gall, x_lenSet, x_augS, x_sortSet, x_sortSetB, x_lenSetA, x_rg1, x_rg2, x_mulS, x_fmtS, x_gstar, x_inS, x_addS, x_js0, x_js, x_jn, x_fmt, x_callS,
  L2.start, List.map_cons, List.map_nil, List.length_cons, List.length_nil, Nat.reduceAdd, Nat.reduceSub, Nat.sub_self, Nat.zero_add, List.replicate, List.replicate_succ, List.replicate_zero, List.append_nil, List.cons_append, List.nil_append, List.set_cons_zero, List.set_cons_succ, List.getElem?_cons_zero, List.getElem?_cons_succ, Option.some.injEq, V.int.injEq, V.bl.injEq, V.ref.injEq, V.str.injEq, List.cons.injEq, and_true, true_and, exists_eq_left', exists_eq_left, exists_and_left, exists_eq, if_true, if_false, ite_true, ite_false, Bool.true_eq_false, Bool.false_eq_true, reduceIte, reduceCtorEq, Bool.not_true, Bool.not_false, decide_true, decide_false, decide_eq_true_eq, Bool.and_true, Bool.true_and, Bool.and_self, Bool.and_false, Bool.false_and, Bool.or_self, Bool.or_false, Bool.false_or, Bool.or_true, Bool.true_or, eq_self])
section
variable {P : Program} {w : World} {K : PySem.W.Frag} {mg : Str → Option Value} {base : Heap}
theorem isx {H : Hp} {Q : VK} {a D C : Addr} {l l2 : List Addr} (x : IsEx H a (.ref D)) (e : ExcC K D) (m : MroIs K D l) (hD : D ∈ l) (m2 : MroIs K C l2) (t : PySem.W.typeIn K (.ref C) = some (.type "type")) (q : Q (.bl (decide (C ∈ l))) H) : rIsX K [.ref a, .ref C] H Q :=
  ⟨a, D, _, _, _, rfl, x, e, .own C, kit_own m m2 t hD, q⟩
theorem isx_ve {H : Hp} {Q : VK} {a D : Addr} {l : List Addr} (x : IsEx H a (.ref D)) (e : ExcC K D) (m : MroIs K D l) (q : Q (.bl true) H) : rIsX K [.ref a, .ty "ValueError"] H Q :=
  ⟨a, D, _, _, _, rfl, x, e, .ty _, kit_ve m, q⟩
theorem nd_ne {l : List Addr} (h : l.Nodup) {i j : Nat} {x y : Addr} (hi : l[i]? = some x) (hj : l[j]? = some y) (ne : i ≠ j) : x ≠ y := fun e => ne (nd_at h hi (by rw [e]; exact hj))
theorem not2 {x F B : Addr} (h1 : x ≠ F) (h2 : x ≠ B) : decide (x ∈ [F, B]) = false := decide_eq_false (by simp [h1, h2])
def spName (K : PySem.W.Frag) (D : Addr) (z : Str) : Sp := fun vs H Q _ => ∃ (a : Addr), vs = [.ref a] ∧ IsEx H a (.ref D) ∧ ∀ H', Ex H H' → Q (.str z) H'
theorem ok_law_name_of (T : Txt K mg) : FnU P w K mg base 1 T.f_law_name_of T.fd_law_name_of ["_law_caught"] (spName K T.C_InvalidFormatError (("format" : String) : Str)) := by
  refine fun_okU T.F_law_name_of sc_law_name_of (fun vs H Q E h => ?_) (fun cdv A outer s H vs Q E hr h => ?_)
  · obtain ⟨a, rfl, _⟩ := h
    rfl
  · obtain ⟨a, rfl, x, k⟩ := h
    apply Exists.intro
    apply And.intro
    · apply pss_cons
      · apply ps_if
        · exact (PW.pt (pw_or (pt_not (pt_val (pe_callB (k_isX (K := K) rfl) (by rfl) T.n_isinstance (by decide +kernel) (pa_cons (pv 0) (pa_cons (pe_bltn (v := .ty "ValueError") (by rfl) T.n_ValueError (by decide +kernel) rfl) pa_nil))))) (pw_or1 (pt_not (pt_val (pe_callB (k_isX (K := K) rfl) (by rfl) T.n_isinstance (by decide +kernel) (pa_cons (pv 0) (pa_cons (pe_glob (v := .ref T.C_BreadcrumbsError) (by rfl) T.g_BreadcrumbsError rfl) pa_nil))))))))
        · apply pss_one
          exact (ps_ret pe_str)
        · exact pss_nil
      apply pss_cons
      · apply ps_if
        · exact (pt_val (pe_callB (k_isXT (K := K) rfl) (by rfl) T.n_isinstance (by decide +kernel) (pa_cons (pv 0) (pa_cons (pe_tup (pa_cons (pe_glob (v := .ref T.C_EmptyHistoryError) (by rfl) T.g_EmptyHistoryError rfl) (pa_cons (pe_glob (v := .ref T.C_InvalidLengthsError) (by rfl) T.g_InvalidLengthsError rfl) (pa_cons (pe_glob (v := .ref T.C_InvalidNumberError) (by rfl) T.g_InvalidNumberError rfl) pa_nil)))) pa_nil))))
        · apply pss_one
          exact (ps_ret pe_str)
        · exact pss_nil
      apply pss_cons
      · exact (ps_set (i := 1) sc_law_name_of.nd rfl (.inl rfl) (pe_lst (pa_cons (pe_callB (k_isX (K := K) rfl) (by rfl) T.n_isinstance (by decide +kernel) (pa_cons (pv 0) (pa_cons (pe_glob (v := .ref T.C_InvalidSiteError) (by rfl) T.g_InvalidSiteError rfl) pa_nil))) (pa_cons (pe_callB (k_isX (K := K) rfl) (by rfl) T.n_isinstance (by decide +kernel) (pa_cons (pv 0) (pa_cons (pe_glob (v := .ref T.C_InvalidPageError) (by rfl) T.g_InvalidPageError rfl) pa_nil))) pa_nil))))
      apply pss_cons
      · exact (ps_set (i := 1) sc_law_name_of.nd rfl (.inl rfl) (pe_op op_cat (pv 1) (pe_lst (pa_cons (pe_callB (k_isX (K := K) rfl) (by rfl) T.n_isinstance (by decide +kernel) (pa_cons (pv 0) (pa_cons (pe_glob (v := .ref T.C_InvalidPagesError) (by rfl) T.g_InvalidPagesError rfl) pa_nil))) (pa_cons (pe_callB (k_isX (K := K) rfl) (by rfl) T.n_isinstance (by decide +kernel) (pa_cons (pv 0) (pa_cons (pe_glob (v := .ref T.C_InvalidTrailError) (by rfl) T.g_InvalidTrailError rfl) pa_nil))) pa_nil)))))
      apply pss_cons
      · exact (ps_set (i := 1) sc_law_name_of.nd rfl (.inl rfl) (pe_op op_cat (pv 1) (pe_lst (pa_cons (pe_callB (k_isX (K := K) rfl) (by rfl) T.n_isinstance (by decide +kernel) (pa_cons (pv 0) (pa_cons (pe_glob (v := .ref T.C_InvalidVisitsError) (by rfl) T.g_InvalidVisitsError rfl) pa_nil))) (pa_cons (pe_callB (k_isX (K := K) rfl) (by rfl) T.n_isinstance (by decide +kernel) (pa_cons (pv 0) (pa_cons (pe_glob (v := .ref T.C_InvalidEffectError) (by rfl) T.g_InvalidEffectError rfl) pa_nil))) pa_nil)))))
      apply pss_cons
      · exact (ps_expr (k_bm (K := K) rfl (pe_bm PySem.F.plainAttrs_list PySem.F.slot_list_append PySem.F.type_list_append mt_append (pv 1) (pa_cons (pe_callB (k_isX (K := K) rfl) (by rfl) T.n_isinstance (by decide +kernel) (pa_cons (pv 0) (pa_cons (pe_glob (v := .ref T.C_InvalidFormatError) (by rfl) T.g_InvalidFormatError rfl) pa_nil))) pa_nil))))
      apply pss_cons
      · apply ps_if
        · exact (pt_cmpR op_ne (k_bm (K := K) rfl (pe_bm PySem.F.plainAttrs_list PySem.F.slot_list_count PySem.F.type_list_count (k_cntF (K := K) rfl) (pv 1) (pa_cons pe_bl pa_nil))) pe_int (by rfl))
        · apply pss_one
          exact (ps_ret pe_str)
        · exact pss_nil
      apply pss_one
      exact (ps_ret (pe_ix (k_ix_list (K := K) rfl) (pe_lst (pa_cons pe_str (pa_cons pe_str (pa_cons pe_str (pa_cons pe_str (pa_cons pe_str (pa_cons pe_str (pa_cons pe_str pa_nil)))))))) (k_bm (K := K) rfl (pe_bm PySem.F.plainAttrs_list PySem.F.slot_list_index PySem.F.type_list_index (k_index (K := K) rfl) (pv 1) (pa_cons pe_bl pa_nil))) (fun _ _ => rfl)))
    have e := T.e_InvalidFormatError
    have m := T.r_InvalidFormatError
    have hD : T.C_InvalidFormatError ∈ [T.C_InvalidFormatError, T.C_BreadcrumbsError] := List.mem_cons_self
    have nd := T.nd
    have n : ∀ {i : Nat} {y : Addr}, [T.C_BreadcrumbsError, T.C_EmptyHistoryError, T.C_InvalidEffectError, T.C_InvalidFormatError, T.C_InvalidLengthsError, T.C_InvalidNumberError, T.C_InvalidPageError, T.C_InvalidPagesError, T.C_InvalidSiteError, T.C_InvalidTrailError, T.C_InvalidVisitsError][i]? = some y → i ≠ 0 → i ≠ 3 → decide (y ∈ [T.C_InvalidFormatError, T.C_BreadcrumbsError]) = false := fun {i y} h h0 h3 => not2 (nd_ne nd h (j := 3) rfl h3) (nd_ne nd h (j := 0) rfl h0)
    have o1 := n (i := 1) rfl (by decide) (by decide)
    have o2 := n (i := 2) rfl (by decide) (by decide)
    have o4 := n (i := 4) rfl (by decide) (by decide)
    have o5 := n (i := 5) rfl (by decide) (by decide)
    have o6 := n (i := 6) rfl (by decide) (by decide)
    have o7 := n (i := 7) rfl (by decide) (by decide)
    have o8 := n (i := 8) rfl (by decide) (by decide)
    have o9 := n (i := 9) rfl (by decide) (by decide)
    have o10 := n (i := 10) rfl (by decide) (by decide)
    have o3 : decide (T.C_InvalidFormatError ∈ [T.C_InvalidFormatError, T.C_BreadcrumbsError]) = true := decide_eq_true hD
    have o0 : decide (T.C_BreadcrumbsError ∈ [T.C_InvalidFormatError, T.C_BreadcrumbsError]) = true := decide_eq_true (by simp)
    walk_at "sx"
    refine isx_ve x e m ⟨_, rfl, ?_⟩
    walk_at "sx"
    refine isx x e m hD T.r_BreadcrumbsError T.t_BreadcrumbsError ⟨_, rfl, ?_⟩
    rw [o0]
    walk_at "sx"
    refine ⟨sz_ok (by omega), fun p np => ?_⟩
    have x1 := Ex.new np (o := .tup [V.ref T.C_EmptyHistoryError, V.ref T.C_InvalidLengthsError, V.ref T.C_InvalidNumberError])
    have i1 := x.at (x1 a)
    have kn := kitAny_cons' (kit_own m T.r_EmptyHistoryError T.t_EmptyHistoryError hD) (kitAny_cons' (kit_own m T.r_InvalidLengthsError T.t_InvalidLengthsError hD) (kitAny_cons' (cs := []) (kit_own m T.r_InvalidNumberError T.t_InvalidNumberError hD) rfl))
    rw [o1, o4, o5] at kn
    refine ⟨a, _, p, _, _, _, rfl, i1, e, upd_same, .cons (.own _) (.cons (.own _) (.cons (.own _) .nil)), kn, ?_⟩
    generalize upd H p (.tup [V.ref T.C_EmptyHistoryError, V.ref T.C_InvalidLengthsError, V.ref T.C_InvalidNumberError]) = H1 at x1 i1 ⊢
    refine ⟨_, rfl, ?_⟩
    walk_at "sx"
    refine isx i1 e m hD T.r_InvalidSiteError T.t_InvalidSiteError (isx i1 e m hD T.r_InvalidPageError T.t_InvalidPageError ⟨sz_ok (by omega), fun p2 n2 => ?_⟩)
    rw [o8, o6]
    have x2 := Ex.new n2 (o := .lst [V.bl false, V.bl false])
    have i2 := i1.at (x2 a)
    refine isx i2 e m hD T.r_InvalidPagesError T.t_InvalidPagesError (isx i2 e m hD T.r_InvalidTrailError T.t_InvalidTrailError ⟨sz_ok (by omega), fun p3 n3 => ?_⟩)
    rw [o7, o9]
    have x3 := Ex.new n3 (o := .lst [V.bl false, V.bl false])
    refine catL (x3 _ _ upd_same) upd_same (sz_ok (by simp)) fun p4 n4 => ?_
    have x4 := Ex.new n4 (o := .lst [V.bl false, V.bl false, V.bl false, V.bl false])
    have x14 := x1.trans (x2.trans (x3.trans x4))
    have h4 : (upd (upd (upd H1 p2 (.lst [V.bl false, V.bl false])) p3 (.lst [V.bl false, V.bl false])) p4 (.lst ([V.bl false, V.bl false] ++ [V.bl false, V.bl false]))) p4 = some (.lst [V.bl false, V.bl false, V.bl false, V.bl false]) := upd_same
    have i4 := x.at (x14 a)
    have i4 : IsEx (upd (upd (upd H1 p2 (.lst [V.bl false, V.bl false])) p3 (.lst [V.bl false, V.bl false])) p4 (.lst ([V.bl false, V.bl false] ++ [V.bl false, V.bl false]))) a (.ref T.C_InvalidFormatError) := i4
    have x14 : Ex H (upd (upd (upd H1 p2 (.lst [V.bl false, V.bl false])) p3 (.lst [V.bl false, V.bl false])) p4 (.lst ([V.bl false, V.bl false] ++ [V.bl false, V.bl false]))) := x14
    generalize upd (upd (upd H1 p2 (.lst [V.bl false, V.bl false])) p3 (.lst [V.bl false, V.bl false])) p4 (.lst ([V.bl false, V.bl false] ++ [V.bl false, V.bl false])) = H4 at x14 h4 i4 ⊢
    refine isx i4 e m hD T.r_InvalidVisitsError T.t_InvalidVisitsError (isx i4 e m hD T.r_InvalidEffectError T.t_InvalidEffectError ⟨sz_ok (by omega), fun p5 n5 => ?_⟩)
    rw [o10, o2]
    have x5 := Ex.new n5 (o := .lst [V.bl false, V.bl false])
    refine catL (x5 _ _ h4) upd_same (sz_ok (by simp)) fun p6 n6 => ?_
    have x6 := Ex.new n6 (o := .lst ([V.bl false, V.bl false, V.bl false, V.bl false] ++ [V.bl false, V.bl false]))
    have x56 := x14.trans (x5.trans x6)
    have h6 : (upd (upd H4 p5 (.lst [V.bl false, V.bl false])) p6 (.lst ([V.bl false, V.bl false, V.bl false, V.bl false] ++ [V.bl false, V.bl false]))) p6 = some (.lst [V.bl false, V.bl false, V.bl false, V.bl false, V.bl false, V.bl false]) := upd_same
    have i6 := i4.at (x5.trans x6 a)
    have n6H : H p6 = none := fresh_back (x14.trans x5) n6
    generalize upd (upd H4 p5 (.lst [V.bl false, V.bl false])) p6 (.lst ([V.bl false, V.bl false, V.bl false, V.bl false] ++ [V.bl false, V.bl false])) = H6 at x56 h6 i6 ⊢
    refine ⟨tyL h6, isx i6 e m hD T.r_InvalidFormatError T.t_InvalidFormatError ?_⟩
    rw [o3]
    refine appL h6 (BC.sz_lt (by simp)) ?_
    have x7 := x56.mut n6H (o := .lst ([V.bl false, V.bl false, V.bl false, V.bl false, V.bl false, V.bl false] ++ [V.bl true]))
    have h7 : (upd H6 p6 (.lst ([V.bl false, V.bl false, V.bl false, V.bl false, V.bl false, V.bl false] ++ [V.bl true]))) p6 = some (.lst [V.bl false, V.bl false, V.bl false, V.bl false, V.bl false, V.bl false, V.bl true]) := upd_same
    generalize upd H6 p6 (.lst ([V.bl false, V.bl false, V.bl false, V.bl false, V.bl false, V.bl false] ++ [V.bl true])) = H7 at x7 h7 ⊢
    refine ⟨tyL h7, p6, _, _, rfl, rfl, .inl (.inl h7), rfl, rfl, ?_⟩
    rw [show ([V.bl false, V.bl false, V.bl false, V.bl false, V.bl false, V.bl false, V.bl true].countP fun z => eqV z (V.bl true)) = 1 by rfl]
    refine x_neI.mpr ⟨_, rfl, ?_⟩
    rw [decide_eq_true (show (((1 : Nat) : Int)) = 1 by rfl)]
    walk_at "sx"
    refine ⟨sz_ok (by omega), fun q nq => ?_⟩
    have e8 := Ex.new nq (o := .lst [V.str (Str.ofString "site"), V.str (Str.ofString "page"), V.str (Str.ofString "pages"), V.str (Str.ofString "trail"), V.str (Str.ofString "visits"), V.str (Str.ofString "effect"), V.str (Str.ofString "format")])
    have h8 := e8 _ _ h7
    refine ⟨tyL h8, p6, _, _, 6, V.bl true, rfl, rfl, .inl (.inl h8), rfl, rfl, rfl, rfl, fun m z' hm hz => ?_, ?_⟩
    · match m, hm, hz with
      | 0, _, hz => cases hz; rfl
      | 1, _, hz => cases hz; rfl
      | 2, _, hz => cases hz; rfl
      | 3, _, hz => cases hz; rfl
      | 4, _, hz => cases hz; rfl
      | 5, _, hz => cases hz; rfl
    · refine ixL (.inl (.inl upd_same)) (atI_n (j := 6) rfl rfl) ?_
      exact k _ (x7.trans e8)
/-- what the trail's reader gives, or the word format -/
def outV (b : Bool) (v : V) (H' : Hp) (r : V) : Prop := ∃ x : Str, v = .str x ∧ ((∃ L q, ptT x = some L ∧ r = .ref q ∧ H' q = some (.lst ((nz L).map V.int))) ∨ (ptT x = none ∧ r = .str (("format" : String) : Str)))
def spOut (K : PySem.W.Frag) : Sp := fun vs H Q _ => ∃ (v : V) (A : String) (b : Bool), vs = [v] ∧ TyX K H v (.type A) ∧ kitB A "str" = some b ∧ (b = true → ∃ x : Str, v = .str x ∧ x.length ≤ 4000 ∧ ∀ r H', Ex H H' → ((∃ L q, ptT x = some L ∧ r = .ref q ∧ H' q = some (.lst ((nz L).map V.int))) ∨ (ptT x = none ∧ r = .str (("format" : String) : Str))) → Q r H') ∧
  (b = false → ∀ H', Ex H H' → Q (.str (("format" : String) : Str)) H')
theorem ok_law_outcome (T : Txt K mg) : FnOk P w K mg base CX0 5 T.f_law_outcome T.fd_law_outcome ["_law_value"] (spOut K) := by
  refine T.F_law_outcome.ok sc_law_outcome (fun vs H Q E h => ?_) (fun cdv A outer s H vs Q E hr h => ?_)
  · obtain ⟨v, A, b, rfl, _⟩ := h
    rfl
  · obtain ⟨v, A, b, rfl, ty, kb, k1, k2⟩ := h
    apply Exists.intro
    apply And.intro
    · apply pss_cons
      · exact (ps_set (i := 1) sc_law_outcome.nd rfl (.inl rfl) pe_non)
      apply pss_cons
      · exact (ps_try_trk (i := 2) rfl rfl rfl sc_law_outcome.nd rfl rfl ⟨rfl, by decide, .inl T.g_BreadcrumbsError⟩ takes0 (fun W pn xe tk _ => (pss_one (ps_set (i := 1) sc_law_outcome.nd rfl (.inl rfl) (pe_callS (ok_parse_trail T) (hr.mono (by decide)) (by rfl) T.m_parse_trail T.F_parse_trail.kp T.b_parse_trail (fun σ => passAt tk σ) (pa_cons (pv 0) pa_nil))))) (fun a cls d pn => (pss_one (ps_set (i := 1) sc_law_outcome.nd rfl (.inl rfl) (pe_callU (ok_law_name_of T) (roomM (L2H.roomH_of (hr.mono (by decide)))) (by rfl) T.m_law_name_of T.F_law_name_of.kp T.b_law_name_of pass0 (pa_cons (pv 2) pa_nil))))))
      apply pss_one
      exact (ps_ret (pv 1))
    walk_at "sx"
    have ra : ∀ H1, Ex H H1 → (∀ H', Ex H H' → Q (.str (("format" : String) : Str)) H') → WE (wTrk K (Value.ref T.C_BreadcrumbsError) 2 (fun a cls d => tAsg (tCall (spName K T.C_InvalidFormatError (Str.ofString "format")) [] E0 (tCons (tVar 2) tNil)) (gName 1)) (fun _ _ _ _ => False) { nx := tRet (tVar 1) { nx := fun x H' => Q V.non H', rt := Q }, rt := Q }) [some v, some V.non, none] (.ref T.C_InvalidFormatError) none H1 := fun H1 e1 kq => by
      refine ⟨true, exm_yes T.r_InvalidFormatError T.e_BreadcrumbsError T.t_BreadcrumbsError (by simp), fun _ e ne => ?_, fun z => nomatch z⟩
      have x2 := e1.trans (Ex.new ne (o := ExT (.ref T.C_InvalidFormatError) none e))
      walk_at "sx"
      refine ⟨e, rfl, isEx_T upd_same, fun H2 e2 => ?_⟩
      walk_at "sx"
      exact kq _ (x2.trans e2)
    refine ⟨v, A, b, rfl, ty, kb, fun hb => ra H (Ex.refl _) (k2 hb), fun hb => ?_⟩
    obtain ⟨x, rfl, hx, q⟩ := k1 hb
    refine ⟨x, rfl, hx, fun L hL r H' nr e hr => q _ _ e (.inl ⟨L, r, hL, rfl, hr⟩), fun hN H' e => ra H' e fun H2 e2 => q _ _ e2 (.inr ⟨hN, rfl⟩)⟩
theorem inV_strs (p : Str) (ws : List Str) : inV (.str p) (ws.map V.str) = decide (p ∈ ws) := by
  unfold inV
  rw [List.any_map]
  by_cases h : p ∈ ws
  · rw [decide_eq_true h, List.any_eq_true]
    exact ⟨p, h, by simp [eqV]⟩
  · rw [decide_eq_false h, List.any_eq_false]
    intro x hx
    have : x ≠ p := fun e => h (e ▸ hx)
    simp [eqV, this]
theorem flat_strs (ws : List Str) : (ws.map V.str).all flatV = true := by
  rw [List.all_eq_true]
  intro v hv
  obtain ⟨x, _, rfl⟩ := List.mem_map.mp hv
  rfl
theorem ninS {H : Hp} {Q : VK} {a : Addr} {p : Str} {ws : List Str} (h : SqL K H a (ws.map V.str)) (q : Q (.bl (!decide (p ∈ ws))) H) : rIn K true (.str p) (.ref a) H Q :=
  ⟨a, _, rfl, .inl h, rfl, flat_strs ws, by rw [inV_strs]; exact q⟩
def pgs40 : List Str := (List.range 40).map numS
theorem mem40 {u : Str} : u ∈ pgs40 ↔ ∃ n, n < 40 ∧ u = numS n := by
  unfold pgs40
  rw [List.mem_map]
  exact ⟨fun ⟨n, h, e⟩ => ⟨n, List.mem_range.mp h, e.symm⟩, fun ⟨n, h, e⟩ => ⟨n, List.mem_range.mpr h, e.symm⟩⟩
theorem go_out {u : Str} {ws : List Str} {acc : List Nat} (h : u ∉ pgs40) : ptGo (u :: ws) acc = none := by
  unfold ptGo
  cases e : numIn u with
  | none => rfl
  | some n =>
    obtain ⟨_, b⟩ := numIn_some e
    have : ¬ (n < 40 ∧ n ∉ acc) := fun z => h (mem40.mpr ⟨n, z.1, b⟩)
    simp only [this, if_false]
theorem go_twice {n : Nat} {ws : List Str} {acc : List Nat} (h : n < 40) (m : n ∈ acc) : ptGo (numS n :: ws) acc = none := by
  unfold ptGo
  rw [numIn_num (by omega)]
  simp [m]
theorem go_on {n : Nat} {ws : List Str} {acc : List Nat} (h : n < 40) (m : n ∉ acc) : ptGo (numS n :: ws) acc = ptGo ws (acc ++ [n]) := by
  conv => lhs; unfold ptGo
  rw [numIn_num (by omega)]
  simp [m, h]
theorem int_numS {n : Nat} (h : n < 1000) : intText? (numS n) = some (n : Int) := TL.int_num (by
  have := (numS_len h).2
  rw [TL.len_tl, tl_numS] at this
  omega)
theorem kept40 : kept 40 (fun _ => true) (fun i => V.str (numS i)) = pgs40.map V.str := by
  rw [kept_all]
  unfold pgs40
  rw [List.map_map]
  rfl
def JPs (H : Hp) (x : Str) (g rw a : Addr) (i : Nat) (σ' : L2.St) (H' : Hp) : Prop := ∃ l1 l4 acc, σ' = [some (.str x), l1, some (.ref g), some (.ref rw), l4] ∧ Ex H H' ∧ H' rw = some (.lst ((nz acc).map V.int)) ∧ H' g = some (.lst (pgs40.map V.str)) ∧ H' a = some (.lst ((wordsT x).map V.str)) ∧ ptGo ((wordsT x).drop i) acc = ptT x ∧ acc.Nodup ∧ ∀ n ∈ acc, n < 40
def spParsed (K : PySem.W.Frag) : Sp := fun vs H Q _ => ∃ (x : Str), vs = [.str x] ∧ x.length ≤ 4000 ∧ ∀ r H', Ex H H' → ((∃ L q, ptT x = some L ∧ r = .ref q ∧ H' q = some (.lst ((nz L).map V.int))) ∨ (ptT x = none ∧ r = .str (("format" : String) : Str))) → Q r H'
theorem ok_law_parsed (T : Txt K mg) : FnOk P w K mg base CX0 1 T.f_law_parsed T.fd_law_parsed ["_law_written"] (spParsed K) := by
  refine T.F_law_parsed.ok sc_law_parsed (fun vs H Q E h => ?_) (fun cdv A outer s H vs Q E hr h => ?_)
  · obtain ⟨x, rfl, _⟩ := h
    rfl
  · obtain ⟨x, rfl, hx, k⟩ := h
    apply Exists.intro
    apply And.intro
    · apply pss_cons
      · exact (ps_par (i := 2) (j := 3) (by rfl) sc_law_parsed.nd rfl rfl (by decide) rfl rfl (pa_cons (pe_lc (own := [("_law_number", 4)]) rfl sc_law_parsed.nd (pi_range1 (by rfl) T.n_range (pa_cons pe_int pa_nil)) (blkOk_by (own := [("_law_number", 4)]) (N := ["_law_written", "_law_word", "_law_pages", "_law_row", "_law_number"]) (sc := defScope s_law_parsed) (by decide +kernel)) (fun _ _ _ _ _ => by exact (pg_name (i := 4) sc_law_parsed.nd rfl (.inl rfl))) (fun _ _ _ _ _ => by exact pts_nil) (fun _ _ _ _ _ => by exact (pe_callTy call_str_int (by rfl) T.n_str (by decide +kernel) (pa_cons (pv 4) pa_nil)))) (pa_cons (pe_lst pa_nil) pa_nil)) (by rfl))
      apply pss_cons
      · apply ps_for PassesOwn.never rfl
        · exact (k_pi_list (K := K) rfl (pe_ix (k_ix_list (K := K) rfl) (pe_lst (pa_cons (k_bm (K := K) rfl (pe_bm PySem.F.plainAttrs_str PySem.F.slot_str_split PySem.F.type_str_split k_split (pv 0) (pa_cons pe_str pa_nil))) (pa_cons (pe_lst pa_nil) pa_nil))) (pe_callTy call_int1 (by rfl) T.n_int (by decide +kernel) (pa_cons (pe_cmpR op_eq (pv 0) pe_str (by rfl)) pa_nil)) (fun _ _ => rfl)))
        · exact (pg_name (i := 1) sc_law_parsed.nd rfl (.inl rfl))
        · apply pss_cons
          · apply ps_if
            · exact (PW.pt (pw_or (pt_cmpR (k_notIn (K := K) rfl) (pv 1) (pv 2) (by rfl)) (pw_or1 (pt_cmpR (k_in (K := K) rfl) (pe_callTy k_intS (by rfl) T.n_int (by decide +kernel) (pa_cons (pv 1) pa_nil)) (pv 3) (by rfl)))))
            · apply pss_one
              exact (ps_ret pe_str)
            · exact pss_nil
          apply pss_one
          exact (ps_expr (k_bm (K := K) rfl (pe_bm PySem.F.plainAttrs_list PySem.F.slot_list_append PySem.F.type_list_append mt_append (pv 3) (pa_cons (pe_callTy k_intS (by rfl) T.n_int (by decide +kernel) (pa_cons (pv 1) pa_nil)) pa_nil))))
      apply pss_one
      exact (ps_ret (pv 3))
    walk_at "sx"
    refine ⟨by omega, by omega, fun D nD => ?_⟩
    refine lc_rng (lo := 0) (n := 40) (fun _ => true) (fun i => V.str (numS i)) nD (by omega) (fun u => rfl) (fun i _ => tyes) (fun i hi _ => ?_) (fun H1 e1 hD => ?_)
    · intro H3 e3 R hR
      walk_at "sx"
      refine ⟨_, rfl, _, rfl, log_k (by omega) (by omega), ?_⟩
      rw [show (0 : Int) + (i : Int) = (i : Int) by omega]
      exact hR _ (Ex.refl _)
    · rw [kept40] at hD
      refine ⟨sz_ok (by omega), fun r nr => ⟨_, _, ⟨rfl, rfl⟩, tyS, _, _, rfl, rfl, by decide, sz_ok (by omega), fun p np => ⟨sz_ok (by omega), fun q nq => ⟨sz_ok (by omega), fun l nl => .inr ?_⟩⟩⟩⟩
      have er := Ex.new nr (o := .lst [])
      have ep := Ex.new np (o := .lst ((Txt.split x (Str.ofString " > ")).map V.str))
      have eq1 := Ex.new nq (o := .lst [])
      have el := Ex.new nl (o := .lst [V.ref p, V.ref q])
      have hr := (ep.trans (eq1.trans el)) _ _ (upd_same (H := H1) (a := r) (o := .lst []))
      have hp := (eq1.trans el) _ _ (upd_same (H := upd H1 r (.lst [])) (a := p) (o := .lst ((Txt.split x (Str.ofString " > ")).map V.str)))
      have hq := el _ _ (upd_same (H := upd (upd H1 r (.lst [])) p (.lst ((Txt.split x (Str.ofString " > ")).map V.str))) (a := q) (o := .lst []))
      have hg := (er.trans (ep.trans (eq1.trans el))) _ _ hD
      have hl := (upd_same (H := upd (upd (upd H1 r (.lst [])) p (.lst ((Txt.split x (Str.ofString " > ")).map V.str))) q (.lst [])) (a := l) (o := .lst [V.ref p, V.ref q]))
      have eA := e1.trans (er.trans (ep.trans (eq1.trans el)))
      have nrH : H r = none := fresh_back e1 nr
      have npr : p ≠ r := fun z => by subst z; rw [upd_same] at np; cases np
      have nqr : q ≠ r := fun z => by
        have h1 := ep _ _ (upd_same (H := H1) (a := r) (o := .lst []))
        subst z
        rw [h1] at nq
        cases nq
      have nDr : D ≠ r := ne_of_none hD nr
      generalize upd (upd (upd (upd H1 r (.lst [])) p (.lst ((Txt.split x (Str.ofString " > ")).map V.str))) q (.lst [])) l (.lst [V.ref p, V.ref q]) = HA at *
      have se : Str.ofString "" = Str.empty := by decide +kernel
      obtain ⟨a, ha, nar, hix⟩ : ∃ a, HA a = some (.lst ((wordsT x).map V.str)) ∧ a ≠ r ∧ atI [V.ref p, V.ref q] (if x = Str.ofString "" then 1 else 0) = some (.ref a) := by
        rw [se]
        by_cases c : x = Str.empty
        · refine ⟨q, ?_, nqr, by rw [if_pos c]; rfl⟩
          unfold wordsT
          rw [if_pos c]
          exact hq
        · refine ⟨p, ?_, npr, by rw [if_neg c]; rfl⟩
          unfold wordsT
          rw [if_neg c]
          exact hp
      refine ixL (.inl (.inl hl)) hix ⟨a, rfl, ⟨_, .inl (.inl ha)⟩, ?_⟩
      refine lg_list (xs := (wordsT x).map V.str) (JPs H x D r a) ⟨none, none, [], rfl, eA, hr, hg, ha, rfl, List.nodup_nil, fun n h => by simp at h⟩ (fun i σ' H' _ hP => by obtain ⟨_, _, _, _, _, _, _, h, _⟩ := hP; exact .inl (.inl h)) (fun i y σ' H' hy hP => ?_) (fun σ' H' hP => ?_)
      · obtain ⟨l1, l4, acc, rfl, e, hr, hg, ha, go, nd, lt⟩ := hP
        rw [List.getElem?_map] at hy
        cases hu : (wordsT x)[i]? with
        | none => rw [hu] at hy; cases hy
        | some u =>
          rw [hu] at hy
          obtain rfl : V.str u = y := Option.some.inj hy
          have hi := (List.getElem?_eq_some_iff.mp hu).1
          have hdr : (wordsT x).drop i = u :: (wordsT x).drop (i + 1) := by
            rw [List.drop_eq_getElem_cons hi]
            congr 1
            rw [List.getElem?_eq_getElem hi] at hu
            exact Option.some.inj hu
          rw [hdr] at go
          walk_at "sx"
          refine ninS (.inl (.inl hg)) ⟨_, rfl, ?_⟩
          by_cases c : u ∈ pgs40
          · obtain ⟨n, n40, rfl⟩ := mem40.mp c
            have inn := int_numS (n := n) (by omega)
            have nl := (numS_len (n := n) (by omega)).2
            rw [decide_eq_true c]
            walk_at "sx"
            refine ⟨_, _, rfl, inn, by omega, inL (.inl (.inl hr)) ⟨_, rfl, ?_⟩⟩
            by_cases m : n ∈ acc
            · rw [decide_eq_true (nz_mem.mpr m)]
              walk_at "sx"
              rw [go_twice n40 m] at go
              exact k _ _ e (.inr ⟨go.symm, rfl⟩)
            · rw [decide_eq_false (fun z => m (nz_mem.mp z))]
              walk_at "sx"
              have l40 := nodup_lt 40 nd lt
              refine ⟨tyL hr, _, _, rfl, inn, by omega, appL hr (BC.sz_lt (by rw [List.length_map, nz_len]; omega)) ?_⟩
              rw [go_on n40 m] at go
              exact ⟨_, _, acc ++ [n], rfl, e.mut nrH, by rw [upd_same, nz_v], by rw [upd_ne nDr]; exact hg, by rw [upd_ne nar]; exact ha, go, List.nodup_append.mpr ⟨nd, by simp, fun u hu v hv => by rw [List.mem_singleton.mp hv]; exact fun z => m (z ▸ hu)⟩, fun u hu => by
                rcases List.mem_append.mp hu with z | z
                · exact lt u z
                · rw [List.mem_singleton.mp z]; exact n40⟩
          · rw [decide_eq_false c]
            walk_at "sx"
            rw [go_out c] at go
            exact k _ _ e (.inr ⟨go.symm, rfl⟩)
      · obtain ⟨l1, l4, acc, rfl, e, hr, hg, ha, go, nd, lt⟩ := hP
        rw [List.length_map, List.drop_length] at go
        walk_at "sx"
        exact k _ _ e (.inl ⟨acc, r, go.symm, rfl, hr⟩)
end
end LW

set_option Elab.async false
set_option linter.all false
set_option maxRecDepth 100000
set_option maxHeartbeats 4000000
namespace LW
open PySem PySem.Spec PyProof.Rows L2 BC Evl TR
local macro_rules | `(tactic| walk_at "sx") => `(tactic| try simp only [x_seq, x_next, x_brk, x_cnt, x_nev, x_ret, x_retN, x_drop, x_ifS, x_asg, x_gn, x_gsub, x_par, x_par3, x_aug, x_for, x_lc, x_rng1, x_rng2, x_rng3, x_ilist, x_itup, x_ienum, x_izip, x_izipA, x_istr, x_var, x_c, x_op, x_un, x_test, x_b, x_chain, x_and, x_or, x_not, x_andV, x_orV, x_notV, x_ife, x_nil, x_cons, x_lst, x_tup, x_cb, x_call, x_callK, x_callS, x_bm, x_bm0, x_tru, x_sl, x_nopart, x_part, x_revL, x_I0, x_I, x_U, x_ip, x_ipC, x_eqI, x_neI, x_eqB, x_neB, x_eqS, x_neS, x_isB, x_isNB, x_lrg, x_gall, x_lenSet, x_augS, x_sortSet, x_sortSetB, x_lenSetA, x_rg1, x_rg2, x_mulS, x_fmtS, x_gstar, x_inS, x_addS, x_js0, x_js, x_jn, x_fmt, x_callS,
  L2.start, List.map_cons, List.map_nil, List.length_cons, List.length_nil, Nat.reduceAdd, Nat.reduceSub, Nat.sub_self, Nat.zero_add, List.replicate, List.replicate_succ, List.replicate_zero, List.append_nil, List.cons_append, List.nil_append, List.set_cons_zero, List.set_cons_succ, List.getElem?_cons_zero, List.getElem?_cons_succ, Option.some.injEq, V.int.injEq, V.bl.injEq, V.ref.injEq, V.str.injEq, List.cons.injEq, and_true, true_and, exists_eq_left', exists_eq_left, exists_and_left, exists_eq, if_true, if_false, ite_true, ite_false, Bool.true_eq_false, Bool.false_eq_true, reduceIte, reduceCtorEq, Bool.not_true, Bool.not_false, decide_true, decide_false, decide_eq_true_eq, Bool.and_true, Bool.true_and, Bool.and_self, Bool.and_false, Bool.false_and, Bool.or_self, Bool.or_false, Bool.false_or, Bool.or_true, Bool.true_or, eq_self])
section
variable {P : Program} {w : World} {K : PySem.W.Frag} {mg : Str → Option Value} {base : Heap}
def spSource : Sp := fun vs H Q _ => ∃ (n : Int) (k : Nat), vs = [.int n, .int k] ∧ k ≤ 1000 ∧ ∀ p H', H p = none → Ex H H' → BagAt H' p 0 → Q (.ref p) H'
theorem ok_law_source (T : Txt K mg) : FnOk P w K mg base CX0 1 T.f_law_source T.fd_law_source ["_law_cell", "_law_k"] spSource := by
  refine T.F_law_source.ok sc_law_source (fun vs H Q E h => ?_) (fun cdv A outer s H vs Q E hr h => ?_)
  · obtain ⟨n, k, rfl, _⟩ := h
    rfl
  · obtain ⟨n, i, rfl, hi, k⟩ := h
    apply Exists.intro
    apply And.intro
    · apply pss_one
      exact (ps_ret (pe_lst (pa_cons (pe_callB (call_max2 rfl) (by rfl) T.n_max (by decide +kernel) (pa_cons pe_int (pa_cons (pe_op op_sub (pv 0) (pe_op op_powX pe_int pe_int)) pa_nil))) (pa_cons (pe_op op_add (pe_op op_mulX (pe_op op_modX (pv 0) (pe_op op_add (pe_op op_powX pe_int pe_int) pe_int)) pe_int) (pv 1)) (pa_cons pe_int pa_nil)))))
    walk_at "sx"
    have t18 : Int.toNat 18 = 18 := rfl
    have t33 : Int.toNat 33 = 33 := rfl
    rw [t33]
    have m0 : 0 ≤ n % (10 ^ 33 + 153) := Int.emod_nonneg _ (by decide)
    have m1 : n % (10 ^ 33 + 153) < 10 ^ 33 + 153 := Int.emod_lt_of_pos _ (by decide)
    refine ⟨⟨by decide, by decide, by decide⟩, _, _, ⟨rfl, rfl⟩, ⟨by decide, by decide, by decide⟩, by decide, .inl (.inr ⟨by decide, by decide⟩), sz_ok (by omega), fun p np => ?_⟩
    refine k p _ np (Ex.new np) ⟨_, _, _, upd_same, by omega, by omega, by omega, by omega⟩
theorem ok_law_draw (T : Txt K mg) : FnOk P w K mg base CX0 1 T.f_law_draw T.fd_law_draw ["_law_source_here", "_law_count"] spDraw := by
  refine T.F_law_draw.ok sc_law_draw (fun vs H Q E h => ?_) (fun cdv A outer s H vs Q E hr h => ?_)
  · obtain ⟨b, m, c, rfl, _⟩ := h
    rfl
  · obtain ⟨b, m, c, rfl, h1, h2, hB, hc, k⟩ := h
    obtain ⟨x0, x1, x2, hb, h3, h4, h5, h6⟩ := hB
    apply Exists.intro
    apply And.intro
    · apply pss_cons
      · apply ps_if
        · exact (pt_cmpR op_gt (pe_ix (k_ix_list (K := K) rfl) (pv 0) pe_int (fun _ _ => rfl)) pe_int (by rfl))
        · apply pss_cons
          · exact (ps_set (i := 3) sc_law_draw.nd rfl (.inl rfl) (pe_op op_modX (pe_ix (k_ix_list (K := K) rfl) (pv 0) pe_int (fun _ _ => rfl)) (pv 1)))
          apply pss_cons
          · exact (ps_asg (pe_op op_fdivX (pe_ix (k_ix_list (K := K) rfl) (pv 0) pe_int (fun _ _ => rfl)) (pv 1)) (pg_sub (pv 0) pe_int set_list))
          apply pss_one
          exact (ps_ret (pv 3))
        · exact pss_nil
      apply pss_cons
      · exact (ps_asg (pe_op op_add (pe_ix (k_ix_list (K := K) rfl) (pv 0) pe_int (fun _ _ => rfl)) pe_int) (pg_sub (pv 0) pe_int set_list))
      apply pss_cons
      · exact (ps_set (i := 2) sc_law_draw.nd rfl (.inl rfl) (pe_op op_modX (pe_op op_powX (pe_op op_add (pe_ix (k_ix_list (K := K) rfl) (pv 0) pe_int (fun _ _ => rfl)) (pe_op op_mulX pe_int (pe_ix (k_ix_list (K := K) rfl) (pv 0) pe_int (fun _ _ => rfl)))) pe_int) (pe_op op_add (pe_op op_powX pe_int pe_int) pe_int)))
      apply pss_cons
      · exact (ps_set (i := 2) sc_law_draw.nd rfl (.inl rfl) (pe_op op_modX (pe_op op_powX (pe_op op_add (pv 2) (pe_op op_mulX pe_int (pe_ix (k_ix_list (K := K) rfl) (pv 0) pe_int (fun _ _ => rfl)))) pe_int) (pe_op op_add (pe_op op_powX pe_int pe_int) pe_int)))
      apply pss_one
      exact (ps_ret (pe_op op_modX (pe_op op_fdivX (pv 2) pe_int) (pv 1)))
    walk_at "sx"
    refine ixL (.inl (.inl hb)) (atI_n (j := 0) rfl rfl) ?_
    walk_at "sx"
    have hdm : ∀ i, CDivW i m := fun i => wide_div (b := 2001) h1 (big_lt h1 h2) (by omega) (by omega)
    by_cases h0 : 0 < x0
    · simp only [h0, if_true]
      refine ixL (.inl (.inl hb)) (atI_n (j := 0) rfl rfl) ?_
      walk_at "sx"
      refine ⟨h1, ?_⟩
      refine ixL (.inl (.inl hb)) (atI_n (j := 0) rfl rfl) ?_
      walk_at "sx"
      refine ⟨hdm _, ?_⟩
      refine setL hb (ixN_n (j := 0) rfl (by simp)) ?_
      exact k _ _ (Int.emod_nonneg _ (by omega)) (Int.emod_lt_of_pos _ h1) Fx.put ⟨_, _, _, upd_same, h3, h4, h5, by omega⟩
    · simp only [h0, if_false]
      refine ixL (.inl (.inl hb)) (atI_n (j := 2) rfl rfl) ?_
      walk_at "sx"
      refine setL hb (ixN_n (j := 2) rfl (by simp)) ?_
      have hb2 : (upd H b (.lst [V.int x0, V.int x1, V.int (x2 + 1)])) b = some (.lst [V.int x0, V.int x1, V.int (x2 + 1)]) := upd_same
      refine ixL (.inl (.inl hb2)) (atI_n (j := 1) rfl rfl) ?_
      walk_at "sx"
      refine ixL (.inl (.inl hb2)) (atI_n (j := 2) rfl rfl) ?_
      walk_at "sx"
      have c1 : CMulX 970051 (x2 + 1) := .inl (.inl ⟨by decide, by decide⟩)
      have c2 : CMulX 73 (x2 + 1) := .inl (.inl ⟨by decide, by decide⟩)
      have c3 : CPowX (x1 + 970051 * (x2 + 1)) 3 := ⟨by decide, by decide, Nat.lt_of_lt_of_le (log2_small (k := 300) (by decide) (by omega)) (by decide)⟩
      have t39 : Int.toNat 39 = 39 := rfl
      have t36 : Int.toNat 36 = 36 := rfl
      rw [t39, t36]
      refine ⟨c1, c3, ⟨by decide, by decide, by decide⟩, by decide, ?_⟩
      refine ixL (.inl (.inl hb2)) (atI_n (j := 2) rfl rfl) ?_
      walk_at "sx"
      generalize hz : (x1 + 970051 * (x2 + 1)) ^ Int.toNat 3 % (10 ^ 39 + 3) = z
      have hz0 : 0 ≤ z := by rw [← hz]; exact Int.emod_nonneg _ (by decide)
      have hz1 : z < 10 ^ 39 + 3 := by rw [← hz]; exact Int.emod_lt_of_pos _ (by decide)
      have c4 : CPowX (z + 73 * (x2 + 1)) 3 := ⟨by decide, by decide, Nat.lt_of_lt_of_le (log2_small (k := 300) (by decide) (by omega)) (by decide)⟩
      refine ⟨c2, c4, ⟨by decide, by decide, by decide⟩, by decide, ⟨by decide, by decide⟩, h1, ?_⟩
      exact k _ _ (Int.emod_nonneg _ (by omega)) (Int.emod_lt_of_pos _ h1) Fx.put ⟨_, _, _, hb2, h3, h4, by omega, by omega⟩
/-- a drawn site -/
def spNet : Sp := fun vs H Q _ => ∃ (b : Addr) (mo c : Nat), vs = [.ref b, .int mo] ∧ 1 ≤ mo ∧ mo ≤ 12 ∧ BagAt H b c ∧ c ≤ 100000 ∧
  ∀ s (G : Grid) H', Fx b H H' → BagAt H' b (c + 400) → GridN H H' s G → SiteOk G → G.length ≤ mo → Q (.ref s) H'
def RowsOk (m : Nat) (G : Grid) : Prop := ∀ (i : Nat) (r : List Nat), G[i]? = some r → r.Pairwise (· < ·) ∧ (∀ x ∈ r, x < m) ∧ i ∉ r
def JNe (H : Hp) (b : Addr) (mo m c : Nat) (st : Int) (i : Nat) (σ' : L2.St) (H' : Hp) : Prop := ∃ l3 f l6 l7 l8 G, σ' = [some (.ref b), some (.int mo), some (.int m), l3, some (.int st), some (.ref f), l6, l7, l8] ∧
  Fx b H H' ∧ BagAt H' b (c + 4 + 2 * m * i) ∧ GridN H H' f G ∧ G.length = i ∧ RowsOk m G
def JRo (H0 : Hp) (b : Addr) (mo m c : Nat) (st : Int) (f r : Addr) (i : Nat) (j : Nat) (σ' : L2.St) (H' : Hp) : Prop := ∃ l7 l8 R, σ' = [some (.ref b), some (.int mo), some (.int m), some (.int (i : Int)), some (.int st), some (.ref f), some (.ref r), l7, l8] ∧
  Fx b H0 H' ∧ BagAt H' b (c + 4 + 2 * m * i + 2 * j) ∧ H' r = some (.lst ((nz R).map V.int)) ∧ R.Pairwise (· < ·) ∧ (∀ x ∈ R, x < j) ∧ i ∉ R
end
section
variable {P : Program} {w : World} {K : PySem.W.Frag} {mg : Str → Option Value} {base : Heap}
theorem vis_pg {t : List Int} {p : Int} (h : Pg 40 t) (hp : 0 ≤ p ∧ p < 40) : Pg 40 (vis t p) := fun x hx => by
  unfold vis at hx
  split at hx
  · exact h x (List.mem_of_mem_take hx)
  · rcases List.mem_append.mp hx with q | q
    · exact h x q
    · rw [List.mem_singleton.mp q]; exact hp
theorem vis_nd {t : List Int} (p : Int) (h : t.Nodup) : (vis t p).Nodup := by
  unfold vis
  split
  · exact h.sublist (List.take_sublist _ _)
  · next c =>
    refine List.nodup_append.mpr ⟨h, by simp, fun a ha b hb => ?_⟩
    rw [List.mem_singleton.mp hb]
    exact fun z => c (z ▸ ha)
theorem vis_len (t : List Int) (p : Int) : (vis t p).length ≤ t.length + 1 := by
  unfold vis
  split
  · rw [List.length_take]; omega
  · simp
theorem folds_pg : ∀ (L t : List Int), Pg 40 t → Pg 40 L → t.Nodup → Pg 40 (L.foldl vis t) ∧ (L.foldl vis t).Nodup ∧ (L.foldl vis t).length ≤ t.length + L.length
  | [], t, h, _, n => ⟨h, n, Nat.le_refl _⟩
  | p :: L, t, h, hL, n => by
    have a := folds_pg L (vis t p) (vis_pg h (hL p List.mem_cons_self)) (fun x hx => hL x (List.mem_cons_of_mem _ hx)) (vis_nd p n)
    have b := vis_len t p
    refine ⟨a.1, a.2.1, ?_⟩
    have := a.2.2
    rw [List.length_cons]
    show (L.foldl vis (vis t p)).length ≤ _
    omega
theorem fold_vis {ns : List Int} {i : Nat} {p : Int} (h : ns[i]? = some p) : (ns.take (i + 1)).foldl vis [] = vis ((ns.take i).foldl vis []) p := by
  rw [List.take_add_one, h, List.foldl_append]
  rfl
end
section
variable {P : Program} {w : World} {K : PySem.W.Frag} {mg : Str → Option Value} {base : Heap}
def JLt (H : Hp) (a : Addr) (L : List Int) (i : Nat) (σ' : L2.St) (H' : Hp) : Prop := ∃ r l2, σ' = [some (.ref a), some (.ref r), l2] ∧ H r = none ∧ Ex H H' ∧ H' r = some (.lst (((L.take i).foldl vis []).map V.int))
def spLTr (K : PySem.W.Frag) : Sp := fun vs H Q _ => ∃ (a : Addr) (L : List Int), vs = [.ref a] ∧ SqL K H a (L.map V.int) ∧ L.length ≤ 300 ∧ Pg 40 L ∧ ∀ r H', H r = none → Ex H H' → H' r = some (.lst ((L.foldl vis []).map V.int)) → Q (.ref r) H'
theorem ok_law_trail (T : Txt K mg) : FnOk P w K mg base CX0 1 T.f_law_trail T.fd_law_trail ["_law_row"] (spLTr K) := by
  refine T.F_law_trail.ok sc_law_trail (fun vs H Q E h => ?_) (fun cdv A outer s H vs Q E hr h => ?_)
  · obtain ⟨a, L, rfl, _⟩ := h
    rfl
  · obtain ⟨a, L, rfl, hA, hl, hp, k⟩ := h
    apply Exists.intro
    apply And.intro
    · apply pss_cons
      · exact (ps_set (i := 1) sc_law_trail.nd rfl (.inl rfl) (pe_lst pa_nil))
      apply pss_cons
      · apply ps_for PassesOwn.never rfl
        · exact (k_pi_list (K := K) rfl (pv 0))
        · exact (pg_name (i := 2) sc_law_trail.nd rfl (.inl rfl))
        · apply pss_one
          exact (ps_set (i := 1) sc_law_trail.nd rfl (.inl rfl) (pe_ifExp (pt_cmpR (k_in (K := K) rfl) (pv 2) (pv 1) (by rfl)) (pe_slice (k_sl_list (K := K) rfl) (pv 1) po_none (po_some (pe_op op_add (k_bm (K := K) rfl (pe_bm PySem.F.plainAttrs_list PySem.F.slot_list_index PySem.F.type_list_index (k_index (K := K) rfl) (pv 1) (pa_cons (pv 2) pa_nil))) pe_int))) (pe_op op_cat (pv 1) (pe_lst (pa_cons (pv 2) pa_nil)))))
      apply pss_one
      exact (ps_ret (pv 1))
    walk_at "sx"
    refine ⟨sz_ok (by omega), fun r nr => ⟨⟨_, ex_l (Ex.new nr) hA⟩, ?_⟩⟩
    refine lg_list (xs := L.map V.int) (JLt H a L) ⟨r, none, rfl, nr, Ex.new nr, by rw [upd_same]; rfl⟩ (fun i σ' H' _ hP => by obtain ⟨_, _, _, _, e, _⟩ := hP; exact ex_l e hA)
      (fun i x σ' H' hx hP => ?_) (fun σ' H' hP => ?_)
    · obtain ⟨r, l2, rfl, nr, e, hr⟩ := hP
      obtain ⟨p, hpi, rfl⟩ := ints_at hx
      have hi := (List.getElem?_eq_some_iff.mp hpi).1
      obtain ⟨_, _, g3⟩ := folds_pg (L.take i) [] (fun x hx => by simp at hx) (fun x hx => hp x (List.mem_of_mem_take hx)) (List.nodup_nil)
      rw [List.length_nil, List.length_take] at g3
      unfold JLt
      rw [fold_vis hpi]
      generalize (L.take i).foldl vis [] = t at *
      walk_at "sx"
      refine inL (.inl (.inl hr)) ?_
      by_cases m : p ∈ t
      · have hix := List.idxOf_lt_length_of_mem m
        rw [decide_eq_true m]
        walk_at "sx"
        refine ⟨tyL hr, ?_⟩
        refine idxL (.inl (.inl hr)) m ?_
        walk_at "sx"
        refine slL (.inl (.inl hr)) fun q nq => ?_
        refine ⟨q, some (.int p), ⟨rfl, rfl⟩, fresh_back e nq, e.trans (Ex.new nq), ?_⟩
        rw [upd_same, cut_to (j := t.idxOf p + 1) _ (by omega) (by rw [List.length_map]; omega)]
        unfold vis
        rw [if_pos m, List.map_take]
      · rw [decide_eq_false m]
        walk_at "sx"
        refine ⟨sz_ok (by omega), fun z nz0 => ?_⟩
        have e1 := Ex.new nz0 (o := .lst [V.int p])
        refine catL (e1 _ _ hr) upd_same (sz_ok (by rw [List.length_map, List.length_singleton]; omega)) fun q nq => ?_
        refine ⟨q, some (.int p), ⟨rfl, rfl⟩, fresh_back (e.trans e1) nq, (e.trans e1).trans (Ex.new nq), ?_⟩
        rw [upd_same]
        unfold vis
        rw [if_neg m, List.map_append]
        rfl
    · obtain ⟨r, l2, rfl, nr, e, hr⟩ := hP
      rw [List.length_map, List.take_length] at hr
      walk_at "sx"
      exact k r _ nr e hr
/-- drawn visits -/
def spLVi : Sp := fun vs H Q _ => ∃ (b : Addr) (mo c : Nat), vs = [.ref b, .int mo] ∧ mo ≤ 300 ∧ BagAt H b c ∧ c ≤ 100000 ∧ ∀ r (L : List Int) H', H r = none → Fx b H H' → BagAt H' b (c + 620) → H' r = some (.lst (L.map V.int)) → L.length ≤ 300 → Pg 40 L → Q (.ref r) H'
def JVi (H : Hp) (b : Addr) (mo wd c : Nat) (i : Nat) (σ' : L2.St) (H' : Hp) : Prop := ∃ f l4 l5 L, σ' = [some (.ref b), some (.int mo), some (.int wd), some (.ref f), l4, l5] ∧ H f = none ∧ f ≠ b ∧ Fx b H H' ∧ BagAt H' b (c + 10 + 2 * i) ∧ H' f = some (.lst ((L : List Int).map V.int)) ∧ L.length = i ∧ Pg 40 L
theorem ok_law_visits (T : Txt K mg) : FnOk P w K mg base CX0 2 T.f_law_visits T.fd_law_visits ["_law_source_here", "_law_most"] spLVi := by
  refine T.F_law_visits.ok sc_law_visits (fun vs H Q E h => ?_) (fun cdv A outer s H vs Q E hr h => ?_)
  · obtain ⟨b, mo, c, rfl, _⟩ := h
    rfl
  · obtain ⟨b, mo, c, rfl, hm, hB, hc, k⟩ := h
    apply Exists.intro
    apply And.intro
    · apply pss_cons
      · exact (ps_set (i := 2) sc_law_visits.nd rfl (.inl rfl) (pe_ix (k_ix_list (K := K) rfl) (pe_lst (pa_cons (pe_op op_add pe_int (pe_call (ok_law_draw T) (hr.mono (by decide)) (by rfl) T.m_law_draw T.F_law_draw.kp T.b_law_draw .nil pass0 (pa_cons (pv 0) (pa_cons pe_int pa_nil)))) (pa_cons (pe_op op_add pe_int (pe_call (ok_law_draw T) (hr.mono (by decide)) (by rfl) T.m_law_draw T.F_law_draw.kp T.b_law_draw .nil pass0 (pa_cons (pv 0) (pa_cons pe_int pa_nil)))) (pa_cons pe_int pa_nil)))) (pe_call (ok_law_draw T) (hr.mono (by decide)) (by rfl) T.m_law_draw T.F_law_draw.kp T.b_law_draw .nil pass0 (pa_cons (pv 0) (pa_cons pe_int pa_nil))) (fun _ _ => rfl)))
      apply pss_cons
      · exact (ps_set (i := 3) sc_law_visits.nd rfl (.inl rfl) (pe_lst pa_nil))
      apply pss_cons
      · apply ps_for PassesOwn.never rfl
        · exact (pi_range1 (by rfl) T.n_range (pa_cons (pe_ix (k_ix_list (K := K) rfl) (pe_lst (pa_cons (pe_call (ok_law_draw T) (hr.mono (by decide)) (by rfl) T.m_law_draw T.F_law_draw.kp T.b_law_draw .nil pass0 (pa_cons (pv 0) (pa_cons (pe_op op_add (pv 1) pe_int) pa_nil))) (pa_cons (pe_call (ok_law_draw T) (hr.mono (by decide)) (by rfl) T.m_law_draw T.F_law_draw.kp T.b_law_draw .nil pass0 (pa_cons (pv 0) (pa_cons pe_int pa_nil))) (pa_cons (pv 1) pa_nil)))) (pe_call (ok_law_draw T) (hr.mono (by decide)) (by rfl) T.m_law_draw T.F_law_draw.kp T.b_law_draw .nil pass0 (pa_cons (pv 0) (pa_cons pe_int pa_nil))) (fun _ _ => rfl)) pa_nil))
        · exact (pg_name (i := 4) sc_law_visits.nd rfl (.inl rfl))
        · apply pss_cons
          · exact (ps_set (i := 5) sc_law_visits.nd rfl (.inl rfl) (pe_call (ok_law_draw T) (hr.mono (by decide)) (by rfl) T.m_law_draw T.F_law_draw.kp T.b_law_draw .nil pass0 (pa_cons (pv 0) (pa_cons (pv 2) pa_nil))))
          apply pss_cons
          · apply ps_if
            · exact (PW.pt (pw_and (pt_cmpR op_gt (pv 4) pe_int (by rfl)) (pw_and1 (pt_cmpR op_eq (pe_call (ok_law_draw T) (hr.mono (by decide)) (by rfl) T.m_law_draw T.F_law_draw.kp T.b_law_draw .nil pass0 (pa_cons (pv 0) (pa_cons pe_int pa_nil))) pe_int (by rfl)))))
            · apply pss_one
              exact (ps_set (i := 5) sc_law_visits.nd rfl (.inl rfl) (pe_ix (k_ix_list (K := K) rfl) (pv 3) (pe_un un_neg pe_int) (fun _ _ => rfl)))
            · exact pss_nil
          apply pss_one
          exact (ps_expr (k_bm (K := K) rfl (pe_bm PySem.F.plainAttrs_list PySem.F.slot_list_append PySem.F.type_list_append mt_append (pv 3) (pa_cons (pv 5) pa_nil))))
      apply pss_one
      exact (ps_ret (pv 3))
    refine seq_asg (fun v H' => ∃ wd : Nat, v = .int wd ∧ 1 ≤ wd ∧ wd ≤ 40 ∧ Fx b H H' ∧ BagAt H' b (c + 3)) (fun R hR => ?_) (fun v H1 hC => ?_)
    · walk_at "sx"
      refine ⟨b, _, _, rfl, by omega, big_of (by omega), hB, by omega, fun r1 H1 r10 r11 f1 b1 => ?_⟩
      walk_at "sx"
      refine ⟨b, _, _, rfl, by omega, big_of (by omega), b1, by omega, fun r2 H2 r20 r21 f2 b2 => ?_⟩
      walk_at "sx"
      refine ⟨sz_ok (by omega), fun z nz => ?_⟩
      have ez := Ex.new nz (o := .lst [V.int (1 + r1), V.int (1 + r2), V.int 40])
      refine ⟨b, _, _, rfl, by omega, big_of (by omega), b2.ex ez, by omega, fun r3 H3 r30 r31 f3 b3 => ?_⟩
      obtain ⟨x, hx, em⟩ := pickI (ns := [1 + r1, 1 + r2, 40]) r30 r31
      simp only [List.mem_cons, List.mem_nil_iff, or_false] at hx
      refine ixL (.inl (.inl (f3 _ _ (b2.apart nz) upd_same))) em ?_
      exact hR _ _ ⟨x.toNat, by rw [Int.toNat_of_nonneg (by omega)], by omega, by omega, ((f1.trans f2).trans (Fx.of ez)).trans f3, b3⟩
    obtain ⟨wd, rfl, w1, w40, f1, b1⟩ := hC
    walk_at "sx"
    refine ⟨sz_ok (by omega), fun f nf => ?_⟩
    have ef := Ex.new nf (o := .lst [])
    have nfb := b1.apart nf
    refine ⟨b, _, _, rfl, by omega, big_of (by omega), b1.ex ef, by omega, fun r1 H2 r10 r11 f2 b2 => ?_⟩
    refine ⟨b, _, _, rfl, by omega, big_of (by omega), b2, by omega, fun r2 H3 r20 r21 f3 b3 => ?_⟩
    refine ⟨sz_ok (by omega), fun z nz => ?_⟩
    have ez := Ex.new nz (o := .lst [V.int r1, V.int r2, V.int mo])
    refine ⟨b, _, _, rfl, by omega, big_of (by omega), b3.ex ez, by omega, fun r3 H4 r30 r31 f4 b4 => ?_⟩
    obtain ⟨x, hx, em⟩ := pickI (ns := [r1, r2, (mo : Int)]) r30 r31
    simp only [List.mem_cons, List.mem_nil_iff, or_false] at hx
    refine ixL (.inl (.inl (f4 _ _ (b3.apart nz) upd_same))) em ?_
    have x300 : 0 ≤ x ∧ x ≤ 300 := by omega
    walk_at "sx"
    refine ⟨by omega, by omega, ?_⟩
    have fA := ((f1.trans (Fx.of ef)).trans ((f2.trans f3).trans (Fx.of ez))).trans f4
    have hf : H4 f = some (.lst []) := f4 _ _ nfb (ez _ _ (f3 _ _ nfb (f2 _ _ nfb upd_same)))
    refine lg_rng (JVi H b mo wd c) ⟨f, none, none, [], rfl, fx_none f1 nf nfb, nfb, fA, b4.mono (by omega), hf, rfl, fun x hx => by simp at hx⟩ (fun i σ' H' hi hP => ?_) (fun σ' H' hP => ?_)
    · obtain ⟨f, l4, l5, L, rfl, nf, nfb, fx, bb, hf, hL, pL⟩ := hP
      have hi3 : i < 300 := by omega
      simp only [x_gn, List.set_cons_zero, List.set_cons_succ]
      refine seq_asg (fun v H' => ∃ p : Int, v = .int p ∧ 0 ≤ p ∧ p < 40 ∧ Fx b H H' ∧ BagAt H' b (c + 10 + 2 * i + 1) ∧ H' f = some (.lst (L.map V.int))) (fun R hR => ?_) (fun v H5 hC => ?_)
      · walk_at "sx"
        refine ⟨b, _, _, rfl, by omega, big_of (by omega), bb, by omega, fun p H5 p0 p1 f5 b5 => ?_⟩
        exact hR _ _ ⟨p, rfl, p0, by omega, fx.trans f5, b5, f5 _ _ nfb hf⟩
      obtain ⟨p, rfl, p0, p40, f5, b5, hf5⟩ := hC
      simp only [List.set_cons_zero, List.set_cons_succ]
      refine seq_cut (fun σ' H' => ∃ p : Int, σ' = [some (.ref b), some (.int mo), some (.int wd), some (.ref f), some (.int (0 + (i : Int))), some (.int p)] ∧ 0 ≤ p ∧ p < 40 ∧ Fx b H H' ∧ BagAt H' b (c + 10 + 2 * i + 2) ∧ H' f = some (.lst (L.map V.int))) (fun N hN => ?_) (fun σ6 H6 hC => ?_)
      · walk_at "sx"
        by_cases c0 : 0 < 0 + (i : Int)
        · rw [if_pos c0]
          refine ⟨b, _, _, rfl, by omega, big_of (by omega), b5, by omega, fun q H6 q0 q1 f6 b6 => ?_⟩
          have hf6 := f6 _ _ nfb hf5
          walk_at "sx"
          by_cases cq : q = 0
          · rw [if_pos cq]
            have hlast : L[L.length - 1]? = some (L[L.length - 1]'(by omega)) := List.getElem?_eq_getElem (by omega)
            generalize L[L.length - 1]'(by omega) = y at hlast
            have hy := pL y (List.mem_of_getElem? hlast)
            refine ixL (.inl (.inl hf6)) (atI_last (v := .int y) (by rw [List.length_map, List.getElem?_map, hlast]; rfl)) ?_
            exact hN _ _ ⟨y, rfl, hy.1, hy.2, f5.trans f6, b6.mono (by omega), hf6⟩
          · rw [if_neg cq]
            exact hN _ _ ⟨p, rfl, p0, p40, f5.trans f6, b6.mono (by omega), hf6⟩
        · rw [if_neg c0]
          exact hN _ _ ⟨p, rfl, p0, p40, f5, b5.mono (by omega), hf5⟩
      obtain ⟨q, rfl, q0, q40, f6, b6, hf6⟩ := hC
      walk_at "sx"
      refine ⟨tyL hf6, appL hf6 (BC.sz_lt (by rw [List.length_map]; omega)) ?_⟩
      exact ⟨f, _, _, L ++ [q], rfl, nf, nfb, f6.mut nf, (b6.off nfb).mono (by omega), by rw [upd_same, List.map_append]; rfl, by rw [List.length_append, hL]; rfl, fun y hy => by
        rcases List.mem_append.mp hy with z | z
        · exact pL y z
        · rw [List.mem_singleton.mp z]; exact ⟨q0, q40⟩⟩
    · obtain ⟨f, l4, l5, L, rfl, nf, nfb, fx, bb, hf, hL, pL⟩ := hP
      walk_at "sx"
      exact k f L _ nf fx (bb.mono (by omega)) hf (by omega) pL
end
section
variable {P : Program} {w : World} {K : PySem.W.Frag} {mg : Str → Option Value} {base : Heap}
/-- lists of lists of numbers, so deep -/
inductive Si : Nat → PyData → Prop
  | int (n : Nat) (i : Int) : Si n (.int i)
  | str (n : Nat) (x : Str) : Si n (.str x)
  | lst {n : Nat} {ds : List PyData} (hl : ds.length ≤ 100000) (h : ∀ d ∈ ds, Si n d) : Si (n + 1) (.list ds)
def spFalse : Sp := fun _ _ _ _ => False
def spEq (K : PySem.W.Frag) (n : Nat) : Sp := fun vs H Q _ => ∃ (x y : V) (d : PyData), vs = [x, y] ∧ Dp K H x d ∧ Dp K H y d ∧ Si n d ∧ ∀ H', Ex H H' → Q (.bl true) H'
theorem eq_base (T : Txt K mg) : FnOk P w K mg base CX0 0 T.f_law_equal T.fd_law_equal ["_law_result", "_law_expected"] spFalse :=
  ⟨fun _ _ _ _ h => h.elim, fun _ _ _ _ _ _ _ _ _ _ _ _ _ h => h.elim⟩
theorem eq_step (T : Txt K mg) {lv n : Nat} {sp0 : Sp} (hsp : n = 0 ∨ ∃ n', n = n' + 1 ∧ sp0 = spEq K n') (G : FnOk P w K mg base CX0 lv T.f_law_equal T.fd_law_equal ["_law_result", "_law_expected"] sp0) :
    FnOk P w K mg base CX0 (lv + 1) T.f_law_equal T.fd_law_equal ["_law_result", "_law_expected"] (spEq K n) := by
  refine T.F_law_equal.ok sc_law_equal (fun vs H Q E h => ?_) (fun cdv A outer s H vs Q E hr h => ?_)
  · obtain ⟨x, y, d, rfl, _⟩ := h
    rfl
  · obtain ⟨x, y, d, rfl, hx, hy, hs, k⟩ := h
    apply Exists.intro
    apply And.intro
    · apply pss_cons
      · apply ps_if
        · exact (pt_val (pe_callB (k_isiT (K := K) rfl) (by rfl) T.n_isinstance (by decide +kernel) (pa_cons (pv 1) (pa_cons (pe_tup (pa_cons (pe_bltn (v := .ty "list") (by rfl) T.n_list (by decide +kernel) rfl) (pa_cons (pe_bltn (v := .ty "tuple") (by rfl) T.n_tuple (by decide +kernel) rfl) pa_nil))) pa_nil))))
        · apply pss_cons
          · apply ps_if
            · exact (PW.pt (pw_or (pt_not (pt_val (pe_callB (k_isiT (K := K) rfl) (by rfl) T.n_isinstance (by decide +kernel) (pa_cons (pv 0) (pa_cons (pe_tup (pa_cons (pe_bltn (v := .ty "list") (by rfl) T.n_list (by decide +kernel) rfl) (pa_cons (pe_bltn (v := .ty "tuple") (by rfl) T.n_tuple (by decide +kernel) rfl) pa_nil))) pa_nil))))) (pw_or1 (pt_cmpR op_ne (pe_callB (k_len (K := K) rfl) (by rfl) T.n_len PySem.boot_len (pa_cons (pv 0) pa_nil)) (pe_callB (k_len (K := K) rfl) (by rfl) T.n_len PySem.boot_len (pa_cons (pv 1) pa_nil)) (by rfl)))))
            · apply pss_one
              exact (ps_ret pe_bl)
            · exact pss_nil
          apply pss_cons
          · apply ps_if
            · exact (pt_cmpR op_ne (pe_callB (k_isi (K := K) rfl) (by rfl) T.n_isinstance (by decide +kernel) (pa_cons (pv 0) (pa_cons (pe_bltn (v := .ty "list") (by rfl) T.n_list (by decide +kernel) rfl) pa_nil))) (pe_callB (k_isi (K := K) rfl) (by rfl) T.n_isinstance (by decide +kernel) (pa_cons (pv 1) (pa_cons (pe_bltn (v := .ty "list") (by rfl) T.n_list (by decide +kernel) rfl) pa_nil))) (by rfl))
            · apply pss_one
              exact (ps_ret pe_bl)
            · exact pss_nil
          apply pss_one
          exact (ps_ret (pe_callB (k_all (K := K) rfl rfl) (by rfl) T.n_all (by decide +kernel) (pa_cons (pe_lc (own := [("_law_one", 2), ("_law_other", 3)]) rfl sc_law_equal.nd (k_pi_zipA (K := K) rfl (by rfl) T.n_zip (pa_cons (pv 0) (pa_cons (pv 1) pa_nil))) (blkOk_by (own := [("_law_one", 2), ("_law_other", 3)]) (N := ["_law_result", "_law_expected", "_law_one", "_law_other"]) (sc := defScope s_law_equal) (by decide +kernel)) (fun _ _ _ _ _ => by exact (k_tup (K := K) (n := 2) rfl rfl (pgs_cons (pg_name (i := 2) sc_law_equal.nd rfl (.inl rfl)) (pgs_cons (pg_name (i := 3) sc_law_equal.nd rfl (.inl rfl)) pgs_nil)))) (fun _ _ _ _ _ => by exact pts_nil) (fun _ _ _ _ _ => by exact (pe_call G hr (by rfl) T.m_law_equal T.F_law_equal.kp T.b_law_equal .nil pass0 (pa_cons (pv 2) (pa_cons (pv 3) pa_nil))))) pa_nil)))
        · exact pss_nil
      apply pss_cons
      · apply ps_if
        · exact (PW.pt (pw_or (pt_val (pe_callB (k_isiT (K := K) rfl) (by rfl) T.n_isinstance (by decide +kernel) (pa_cons (pv 1) (pa_cons (pe_tup (pa_cons (pe_bltn (v := .ty "bool") (by rfl) T.n_bool (by decide +kernel) rfl) (pa_cons (pe_bltn (v := .ty "str") (by rfl) T.n_str (by decide +kernel) rfl) pa_nil))) pa_nil)))) (pw_or1 (pt_cmpR op_isN (pv 1) pe_non (by rfl)))))
        · apply pss_one
          exact (ps_ret (pe_and (pe_cmpR op_eq (pe_callB (k_isi (K := K) rfl) (by rfl) T.n_isinstance (by decide +kernel) (pa_cons (pv 0) (pa_cons (pe_bltn (v := .ty "bool") (by rfl) T.n_bool (by decide +kernel) rfl) pa_nil))) (pe_callB (k_isi (K := K) rfl) (by rfl) T.n_isinstance (by decide +kernel) (pa_cons (pv 1) (pa_cons (pe_bltn (v := .ty "bool") (by rfl) T.n_bool (by decide +kernel) rfl) pa_nil))) (by rfl)) (pe_one (pe_cmpR op_eq (pv 0) (pv 1) (by rfl)))))
        · exact pss_nil
      apply pss_one
      exact (ps_ret (pe_and (pe_callB (k_isi (K := K) rfl) (by rfl) T.n_isinstance (by decide +kernel) (pa_cons (pv 0) (pa_cons (pe_bltn (v := .ty "int") (by rfl) T.n_int (by decide +kernel) rfl) pa_nil))) (pe_and (pe_not (pe_callB (k_isi (K := K) rfl) (by rfl) T.n_isinstance (by decide +kernel) (pa_cons (pv 0) (pa_cons (pe_bltn (v := .ty "bool") (by rfl) T.n_bool (by decide +kernel) rfl) pa_nil)))) (pe_one (pe_cmpR op_eq (pv 0) (pv 1) (by rfl))))))
    walk_at "sx"
    refine ⟨sz_ok (by omega), fun p np => ?_⟩
    have e1 := Ex.new np (o := .tup [V.ty "list", V.ty "tuple"])
    have ty := tyx_d (ex_d e1 _ _ hy)
    have tx := tyx_d (ex_d e1 _ _ hx)
    cases hs with
    | int n i =>
      simp only [tyn] at ty tx
      cases hx; cases hy
      refine isiT2 (b := false) (c := false) ty upd_same (by decide +kernel) (by decide +kernel) ?_
      walk_at "sx"
      refine ⟨sz_ok (by omega), fun p2 np2 => ?_⟩
      have e2 := Ex.new np2 (o := .tup [V.ty "bool", V.ty "str"])
      refine isiT2 (b := false) (c := false) (.base (.int i)) upd_same (by decide +kernel) (by decide +kernel) ?_
      walk_at "sx"
      refine isi_x (b := true) (.base (.int i)) (by decide +kernel) ?_
      walk_at "sx"
      refine isi_x (b := false) (.base (.int i)) (by decide +kernel) ?_
      walk_at "sx"
      exact k _ (e1.trans e2)
    | str n i =>
      simp only [tyn] at ty tx
      cases hx; cases hy
      refine isiT2 (b := false) (c := false) ty upd_same (by decide +kernel) (by decide +kernel) ?_
      walk_at "sx"
      refine ⟨sz_ok (by omega), fun p2 np2 => ?_⟩
      have e2 := Ex.new np2 (o := .tup [V.ty "bool", V.ty "str"])
      refine isiT2 (b := false) (c := true) (.base (.str i)) upd_same (by decide +kernel) (by decide +kernel) ?_
      walk_at "sx"
      refine isi_x (b := false) (.base (.str i)) (by decide +kernel) ?_
      refine isi_x (b := false) (.base (.str i)) (by decide +kernel) ?_
      walk_at "sx"
      exact k _ (e1.trans e2)
    | @lst n' ds hl h =>
      simp only [tyn] at ty tx
      obtain ⟨n2, en, rfl⟩ : ∃ n2, n' + 1 = n2 + 1 ∧ sp0 = spEq K n2 := by
        rcases hsp with q | ⟨n2, q1, q2⟩
        · omega
        · exact ⟨n2, q1, q2⟩
      obtain rfl : n' = n2 := by omega
      cases ex_d e1 _ _ hx with
      | lst hx1 hx2 =>
      cases ex_d e1 _ _ hy with
      | lst hy1 hy2 =>
      refine isiT2 (b := true) (c := false) ty upd_same (by decide +kernel) (by decide +kernel) ?_
      walk_at "sx"
      refine ⟨sz_ok (by omega), fun p2 np2 => ?_⟩
      have e2 := Ex.new np2 (o := .tup [V.ty "list", V.ty "tuple"])
      have tx2 := tyx_d (ex_d (e1.trans e2) _ _ hx)
      have ty2 := tyx_d (ex_d (e1.trans e2) _ _ hy)
      simp only [tyn] at ty2 tx2
      refine isiT2 (b := true) (c := false) tx2 upd_same (by decide +kernel) (by decide +kernel) ?_
      walk_at "sx"
      have hx3 := ex_l e2 hx1
      have hy3 := ex_l e2 hy1
      have lx := dp_len hx2
      have ly := dp_len hy2
      refine lenL hx3 (lenL hy3 ?_)
      rw [lx, ly]
      walk_at "sx"
      refine isi_x (b := true) tx2 (by decide +kernel) ?_
      refine isi_x (b := true) ty2 (by decide +kernel) ?_
      walk_at "sx"
      refine ⟨_, _, ⟨rfl, rfl⟩, _, _, .inl ⟨hx3, hy3, fun D nD => ?_⟩⟩
      refine lc_zip (fun _ => true) (fun _ => V.bl true) hx3 hy3 (by omega) nD (by omega) (fun u v => rfl) (fun i u v _ _ => tyes) (fun i u v hu hv _ => ?_) (fun H2 e3 hD => ?_)
      · obtain ⟨d1, f1, g1⟩ := dp_at hx2 hu
        obtain ⟨d2, f2, g2⟩ := dp_at hy2 hv
        rw [f1] at f2
        cases f2
        refine ev_call (vs := [u, v]) (ea_cons (ev_var rfl) (ea_cons (ev_var rfl) ea_nil)) (fun H3 e3 Q3 q3 E3 => ?_)
        exact ⟨u, v, d1, rfl, ex_d (e2.trans e3) _ _ g1, ex_d (e2.trans e3) _ _ g2, h _ (List.mem_of_getElem? f1), q3⟩
      · rw [kept_const] at hD
        have e5 : List.replicate ds.length (V.bl true) = (List.replicate ds.length true).map V.bl := by rw [List.map_replicate]
        rw [lx, e5] at hD
        refine allL (.inl (.inl hD)) ?_
        rw [all_true]
        exact k _ ((e1.trans e2).trans e3)
theorem ok_law_equal (T : Txt K mg) : FnOk P w K mg base CX0 3 T.f_law_equal T.fd_law_equal ["_law_result", "_law_expected"] (spEq K 2) :=
  eq_step T (.inr ⟨1, rfl, rfl⟩) (eq_step T (.inr ⟨0, rfl, rfl⟩) (eq_step T (n := 0) (.inl rfl) (eq_base T)))
theorem si_S (l : List Str) (h : l.length ≤ 1000) : Si 2 (.list (l.map PyData.str)) := .lst (by rw [List.length_map]; omega) fun d hd => by
  obtain ⟨x, _, rfl⟩ := List.mem_map.mp hd
  exact .str _ _
theorem dp_strs {H : Hp} (ns : List Str) : DpAll K H (ns.map V.str) (ns.map PyData.str) := by
  induction ns with
  | nil => exact .nil
  | cons n ns ih => exact .cons (.str n) ih
end
section
variable {P : Program} {w : World} {K : PySem.W.Frag} {mg : Str → Option Value} {base : Heap}
/-- a part of a list of words -/
theorem cut_strs (ps : List Str) (lo hi : Option Int) : ∃ ys : List Str, cutV (ps.map V.str) lo hi = ys.map V.str ∧ ys.length ≤ ps.length ∧ totL ys ≤ totL ps := by
  unfold cutV
  refine ⟨(ps.drop (HT.sIx (ps.map V.str).length 0 lo)).take (HT.sIx (ps.map V.str).length (ps.map V.str).length hi - HT.sIx (ps.map V.str).length 0 lo), ?_, ?_, ?_⟩
  · rw [List.map_take, List.map_drop]
  · rw [List.length_take, List.length_drop]; omega
  · exact Nat.le_trans (totL_take _ _) (totL_drop _ _)
theorem cutS_len (x : Str) (lo hi : Option Int) : (cutS x lo hi).length ≤ x.length := by
  rw [TL.len_tl, TL.len_tl]
  show (cutS x lo hi).cps.toList.length ≤ _
  unfold cutS
  show ((x.cps.toList.drop _).take _).length ≤ x.cps.toList.length
  rw [List.length_take, List.length_drop]
  omega
theorem sl_w {H : Hp} {Q : VK} {a : Addr} {ps : List Str} {lo hi : Option Int} (h : H a = some (.lst (ps.map V.str))) (q : ∀ p ys H', H p = none → Ex H H' → H' p = some (.lst (ys.map V.str)) → ys.length ≤ ps.length → totL ys ≤ totL ps → Q (.ref p) H') : rSlL K (.ref a) lo hi H Q := by
  refine slL (.inl (.inl h)) fun p np => ?_
  obtain ⟨ys, e, l, s⟩ := cut_strs ps lo hi
  rw [e]
  exact q p ys _ np (Ex.new np) upd_same l s
theorem cat_w {H : Hp} {Q : VK} {p b : Addr} {xs ys : List Str} (h : H p = some (.lst (xs.map V.str))) (hb : H b = some (.lst (ys.map V.str))) (hz : xs.length + ys.length ≤ 1000000) (q : ∀ r H', H r = none → Ex H H' → H' r = some (.lst ((xs ++ ys).map V.str)) → Q (.ref r) H') : rCat (.ref p) (.ref b) H Q := by
  refine catL h hb (by rw [List.length_map, List.length_map]; unfold sizeLine; omega) fun r nr => ?_
  refine q r _ nr (Ex.new nr) ?_
  rw [upd_same, List.map_append]
theorem lst_w {H : Hp} {Q : VK} {o : Str} (q : ∀ p H', H p = none → Ex H H' → H' p = some (.lst (([o] : List Str).map V.str)) → Q (.ref p) H') : ∀ p, H p = none → Q (.ref p) (upd H p (.lst [V.str o])) := fun p np => q p _ np (Ex.new np) upd_same
theorem totL_one (o : Str) : totL [o] = o.length := by unfold totL; simp
def spDam (K : PySem.W.Frag) : Sp := fun vs H Q _ => ∃ (b : Addr) (x m : Str) (q : Addr) (pool : List Str) (c : Nat), vs = [.ref b, .str x, .ref q, .str m] ∧ BagAt H b c ∧ c ≤ 100000 ∧ H q = some (.lst (pool.map V.str)) ∧ q ≠ b ∧ 1 ≤ pool.length ∧ pool.length ≤ 1000 ∧ (∀ p ∈ pool, p.length ≤ 10) ∧
  1 ≤ m.length ∧ m.length ≤ 3 ∧ x.length ≤ 40000 ∧ Txt.split x m ≠ [] ∧ ∀ (y : Str) H', y.length ≤ 12 * x.length + 40 → Fx b H H' → BagAt H' b (c + 10) → Q (.str y) H'
theorem ok_law_damaged (T : Txt K mg) : FnOk P w K mg base CX0 2 T.f_law_damaged T.fd_law_damaged ["_law_source_here", "_law_line", "_law_pool", "_law_mark"] (spDam K) := by
  refine T.F_law_damaged.ok sc_law_damaged (fun vs H Q E h => ?_) (fun cdv A outer s H vs Q E hr h => ?_)
  · obtain ⟨b, x, m, q, pool, c, rfl, _⟩ := h
    rfl
  · obtain ⟨b, x, m, q, pool, c, rfl, hB, hc, hq, nqb, p1, p2, p10, m1, m3, hx, ne, k⟩ := h
    apply Exists.intro
    apply And.intro
    · apply pss_cons
      · exact (ps_set (i := 4) sc_law_damaged.nd rfl (.inl rfl) (k_bm (K := K) rfl (pe_bm PySem.F.plainAttrs_str PySem.F.slot_str_split PySem.F.type_str_split k_split (pv 1) (pa_cons (pv 3) pa_nil))))
      apply pss_cons
      · exact (ps_set (i := 5) sc_law_damaged.nd rfl (.inl rfl) (pe_call (ok_law_draw T) (hr.mono (by decide)) (by rfl) T.m_law_draw T.F_law_draw.kp T.b_law_draw .nil pass0 (pa_cons (pv 0) (pa_cons (pe_callB (k_len (K := K) rfl) (by rfl) T.n_len PySem.boot_len (pa_cons (pv 4) pa_nil)) pa_nil))))
      apply pss_cons
      · exact (ps_set (i := 6) sc_law_damaged.nd rfl (.inl rfl) (pe_ix (k_ix_list (K := K) rfl) (pv 2) (pe_call (ok_law_draw T) (hr.mono (by decide)) (by rfl) T.m_law_draw T.F_law_draw.kp T.b_law_draw .nil pass0 (pa_cons (pv 0) (pa_cons (pe_callB (k_len (K := K) rfl) (by rfl) T.n_len PySem.boot_len (pa_cons (pv 2) pa_nil)) pa_nil))) (fun _ _ => rfl)))
      apply pss_cons
      · exact (ps_set (i := 7) sc_law_damaged.nd rfl (.inl rfl) (pe_call (ok_law_draw T) (hr.mono (by decide)) (by rfl) T.m_law_draw T.F_law_draw.kp T.b_law_draw .nil pass0 (pa_cons (pv 0) (pa_cons pe_int pa_nil))))
      apply pss_cons
      · apply ps_if
        · exact (pt_cmpR op_eq (pv 7) pe_int (by rfl))
        · apply pss_one
          exact (ps_ret (pe_slice sl_str (pv 1) po_none (po_some (pe_call (ok_law_draw T) (hr.mono (by decide)) (by rfl) T.m_law_draw T.F_law_draw.kp T.b_law_draw .nil pass0 (pa_cons (pv 0) (pa_cons (pe_op op_add (pe_callB call_len_str (by rfl) T.n_len PySem.boot_len (pa_cons (pv 1) pa_nil)) pe_int) pa_nil))))))
        · exact pss_nil
      apply pss_cons
      · apply ps_if
        · exact (pt_cmpR op_eq (pv 7) pe_int (by rfl))
        · apply pss_cons
          · exact (ps_set (i := 9) sc_law_damaged.nd rfl (.inl rfl) (pe_call (ok_law_draw T) (hr.mono (by decide)) (by rfl) T.m_law_draw T.F_law_draw.kp T.b_law_draw .nil pass0 (pa_cons (pv 0) (pa_cons (pe_op op_add (pe_callB call_len_str (by rfl) T.n_len PySem.boot_len (pa_cons (pv 1) pa_nil)) pe_int) pa_nil))))
          apply pss_one
          exact (ps_ret (pe_op k_addS (pe_op k_addS (pe_slice sl_str (pv 1) po_none (po_some (pv 9))) (pe_slice sl_str (pv 6) po_none (po_some pe_int))) (pe_slice sl_str (pv 1) (po_some (pe_op op_add (pv 9) (pe_call (ok_law_draw T) (hr.mono (by decide)) (by rfl) T.m_law_draw T.F_law_draw.kp T.b_law_draw .nil pass0 (pa_cons (pv 0) (pa_cons pe_int pa_nil))))) po_none)))
        · exact pss_nil
      apply pss_cons
      · exact (ps_set (i := 8) sc_law_damaged.nd rfl (.inl rfl) (pe_lst (pa_cons (pe_op op_cat (pe_slice (k_sl_list (K := K) rfl) (pv 4) po_none (po_some (pv 5))) (pe_slice (k_sl_list (K := K) rfl) (pv 4) (po_some (pe_op op_add (pv 5) pe_int)) po_none)) (pa_cons (pe_op op_cat (pe_op op_cat (pe_slice (k_sl_list (K := K) rfl) (pv 4) po_none (po_some (pv 5))) (pe_lst (pa_cons (pv 6) pa_nil))) (pe_slice (k_sl_list (K := K) rfl) (pv 4) (po_some (pv 5)) po_none)) (pa_cons (pe_op op_cat (pe_op op_cat (pe_slice (k_sl_list (K := K) rfl) (pv 4) po_none (po_some (pv 5))) (pe_lst (pa_cons (pv 6) pa_nil))) (pe_slice (k_sl_list (K := K) rfl) (pv 4) (po_some (pe_op op_add (pv 5) pe_int)) po_none)) pa_nil)))))
      apply pss_cons
      · exact (ps_set (i := 8) sc_law_damaged.nd rfl (.inl rfl) (pe_op op_cat (pv 8) (pe_lst (pa_cons (pe_op op_cat (pe_op op_cat (pe_slice (k_sl_list (K := K) rfl) (pv 4) po_none (po_some (pv 5))) (pe_slice (k_sl_list (K := K) rfl) (pv 4) (po_some (pv 5)) (po_some (pe_op op_add (pv 5) pe_int)))) (pe_slice (k_sl_list (K := K) rfl) (pv 4) (po_some (pv 5)) po_none)) (pa_cons (pe_op op_cat (pe_slice (k_sl_list (K := K) rfl) (pv 4) po_none (po_some (pv 5))) (k_rev (K := K) rfl (pe_slice (k_sl_list (K := K) rfl) (pv 4) (po_some (pv 5)) po_none))) pa_nil)))))
      apply pss_one
      exact (ps_ret (k_bm (K := K) rfl (pe_bm PySem.F.plainAttrs_str PySem.F.slot_str_join PySem.F.type_str_join (k_join (K := K) rfl) (pv 3) (pa_cons (pe_ix (k_ix_list (K := K) rfl) (pv 8) (pv 7) (fun _ _ => rfl)) pa_nil))))
    have pl := split_len (x := x) m1
    have ps := (split_sum x m).1
    have pp := List.length_pos_iff.mpr ne
    generalize hps : Txt.split x m = prt at pl ps pp
    have mb : (m.length == 0) = false := by simp; omega
    refine seq_asg (fun v H' => ∃ a, v = .ref a ∧ H a = none ∧ Ex H H' ∧ H' a = some (.lst (prt.map V.str))) (fun R hR => ?_) (fun v H1 hC => ?_)
    · walk_at "sx"
      refine ⟨tyS, _, _, rfl, rfl, mb, sz_ok (by omega), fun p np => ?_⟩
      rw [hps]
      exact hR _ _ ⟨p, rfl, np, Ex.new np, upd_same⟩
    obtain ⟨a, rfl, na, e1, ha⟩ := hC
    have b1 := hB.ex e1
    have nab := hB.apart na
    simp only [L2.start, List.map_cons, List.map_nil, List.set_cons_zero, List.set_cons_succ]
    refine seq_asg (fun v H' => ∃ j : Nat, v = .int j ∧ j < prt.length ∧ Fx b H1 H' ∧ BagAt H' b (c + 1)) (fun R hR => ?_) (fun v H2 hC => ?_)
    · walk_at "sx"
      refine lenL (.inl (.inl ha)) ?_
      rw [List.length_map]
      refine ⟨b, _, _, rfl, by omega, big_of (by omega), b1, by omega, fun r H2 r0 r1 f2 b2 => ?_⟩
      exact hR _ _ ⟨r.toNat, by rw [Int.toNat_of_nonneg r0], by omega, f2, b2⟩
    obtain ⟨j, rfl, hj, f2, b2⟩ := hC
    have ha2 := f2 _ _ nab ha
    have hq2 := f2 _ _ nqb (e1 _ _ hq)
    try simp only [List.set_cons_zero, List.set_cons_succ]
    refine seq_asg (fun v H' => ∃ o : Str, v = .str o ∧ o.length ≤ 10 ∧ Fx b H2 H' ∧ BagAt H' b (c + 2)) (fun R hR => ?_) (fun v H3 hC => ?_)
    · walk_at "sx"
      refine lenL (.inl (.inl hq2)) ?_
      rw [List.length_map]
      refine ⟨b, _, _, rfl, by omega, big_of (by omega), b2, by omega, fun r H3 r0 r1 f3 b3 => ?_⟩
      obtain ⟨v, hv, he⟩ := pick (xs := pool.map V.str) r0 (by rw [List.length_map]; exact r1)
      obtain ⟨o, ho, rfl⟩ := List.mem_map.mp hv
      refine ixL (.inl (.inl (f3 _ _ nqb hq2))) he ?_
      exact hR _ _ ⟨o, rfl, p10 o ho, f3, b3⟩
    obtain ⟨o, rfl, ho, f3, b3⟩ := hC
    have ha3 := f3 _ _ nab ha2
    try simp only [List.set_cons_zero, List.set_cons_succ]
    refine seq_asg (fun v H' => ∃ kd : Int, v = .int kd ∧ 0 ≤ kd ∧ kd < 7 ∧ Fx b H3 H' ∧ BagAt H' b (c + 3)) (fun R hR => ?_) (fun v H4 hC => ?_)
    · walk_at "sx"
      refine ⟨b, _, _, rfl, by omega, big_of (by omega), b3, by omega, fun r H3 r0 r1 f3 b3 => ?_⟩
      exact hR _ _ ⟨r, rfl, r0, r1, f3, b3⟩
    obtain ⟨kd, rfl, k0, k7, f4, b4⟩ := hC
    have ha4 := f4 _ _ nab ha3
    have f04 := (((Fx.of e1).trans f2).trans f3).trans f4
    try simp only [List.set_cons_zero, List.set_cons_succ]
    have szx : x.length ≤ sizeLine := sz_ok (by omega)
    have szo : o.length ≤ sizeLine := sz_ok (by omega)
    refine seq_cut (fun σ' H' => σ' = [some (.ref b), some (.str x), some (.ref q), some (.str m), some (.ref a), some (.int (j : Int)), some (.str o), some (.int kd), none, none] ∧ H' = H4 ∧ kd ≠ 6) (fun N hN => ?_) (fun σ5 H5 hC => ?_)
    · walk_at "sx"
      by_cases c6 : kd = 6
      · rw [if_pos c6]
        refine ⟨szx, ?_⟩
        refine ⟨b, _, _, rfl, by omega, big_of (by omega), b4, by omega, fun r H5 r0 r1 f5 b5 => ?_⟩
        refine ⟨_, rfl, _, rfl, szx, k _ _ (by have := cutS_len x none (some r); omega) (f04.trans f5) (b5.mono (by omega))⟩
      · rw [if_neg c6]
        exact hN _ _ ⟨rfl, rfl, c6⟩
    obtain ⟨rfl, rfl, c6⟩ := hC
    refine seq_cut (fun σ' H' => σ' = [some (.ref b), some (.str x), some (.ref q), some (.str m), some (.ref a), some (.int (j : Int)), some (.str o), some (.int kd), none, none] ∧ H' = H5 ∧ kd ≠ 5) (fun N hN => ?_) (fun σ5 H6 hC => ?_)
    · walk_at "sx"
      by_cases c5 : kd = 5
      · rw [if_pos c5]
        refine ⟨szx, ?_⟩
        refine ⟨b, _, _, rfl, by omega, big_of (by omega), b4, by omega, fun r H6 r0 r1 f5 b5 => ?_⟩
        walk_at "sx"
        refine ⟨_, rfl, szx, ⟨_, rfl, szo, ?_⟩⟩
        have c1 := cutS_len x none (some r)
        have c2 := cutS_len o none (some 1)
        refine x_addS.mpr ⟨sz_ok (by omega), ?_⟩
        refine ⟨b, _, _, rfl, by omega, big_of (by omega), b5, by omega, fun u H7 u0 u1 f6 b6 => ?_⟩
        refine x_I0.mpr ⟨_, rfl, _, rfl, szx, ?_⟩
        have c3 := cutS_len x (some (r + u)) none
        refine x_addS.mpr ⟨sz_ok (by rw [Str.length_append]; omega), ?_⟩
        exact k _ _ (by rw [Str.length_append, Str.length_append]; omega) ((f04.trans f5).trans f6) (b6.mono (by omega))
      · rw [if_neg c5]
        exact hN _ _ ⟨rfl, rfl, c5⟩
    obtain ⟨rfl, rfl, c5⟩ := hC
    refine seq_asg (fun v H' => ∃ s a0 a1 a2 y0 y1 y2, v = .ref s ∧ Ex H6 H' ∧ H' s = some (.lst [.ref a0, .ref a1, .ref a2]) ∧ H' a0 = some (.lst ((y0 : List Str).map V.str)) ∧ H' a1 = some (.lst ((y1 : List Str).map V.str)) ∧ H' a2 = some (.lst ((y2 : List Str).map V.str)) ∧
      y0.length ≤ 3 * prt.length + 1 ∧ totL y0 ≤ 3 * totL prt + 10 ∧ y1.length ≤ 3 * prt.length + 1 ∧ totL y1 ≤ 3 * totL prt + 10 ∧ y2.length ≤ 3 * prt.length + 1 ∧ totL y2 ≤ 3 * totL prt + 10) (fun R hR => ?_) (fun v H7 hC => ?_)
    · walk_at "sx"
      refine sl_w ha4 fun u1 w1 G1 n1 x1 g1 l1 s1 => sl_w (x1 _ _ ha4) fun u2 w2 G2 n2 x2 g2 l2 s2 => ?_
      refine cat_w (x2 _ _ g1) g2 (by omega) fun u3 G3 n3 x3 g3 => ?_
      have y3 := x1.trans (x2.trans x3)
      refine sl_w (y3 _ _ ha4) fun u4 w4 G4 n4 x4 g4 l4 s4 => ⟨sz_ok (by omega), fun u5 n5 => ?_⟩
      have x5 := Ex.new n5 (o := .lst [V.str o])
      have g5 : (upd G4 u5 (.lst [V.str o])) u5 = some (.lst (([o] : List Str).map V.str)) := upd_same
      generalize upd G4 u5 (.lst [V.str o]) = G5 at x5 g5 ⊢
      refine cat_w (x5 _ _ g4) g5 (by rw [List.length_singleton]; omega) fun u6 G6 n6 x6 g6 => ?_
      have y6 := y3.trans (x4.trans (x5.trans x6))
      refine sl_w (y6 _ _ ha4) fun u7 w7 G7 n7 x7 g7 l7 s7 => ?_
      refine cat_w (x7 _ _ g6) g7 (by rw [List.length_append, List.length_singleton]; omega) fun u8 G8 n8 x8 g8 => ?_
      have y8 := y6.trans (x7.trans x8)
      refine sl_w (y8 _ _ ha4) fun u9 w9 G9 n9 x9 g9 l9 s9 => ⟨sz_ok (by omega), fun v1 m1' => ?_⟩
      have z1 := Ex.new m1' (o := .lst [V.str o])
      have d1 : (upd G9 v1 (.lst [V.str o])) v1 = some (.lst (([o] : List Str).map V.str)) := upd_same
      generalize upd G9 v1 (.lst [V.str o]) = D1 at z1 d1 ⊢
      refine cat_w (z1 _ _ g9) d1 (by rw [List.length_singleton]; omega) fun v2 D2 m2 z2 d2 => ?_
      have y10 := y8.trans (x9.trans (z1.trans z2))
      refine sl_w (y10 _ _ ha4) fun v3 w10 D3 m3' z3 d3 l10 s10 => ?_
      refine cat_w (z3 _ _ d2) d3 (by rw [List.length_append, List.length_singleton]; omega) fun v4 D4 m4 z4 d4 => ⟨sz_ok (by omega), fun s ns => ?_⟩
      have z5 := Ex.new ns (o := .lst [V.ref u3, V.ref u8, V.ref v4])
      have y12 := y10.trans ((z3.trans z4).trans z5)
      refine hR _ _ ⟨s, u3, u8, v4, w1 ++ w2, w4 ++ [o] ++ w7, w9 ++ [o] ++ w10, rfl, y12, upd_same, ?_, ?_, z5 _ _ d4, ?_, ?_, ?_, ?_, ?_, ?_⟩
      · exact (((x4.trans (x5.trans x6)).trans (x7.trans x8)).trans ((x9.trans (z1.trans z2)).trans ((z3.trans z4).trans z5))) _ _ g3
      · exact ((x9.trans (z1.trans z2)).trans ((z3.trans z4).trans z5)) _ _ g8
      · rw [List.length_append]; omega
      · rw [totL_app]; omega
      · rw [List.length_append, List.length_append, List.length_singleton]; omega
      · rw [totL_app, totL_app, totL_one]; omega
      · rw [List.length_append, List.length_append, List.length_singleton]; omega
      · rw [totL_app, totL_app, totL_one]; omega
    obtain ⟨s, a0, a1, a2, y0, y1, y2, rfl, e7, hs, h0, h1, h2, l0, t0, l1, t1, l2, t2⟩ := hC
    try simp only [List.set_cons_zero, List.set_cons_succ]
    walk_at "sx"
    have ha7 := e7 _ _ ha4
    refine sl_w ha7 fun u1 w1 G1 n1 x1 g1 l1' s1 => sl_w (x1 _ _ ha7) fun u2 w2 G2 n2 x2 g2 l2' s2 => ?_
    refine cat_w (x2 _ _ g1) g2 (by omega) fun u3 G3 n3 x3 g3 => ?_
    have y3 := x1.trans (x2.trans x3)
    refine sl_w (y3 _ _ ha7) fun u4 w4 G4 n4 x4 g4 l4 s4 => ?_
    refine cat_w (x4 _ _ g3) g4 (by rw [List.length_append]; omega) fun u5 G5 n5 x5 g5 => ?_
    have y5 := y3.trans (x4.trans x5)
    refine sl_w (y5 _ _ ha7) fun u6 w6 G6 n6 x6 g6 l6 s6 => sl_w ((y5.trans x6) _ _ ha7) fun u7 w7 G7 n7 x7 g7 l7 s7 => ⟨u7, rfl, _, .inl (.inl g7), fun u8 n8 => ?_⟩
    have x8 := Ex.new n8 (o := .lst (w7.map V.str).reverse)
    have g8 : (upd G7 u8 (.lst (w7.map V.str).reverse)) u8 = some (.lst (w7.reverse.map V.str)) := by rw [upd_same, List.map_reverse]
    generalize upd G7 u8 (.lst (w7.map V.str).reverse) = G8 at x8 g8 ⊢
    refine cat_w ((x7.trans x8) _ _ g6) g8 (by rw [List.length_reverse]; omega) fun u9 G9 n9 x9 g9 => ⟨sz_ok (by omega), fun u10 n10 => ?_⟩
    have x10 := Ex.new n10 (o := .lst [V.ref u5, V.ref u9])
    have y9 := y5.trans (x6.trans (x7.trans (x8.trans x9)))
    have y10 := y9.trans x10
    have hs10 := y10 _ _ hs
    refine catL hs10 upd_same (sz_ok (by simp)) fun u11 n11 => ?_
    have x11 := Ex.new n11 (o := .lst ([V.ref a0, V.ref a1, V.ref a2] ++ [V.ref u5, V.ref u9]))
    have y11 := y10.trans x11
    have i0 := y11 _ _ h0
    have i1 := y11 _ _ h1
    have i2 := y11 _ _ h2
    have i5 := ((x6.trans (x7.trans (x8.trans x9))).trans (x10.trans x11)) _ _ g5
    have i9 := (x10.trans x11) _ _ g9
    have fin : Fx b H _ := (f04.trans (Fx.of e7)).trans (Fx.of y11)
    have bf := (b4.ex e7).ex y11
    have i11 : (upd (upd G9 u10 (.lst [V.ref u5, V.ref u9])) u11 (.lst ([V.ref a0, V.ref a1, V.ref a2] ++ [V.ref u5, V.ref u9]))) u11 = some (.lst [V.ref a0, V.ref a1, V.ref a2, V.ref u5, V.ref u9]) := upd_same
    generalize upd (upd G9 u10 (.lst [V.ref u5, V.ref u9])) u11 (.lst ([V.ref a0, V.ref a1, V.ref a2] ++ [V.ref u5, V.ref u9])) = HZ at *
    refine ⟨tyS, ?_⟩
    have last : ∀ (d : Addr) (ys : List Str), HZ d = some (.lst (ys.map V.str)) → ys.length ≤ 3 * prt.length + 1 → totL ys ≤ 3 * totL prt + 10 → rJoin K (.str m) [.ref d] HZ Q := fun d ys hd hl ht => by
      have jl := join_le m ys
      have mm : ys.length * m.length ≤ ys.length * 3 := Nat.mul_le_mul_left _ m3
      refine joinL (.inl (.inl hd)) ?_ (k _ _ ?_ fin (bf.mono (by omega)))
      · show totL ys + ys.length * m.length ≤ 16777216
        omega
      · omega
    rcases (show kd = 0 ∨ kd = 1 ∨ kd = 2 ∨ kd = 3 ∨ kd = 4 by omega) with rfl | rfl | rfl | rfl | rfl
    · exact ixL (.inl (.inl i11)) (atI_n (j := 0) rfl rfl) (last _ _ i0 l0 t0)
    · exact ixL (.inl (.inl i11)) (atI_n (j := 1) rfl rfl) (last _ _ i1 l1 t1)
    · exact ixL (.inl (.inl i11)) (atI_n (j := 2) rfl rfl) (last _ _ i2 l2 t2)
    · refine ixL (.inl (.inl i11)) (atI_n (j := 3) rfl rfl) (last _ _ i5 ?_ ?_)
      · rw [List.length_append, List.length_append]; omega
      · rw [totL_app, totL_app]; omega
    · refine ixL (.inl (.inl i11)) (atI_n (j := 4) rfl rfl) (last _ _ i9 ?_ ?_)
      · rw [List.length_append, List.length_reverse]; omega
      · rw [totL_app, totL_rev]; omega
end
end LW

set_option Elab.async false
set_option linter.all false
set_option maxRecDepth 100000
set_option maxHeartbeats 4000000
namespace LW
open PySem PySem.Spec PyProof.Rows L2 BC Evl TR
local macro_rules | `(tactic| walk_at "sx") => `(tactic| try simp only [x_seq, x_next, x_brk, x_cnt, x_nev, x_ret, x_retN, x_drop, x_ifS, x_asg, x_gn, x_gsub, x_par, x_par3, x_aug, x_for, x_lc, x_rng1, x_rng2, x_rng3, x_ilist, x_itup, x_ienum, x_izip, x_izipA, x_istr, x_var, x_c, x_op, x_un, x_test, x_b, x_chain, x_and, x_or, x_not, x_andV, x_orV, x_notV, x_ife, x_nil, x_cons, x_lst, x_tup, x_cb, x_call, x_callK, x_callS, x_bm, x_bm0, x_tru, x_sl, x_nopart, x_part, x_revL, x_I0, x_I, x_U, x_ip, x_ipC, x_eqI, x_neI, x_eqB, x_neB, x_eqS, x_neS, x_isB, x_isNB, x_lrg, x_gall, x_lenSet, x_augS, x_sortSet, x_sortSetB, x_lenSetA, x_rg1, x_rg2, x_fmtS, x_gstar, x_inS, x_addS, x_js0, x_js, x_jn, x_fmt, x_callS,
  L2.start, List.map_cons, List.map_nil, List.length_cons, List.length_nil, Nat.reduceAdd, Nat.reduceSub, Nat.sub_self, Nat.zero_add, List.replicate, List.replicate_succ, List.replicate_zero, List.append_nil, List.cons_append, List.nil_append, List.set_cons_zero, List.set_cons_succ, List.getElem?_cons_zero, List.getElem?_cons_succ, Option.some.injEq, V.int.injEq, V.bl.injEq, V.ref.injEq, V.str.injEq, List.cons.injEq, and_true, true_and, exists_eq_left', exists_eq_left, exists_and_left, exists_eq, if_true, if_false, ite_true, ite_false, Bool.true_eq_false, Bool.false_eq_true, reduceIte, reduceCtorEq, Bool.not_true, Bool.not_false, decide_true, decide_false, decide_eq_true_eq, Bool.and_true, Bool.true_and, Bool.and_self, Bool.and_false, Bool.false_and, Bool.or_self, Bool.or_false, Bool.false_or, Bool.or_true, Bool.true_or, eq_self])
section
variable {P : Program} {w : World} {K : PySem.W.Frag} {mg : Str → Option Value} {base : Heap}
theorem pg_nz : ∀ {L : List Int}, Pg 40 L → ∃ M : List Nat, L = nz M ∧ ∀ n ∈ M, n < 40
  | [], _ => ⟨[], rfl, fun n h => by simp at h⟩
  | x :: L, h => by
    obtain ⟨M, e, l⟩ := pg_nz (L := L) fun y hy => h y (List.mem_cons_of_mem _ hy)
    have hx := h x List.mem_cons_self
    refine ⟨x.toNat :: M, ?_, fun n hn => ?_⟩
    · rw [e]
      show _ = ((x.toNat : Nat) : Int) :: nz M
      rw [Int.toNat_of_nonneg hx.1]
    · rcases List.mem_cons.mp hn with rfl | hn
      · omega
      · exact l n hn
theorem rep_size (c : Array Nat) : ∀ (n : Nat) (acc : Array Nat), ((List.replicate n c).foldl (· ++ ·) acc).size = acc.size + n * c.size
  | 0, acc => by simp
  | n + 1, acc => by
    rw [List.replicate_succ, List.foldl_cons, rep_size c n, Array.size_append, Nat.succ_mul]
    omega
theorem mul_small (x : Str) {n : Nat} (hx : x.length ≤ 100) (hn : n ≤ 4000) : MulOk x (n : Int) ∧ (Txt.mul x (n : Int)).length ≤ x.length * n + x.length := by
  have le : x.length * n ≤ 100 * 4000 := Nat.mul_le_mul hx hn
  refine ⟨⟨?_, fun h2 _ => ?_, fun h2 _ => ?_⟩, ?_⟩
  · rw [decide_eq_false (by omega), decide_eq_false (by omega)]
    rfl
  · have h3 : (x.length : Int) ≤ (2 ^ 63 - 1) / (n : Int) := (Int.le_ediv_iff_mul_le (by omega)).mpr (by
      have : (x.length : Int) * (n : Int) ≤ 100 * 4000 := by exact_mod_cast le
      omega)
    omega
  · show decide (_ > sizeLine) = false
    rw [Int.toNat_natCast]
    exact decide_eq_false (by unfold sizeLine; omega)
  · unfold Txt.mul
    split
    · exact Nat.zero_le _
    · split
      · omega
      · show (((List.replicate _ x.cps).foldl (· ++ ·) #[]).size) ≤ _
        rw [rep_size, Int.toNat_natCast]
        show 0 + n * x.cps.size ≤ x.cps.size * n + _
        rw [Nat.mul_comm]
        omega
theorem mul_w {x : Str} {n : Int} {H : Hp} {Q : VK} (h0 : 0 ≤ n) (hx : x.length ≤ 100) (hn : n ≤ 4000) (q : ∀ z : Str, z.length ≤ x.length * n.toNat + x.length → Q (.str z) H) : rMulS (.str x) (.int n) H Q := by
  obtain ⟨a, b⟩ := mul_small x (n := n.toNat) hx (by omega)
  rw [Int.toNat_of_nonneg h0] at a b
  exact ⟨x, n, rfl, rfl, a, q _ b⟩
theorem mul_nx (n : Nat) (h : n ≤ 1) : MulOk NX (n : Int) ∧ Txt.mul NX (n : Int) = if n = 0 then Str.empty else NX := by
  have e : NX.length = 3 := by decide
  rcases (show n = 0 ∨ n = 1 by omega) with rfl | rfl
  · refine ⟨⟨by decide, fun h2 _ => absurd h2 (by decide), fun h2 _ => absurd h2 (by decide)⟩, by decide +kernel⟩
  · refine ⟨⟨by decide, fun _ _ => by rw [e]; decide, fun _ _ => by rw [e]; decide⟩, by decide +kernel⟩
theorem split_ne2 (x m : Str) (hm : m = NX ∨ m = ((" " : String) : Str)) : Txt.split x m ≠ [] := by
  by_cases h : x.length = 0
  · have e : x = Str.empty := TL.ext_tl (by
      rw [TL.len_tl] at h
      rw [List.length_eq_zero_iff.mp h]
      rfl)
    subst e
    rcases hm with rfl | rfl
    · decide +kernel
    · decide +kernel
  · exact split_ne x m (.inl (by omega))
abbrev Out (y : Str) (H : Hp) (r : V) : Prop := (∃ L q, ptT y = some L ∧ r = .ref q ∧ H q = some (.lst ((nz L).map V.int))) ∨ (ptT y = none ∧ r = .str (("format" : String) : Str))
theorem same_out {y : Str} {r1 r2 : V} {Ha Hb : Hp} (e : Ex Ha Hb) (h1 : Out y Ha r1) (h2 : Out y Hb r2) : ∃ d, Dp K Hb r1 d ∧ Dp K Hb r2 d ∧ Si 2 d := by
  rcases h1 with ⟨L, q, p, rfl, hq⟩ | ⟨p, rfl⟩
  · rcases h2 with ⟨L', q', p', rfl, hq'⟩ | ⟨p', _⟩
    · rw [p] at p'
      obtain rfl := Option.some.inj p'
      obtain ⟨nd, lt, _⟩ := ptT_some p
      have l40 := nodup_lt 40 nd lt
      exact ⟨.list ((nz L).map PyData.int), .lst (.inl (.inl (e _ _ hq))) (dp_ints _), .lst (.inl (.inl hq')) (dp_ints _), .lst (by rw [List.length_map, nz_len]; omega) (fun d hd => by obtain ⟨u, _, rfl⟩ := List.mem_map.mp hd; exact .int _ _)⟩
    · rw [p] at p'; cases p'
  · rcases h2 with ⟨L', q', p', _, _⟩ | ⟨p', rfl⟩
    · rw [p] at p'; cases p'
    · exact ⟨_, .str _, .str _, .str _ _⟩
/-- the string so far -/
theorem line_next {M : List Nat} {i n : Nat} (h : M[i]? = some n) : Txt.join NX ((M.take i).map numS) ++ (if i = 0 then Str.empty else NX) ++ numS n = Txt.join NX ((M.take (i + 1)).map numS) := by
  rw [List.take_add_one, h]
  show _ = Txt.join NX ((M.take i ++ [n]).map numS)
  rw [List.map_append, List.map_singleton]
  by_cases c : i = 0
  · subst c
    rw [List.take_zero, List.map_nil, List.nil_append, BC.join_nil, BC.join_one, if_pos rfl, Str.empty_append, Str.empty_append]
  · rw [if_neg c]
    refine (join_snoc _ _ ?_).symm
    intro e
    have := congrArg List.length e
    have hi := (List.getElem?_eq_some_iff.mp h).1
    rw [List.length_map, List.length_take, List.length_nil] at this
    omega
theorem line_ne {M : List Nat} {i : Nat} (hi : i < M.length) (lt : ∀ n ∈ M, n < 40) : decide (Txt.join NX ((M.take i).map numS) = Str.empty) = decide (i = 0) := by
  by_cases c : i = 0
  · subst c
    rw [decide_eq_true rfl, List.take_zero, List.map_nil, BC.join_nil, decide_eq_true rfl]
  · rw [decide_eq_false c]
    refine decide_eq_false fun e => ?_
    have ne : (M.take i).map numS ≠ [] := fun z => by
      have := congrArg List.length z
      rw [List.length_map, List.length_take, List.length_nil] at this
      omega
    have a := join_length NX ne
    rw [← TL.join_eq, e] at a
    cases hm : M.take i with
    | nil => rw [hm] at ne; exact ne rfl
    | cons n R =>
      rw [hm] at a
      have hn := lt n (List.mem_of_mem_take (by rw [hm]; exact List.mem_cons_self))
      have b := (numS_len (n := n) (by omega)).1
      have c : totL ((n :: R).map numS) = (numS n).length + totL (R.map numS) := by unfold totL; rw [List.map_cons, List.map_cons, List.sum_cons]
      rw [c] at a
      have d : Str.empty.length = 0 := by decide
      omega
theorem line_len {M : List Nat} (lt : ∀ n ∈ M, n < 1000) : (Txt.join NX (M.map numS)).length ≤ 6 * M.length := by
  have a := join_le NX (M.map numS)
  have b := tot_nums lt
  rw [show NX.length = 3 by decide, List.length_map] at a
  omega
def poolS : List Str := [Str.ofString "0", Str.ofString "1", Str.ofString "39", Str.ofString "40", Str.ofString "00", Str.ofString "01", Str.ofString "-1", Str.ofString "1 > 1", Str.ofString "", Str.ofString " ", Str.ofString "a", Str.ofString "1>2", Str.ofString "1 >2", Str.ofString "100", Str.ofString "+1", Str.ofString "1.0"]
theorem pool_ok : ∀ p ∈ poolS, p.length ≤ 10 := by decide +kernel
def fixS : List Str := [Str.ofString "", Str.ofString " ", Str.ofString "0", Str.ofString "0 ", Str.ofString " 0", Str.ofString "0 > 1", Str.ofString "0>1", Str.ofString "0 > 0", Str.ofString "0 > ", Str.ofString " > 0", Str.ofString "40", Str.ofString "39", Str.ofString "01", Str.ofString "0 > 1\n", Str.ofString ">"]
theorem fix_ok : ∀ p ∈ fixS, p.length ≤ 4000 := by decide +kernel
def LenB (i n : Nat) : Prop := (i = 0 → n ≤ 240) ∧ (i = 1 → n ≤ 2920) ∧ (i = 2 → n ≤ 35080) ∧ n ≤ 421000
def JW (H1 : Hp) (b : Addr) (mo : Nat) (r : Addr) (M : List Nat) (i : Nat) (σ' : L2.St) (H' : Hp) : Prop := ∃ l2, σ' = [some (.ref b), some (.int mo), l2, none, none, none, none, none, none, none, some (.ref r), some (.str (Txt.join NX ((M.take i).map numS))), none, none, none] ∧ Ex H1 H'
def JA (H1 : Hp) (σ0 : L2.St) (i : Nat) (σ' : L2.St) (H' : Hp) : Prop := (∃ l4 l12, σ' = (σ0.set 4 l4).set 12 l12) ∧ Ex H1 H'
def JD (H1 : Hp) (b : Addr) (σ0 : L2.St) (c : Nat) (i : Nat) (σ' : L2.St) (H' : Hp) : Prop := (∃ l5 y l13, σ' = ((σ0.set 5 l5).set 11 (some (.str y))).set 13 l13 ∧ LenB i y.length) ∧ Fx b H1 H' ∧ BagAt H' b (c + 20 * i)
def JF (H1 : Hp) (σ0 : L2.St) (i : Nat) (σ' : L2.St) (H' : Hp) : Prop := (∃ l8, σ' = σ0.set 8 l8) ∧ Ex H1 H'
def spHolds : Sp := fun vs H Q _ => ∃ (b : Addr) (mo c : Nat), vs = [.ref b, .int mo] ∧ mo ≤ 300 ∧ BagAt H b c ∧ c ≤ 1000 ∧ ∀ H', Fx b H H' → Q (.bl true) H'
theorem ok_law_holds (T : Txt K mg) : FnG P w K mg base CX0 6 T.f_law_holds T.fd_law_holds ["_law_source_here", "_law_most"] spHolds := by
  refine fun_okN T.F_law_holds sc_law_holds (fun vs H Q E h => ?_) (fun cdv A outer s H vs Q E hG hr h => ?_)
  · obtain ⟨b, mo, c, rfl, _⟩ := h
    rfl
  · obtain ⟨b, mo, c, rfl, m1, hB, hc, k⟩ := h
    apply Exists.intro
    apply And.intro
    · apply pss_cons
      · exact (ps_par (i := 10) (j := 11) (by rfl) sc_law_holds.nd rfl rfl (by decide) rfl rfl (pa_cons (pe_call (ok_law_trail T) (hr.mono (by decide)) (by rfl) T.m_law_trail T.F_law_trail.kp T.b_law_trail .nil pass0 (pa_cons (pe_call (ok_law_visits T) (hr.mono (by decide)) (by rfl) T.m_law_visits T.F_law_visits.kp T.b_law_visits .nil pass0 (pa_cons (pv 0) (pa_cons (pv 1) pa_nil))) pa_nil)) (pa_cons pe_str pa_nil)) (by rfl))
      apply pss_cons
      · apply ps_for PassesOwn.never rfl
        · exact (k_pi_list (K := K) rfl (pv 10))
        · exact (pg_name (i := 2) sc_law_holds.nd rfl (.inl rfl))
        · apply pss_one
          exact (ps_set (i := 11) sc_law_holds.nd rfl (.inl rfl) (pe_op k_addS (pe_op k_addS (pv 11) (pe_op op_mulS pe_str (pe_callTy call_int1 (by rfl) T.n_int (by decide +kernel) (pa_cons (pe_cmpR op_ne (pv 11) pe_str (by rfl)) pa_nil)))) (pe_callTy call_str_int (by rfl) T.n_str (by decide +kernel) (pa_cons (pv 2) pa_nil))))
      apply pss_cons
      · exact (ps_set (i := 3) sc_law_holds.nd rfl (.inl rfl) (pe_callB (k_repr (K := K) rfl hG hr.units) (by rfl) T.n_repr (by decide +kernel) (pa_cons (pv 10) pa_nil)))
      apply pss_cons
      · apply ps_if
        · exact (PW.pt (pw_or (pt_cmpR op_ne (pe_call (ok_format_trail T) (hr.mono (by decide)) (by rfl) T.m_format_trail T.F_format_trail.kp T.b_format_trail .nil pass0 (pa_cons (pv 10) pa_nil)) (pv 11) (by rfl)) (pw_or1 (pt_cmpR op_ne (pe_callB (k_repr (K := K) rfl hG hr.units) (by rfl) T.n_repr (by decide +kernel) (pa_cons (pv 10) pa_nil)) (pv 3) (by rfl)))))
        · apply pss_one
          exact (ps_ret pe_bl)
        · exact pss_nil
      apply pss_cons
      · apply ps_for PassesOwn.never rfl
        · exact (pi_range1 (by rfl) T.n_range (pa_cons pe_int pa_nil))
        · exact (pg_name (i := 4) sc_law_holds.nd rfl (.inl rfl))
        · apply pss_cons
          · exact (ps_set (i := 12) sc_law_holds.nd rfl (.inl rfl) (pe_callS (ok_parse_trail T) (hr.mono (by decide)) (by rfl) T.m_parse_trail T.F_parse_trail.kp T.b_parse_trail (fun σ => passAt takes0 σ) (pa_cons (pv 11) pa_nil)))
          apply pss_cons
          · apply ps_if
            · exact (pt_not (pt_val (pe_call (ok_law_equal T) (hr.mono (by decide)) (by rfl) T.m_law_equal T.F_law_equal.kp T.b_law_equal .nil pass0 (pa_cons (pv 12) (pa_cons (pv 10) pa_nil)))))
            · apply pss_one
              exact (ps_ret pe_bl)
            · exact pss_nil
          apply pss_cons
          · exact (ps_expr (k_bm (K := K) rfl (pe_bm PySem.F.plainAttrs_list PySem.F.slot_list_append PySem.F.type_list_append mt_append (pv 12) (pa_cons pe_int pa_nil))))
          apply pss_one
          exact (ps_expr (k_bm0 (K := K) rfl (pe_bm0 PySem.F.plainAttrs_list PySem.F.slot_list_reverse PySem.F.type_list_reverse mt_reverse (pv 12))))
      apply pss_cons
      · apply ps_for PassesOwn.never rfl
        · exact (pi_range1 (by rfl) T.n_range (pa_cons (pe_call (ok_law_draw T) (hr.mono (by decide)) (by rfl) T.m_law_draw T.F_law_draw.kp T.b_law_draw .nil pass0 (pa_cons (pv 0) (pa_cons pe_int pa_nil))) pa_nil))
        · exact (pg_name (i := 5) sc_law_holds.nd rfl (.inl rfl))
        · apply pss_cons
          · exact (ps_set (i := 13) sc_law_holds.nd rfl (.inl rfl) (pe_lst (pa_cons pe_str (pa_cons pe_str (pa_cons pe_str (pa_cons pe_str (pa_cons pe_str (pa_cons pe_str (pa_cons pe_str (pa_cons pe_str (pa_cons pe_str (pa_cons pe_str (pa_cons pe_str (pa_cons pe_str (pa_cons pe_str (pa_cons pe_str (pa_cons pe_str (pa_cons pe_str pa_nil))))))))))))))))))
          apply pss_one
          exact (ps_set (i := 11) sc_law_holds.nd rfl (.inl rfl) (pe_call (ok_law_damaged T) (hr.mono (by decide)) (by rfl) T.m_law_damaged T.F_law_damaged.kp T.b_law_damaged .nil pass0 (pa_cons (pv 0) (pa_cons (pv 11) (pa_cons (pv 13) (pa_cons (pe_ix (k_ix_list (K := K) rfl) (pe_lst (pa_cons pe_str (pa_cons pe_str pa_nil))) (pe_call (ok_law_draw T) (hr.mono (by decide)) (by rfl) T.m_law_draw T.F_law_draw.kp T.b_law_draw .nil pass0 (pa_cons (pv 0) (pa_cons pe_int pa_nil))) (fun _ _ => rfl)) pa_nil))))))
      apply pss_cons
      · apply ps_if
        · exact (PW.pt (pw_and (pt_cmpR op_le (pe_callB call_len_str (by rfl) T.n_len PySem.boot_len (pa_cons (pv 11) pa_nil)) pe_int (by rfl)) (pw_and1 (pt_not (pt_val (pe_call (ok_law_equal T) (hr.mono (by decide)) (by rfl) T.m_law_equal T.F_law_equal.kp T.b_law_equal .nil pass0 (pa_cons (pe_call (ok_law_outcome T) (hr.mono (by decide)) (by rfl) T.m_law_outcome T.F_law_outcome.kp T.b_law_outcome .nil pass0 (pa_cons (pv 11) pa_nil)) (pa_cons (pe_call (ok_law_parsed T) (hr.mono (by decide)) (by rfl) T.m_law_parsed T.F_law_parsed.kp T.b_law_parsed .nil pass0 (pa_cons (pv 11) pa_nil)) pa_nil))))))))
        · apply pss_one
          exact (ps_ret pe_bl)
        · exact pss_nil
      apply pss_cons
      · exact (ps_set (i := 6) sc_law_holds.nd rfl (.inl rfl) (k_bm (K := K) rfl (pe_bm PySem.F.plainAttrs_str PySem.F.slot_str_join PySem.F.type_str_join (k_join (K := K) rfl) pe_str (pa_cons (pe_lc (own := [("_law_number", 14)]) rfl sc_law_holds.nd (pi_range1 (by rfl) T.n_range (pa_cons pe_int pa_nil)) (blkOk_by (own := [("_law_number", 14)]) (N := ["_law_source_here", "_law_most", "_law_spot", "_law_before", "_law_attempt", "_law_step", "_law_many", "_law_fixed", "_law_one", "_law_odd", "_law_row", "_law_written", "_law_made", "_law_pool", "_law_number"]) (sc := defScope s_law_holds) (by decide +kernel)) (fun _ _ _ _ _ => by exact (pg_name (i := 14) sc_law_holds.nd rfl (.inl rfl))) (fun _ _ _ _ _ => by exact pts_nil) (fun _ _ _ _ _ => by exact (pe_callTy call_str_int (by rfl) T.n_str (by decide +kernel) (pa_cons (pe_op op_sub pe_int (pv 14)) pa_nil)))) pa_nil))))
      apply pss_cons
      · exact (ps_set (i := 7) sc_law_holds.nd rfl (.inl rfl) (pe_lst (pa_cons pe_str (pa_cons pe_str (pa_cons pe_str (pa_cons pe_str (pa_cons pe_str (pa_cons pe_str (pa_cons pe_str (pa_cons pe_str (pa_cons pe_str (pa_cons pe_str (pa_cons pe_str (pa_cons pe_str (pa_cons pe_str (pa_cons pe_str (pa_cons pe_str pa_nil)))))))))))))))))
      apply pss_cons
      · apply ps_for PassesOwn.never rfl
        · exact (k_pi_list (K := K) rfl (pe_op op_cat (pv 7) (pe_lst (pa_cons pe_str (pa_cons (pv 6) (pa_cons (pe_op k_addS (pv 6) pe_str) (pa_cons (pe_op k_addS (pv 6) pe_str) (pa_cons (pe_op op_mulS pe_str pe_int) (pa_cons (pe_op op_mulS pe_str pe_int) (pa_cons (pe_op op_mulS pe_str pe_int) pa_nil))))))))))
        · exact (pg_name (i := 8) sc_law_holds.nd rfl (.inl rfl))
        · apply pss_one
          apply ps_if
          · exact (pt_not (pt_val (pe_call (ok_law_equal T) (hr.mono (by decide)) (by rfl) T.m_law_equal T.F_law_equal.kp T.b_law_equal .nil pass0 (pa_cons (pe_call (ok_law_outcome T) (hr.mono (by decide)) (by rfl) T.m_law_outcome T.F_law_outcome.kp T.b_law_outcome .nil pass0 (pa_cons (pv 8) pa_nil)) (pa_cons (pe_call (ok_law_parsed T) (hr.mono (by decide)) (by rfl) T.m_law_parsed T.F_law_parsed.kp T.b_law_parsed .nil pass0 (pa_cons (pv 8) pa_nil)) pa_nil)))))
          · apply pss_one
            exact (ps_ret pe_bl)
          · exact pss_nil
      apply pss_cons
      · exact (ps_set (i := 9) sc_law_holds.nd rfl (.inl rfl) (pe_ix (k_ix_list (K := K) rfl) (pe_lst (pa_cons pe_non (pa_cons pe_int (pa_cons (pe_lst (pa_cons pe_str pa_nil)) (pa_cons (pe_tup (pa_cons pe_str pa_nil)) (pa_cons pe_dnewK (pa_cons pe_bl (pa_cons (pv 10) pa_nil)))))))) (pe_call (ok_law_draw T) (hr.mono (by decide)) (by rfl) T.m_law_draw T.F_law_draw.kp T.b_law_draw .nil pass0 (pa_cons (pv 0) (pa_cons pe_int pa_nil))) (fun _ _ => rfl)))
      apply pss_one
      exact (ps_ret (pe_cmpR (k_eqD (K := K) rfl hr.units) (pe_call (ok_law_outcome T) (hr.mono (by decide)) (by rfl) T.m_law_outcome T.F_law_outcome.kp T.b_law_outcome .nil pass0 (pa_cons (pv 9) pa_nil)) pe_str (by rfl)))
    obtain ⟨ob, hob⟩ := hB.some
    have se : Str.ofString "" = Str.empty := by decide +kernel
    -- the trail
    refine seq_cut (fun σ' H' => ∃ r M, σ' = [some (.ref b), some (.int mo), none, none, none, none, none, none, none, none, some (.ref r), some (.str Str.empty), none, none, none] ∧ Fx b H H' ∧ BagAt H' b 2000 ∧ H' r = some (.lst ((nz M).map V.int)) ∧ (∀ n ∈ M, n < 40) ∧ M.Nodup ∧ r ≠ b) (fun N hN => ?_) (fun σ1 H1 hC => ?_)
    · walk_at "sx"
      refine ⟨b, mo, c, rfl, m1, hB, by omega, fun r L H1 nr f1 b1 hr hl pg => ?_⟩
      refine ⟨r, L, rfl, .inl (.inl hr), hl, pg, fun r2 H2 nr2 e2 hr2 => ⟨_, _, ⟨rfl, rfl⟩, ?_⟩⟩
      obtain ⟨g1, g2, g3⟩ := folds_pg L [] (fun x hx => by simp at hx) pg List.nodup_nil
      obtain ⟨M, eM, lt⟩ := pg_nz g1
      rw [eM] at hr2 g2
      rw [se]
      exact hN _ _ ⟨r2, M, rfl, f1.trans (Fx.of e2), (b1.ex e2).mono (by omega), hr2, lt, (nz_nd M).mp g2, b1.apart nr2⟩
    obtain ⟨r, M, rfl, f1, b1, hr, lt, nd, nrb⟩ := hC
    have l40 := nodup_lt 40 nd lt
    -- its string
    refine seq_cut (fun σ' H' => ∃ l2, σ' = [some (.ref b), some (.int mo), l2, none, none, none, none, none, none, none, some (.ref r), some (.str (Txt.join NX (M.map numS))), none, none, none] ∧ Ex H1 H') (fun N hN => ?_) (fun σ2 H2 hC => ?_)
    · walk_at "sx"
      refine ⟨⟨_, .inl (.inl hr)⟩, ?_⟩
      refine lg_list (xs := (nz M).map V.int) (JW H1 b mo r M) ⟨none, by rw [List.take_zero, List.map_nil, BC.join_nil], Ex.refl _⟩ (fun i σ' H' _ hP => by obtain ⟨_, _, e⟩ := hP; exact .inl (.inl (e _ _ hr))) (fun i x σ' H' hx hP => ?_) (fun σ' H' hP => ?_)
      · obtain ⟨l2, rfl, e⟩ := hP
        obtain ⟨n, hn, rfl⟩ := at_nz hx
        have hi := (List.getElem?_eq_some_iff.mp hn).1
        have n40 := lt n (List.mem_of_getElem? hn)
        have nl := numS_len (n := n) (by omega)
        have jl := line_len (M := M.take i) (fun u hu => by have := lt u (List.mem_of_mem_take hu); omega)
        rw [List.length_take] at jl
        rw [se]
        walk_at "sx"
        refine .inr ?_
        have ln := line_ne hi lt
        have em : (if (!decide (Txt.join NX (List.map numS (List.take i M)) = Str.empty)) = true then (1 : Int) else 0) = (((if i = 0 then 0 else 1 : Nat)) : Int) := by
          rw [ln]
          by_cases c : i = 0
          · rw [decide_eq_true c, if_pos c]; rfl
          · rw [decide_eq_false c, if_neg c]; rfl
        rw [em]
        obtain ⟨g1, g2⟩ := mul_nx (if i = 0 then 0 else 1) (by split <;> omega)
        have g3 : (if (if i = 0 then 0 else 1 : Nat) = 0 then Str.empty else NX) = if i = 0 then Str.empty else NX := by
          by_cases c : i = 0
          · rw [if_pos c, if_pos c, if_pos rfl]
          · rw [if_neg c, if_neg c, if_neg (by decide)]
        rw [g3] at g2
        have dl : (if i = 0 then Str.empty else NX).length ≤ 3 := by
          split <;> decide
        refine x_mulS.mpr ⟨g1, ?_⟩
        rw [g2]
        refine x_addS.mpr ⟨sz_ok (by omega), log_k (by omega) (by omega), x_addS.mpr ⟨sz_ok (by show _ + (numS n).length ≤ _; rw [Str.length_append]; omega), ?_⟩⟩
        rw [show Txt.join NX ((M.take i).map numS) ++ (if i = 0 then Str.empty else NX) ++ Str.ofString (toString ((n : Nat) : Int)) = Txt.join NX ((M.take (i + 1)).map numS) from line_next hn]
        exact ⟨_, rfl, e⟩
      · obtain ⟨l2, rfl, e⟩ := hP
        rw [List.length_map, nz_len, List.take_length]
        exact hN _ _ ⟨_, rfl, e⟩
    obtain ⟨l2, rfl, e2⟩ := hC
    have hr2 := e2 _ _ hr
    have b2 := b1.ex e2
    -- before
    refine seq_asg (fun v H' => v = .str (shInts (nz M)) ∧ H' = H2) (fun R hR => ?_) (fun v H3 hC => ?_)
    · walk_at "sx"
      exact reprInts (.inl (.inl hr2)) (fun n hn => by obtain ⟨u, hu, rfl⟩ := List.mem_map.mp hn; have := lt u hu; omega) (by rw [nz_len]; omega) (hR _ _ ⟨rfl, rfl⟩)
    obtain ⟨rfl, rfl⟩ := hC
    simp only [List.set_cons_zero, List.set_cons_succ]
    refine seq_cut (fun σ' H' => σ' = [some (.ref b), some (.int mo), l2, some (.str (shInts (nz M))), none, none, none, none, none, none, some (.ref r), some (.str (Txt.join NX (M.map numS))), none, none, none] ∧ Ex H3 H') (fun N hN => ?_) (fun σ4 H4 hC => ?_)
    · walk_at "sx"
      refine ⟨r, M, rfl, .inl (.inl hr2), nd, lt, fun H4 e4 => ?_⟩
      refine x_neS.mpr ⟨_, rfl, ?_⟩
      rw [decide_eq_true rfl]
      walk_at "sx"
      refine reprInts (.inl (.inl (e4 _ _ hr2))) (fun n hn => by obtain ⟨u, hu, rfl⟩ := List.mem_map.mp hn; have := lt u hu; omega) (by rw [nz_len]; omega) ?_
      refine x_neS.mpr ⟨_, rfl, ?_⟩
      rw [decide_eq_true rfl]
      walk_at "sx"
      exact hN _ _ ⟨rfl, e4⟩
    obtain ⟨rfl, e4⟩ := hC
    have hr4 := e4 _ _ hr2
    have b4 := b2.ex e4
    have ll := line_len (M := M) (fun u hu => by have := lt u hu; omega)
    -- the attempts
    refine seq_cut (fun σ' H' => ∃ l4 l12, σ' = [some (.ref b), some (.int mo), l2, some (.str (shInts (nz M))), l4, none, none, none, none, none, some (.ref r), some (.str (Txt.join NX (M.map numS))), l12, none, none] ∧ Ex H4 H') (fun N hN => ?_) (fun σ5 H5 hC => ?_)
    · walk_at "sx"
      refine ⟨by omega, by omega, ?_⟩
      refine lg_rng (JA H4 [some (.ref b), some (.int mo), l2, some (.str (shInts (nz M))), none, none, none, none, none, none, some (.ref r), some (.str (Txt.join NX (M.map numS))), none, none, none]) ⟨⟨_, _, rfl⟩, Ex.refl _⟩ (fun j σ' H5 hj hP => ?_) (fun σ' H5 hP => ?_)
      · obtain ⟨⟨l4, l12, rfl⟩, e5⟩ := hP
        simp only [x_gn, List.set_cons_zero, List.set_cons_succ]
        refine seq_asg (fun v H' => ∃ q, v = .ref q ∧ H5 q = none ∧ Ex H5 H' ∧ H' q = some (.lst ((nz M).map V.int))) (fun R hR => ?_) (fun v H6 hC => ?_)
        · walk_at "sx"
          refine ⟨_, "str", true, rfl, .base (.str _), by decide +kernel, (fun z => nomatch z), fun _ => ⟨_, rfl, by omega, fun L hL q H' nq e hq => ?_, fun hN => ?_⟩⟩
          · rw [ptT_join nd lt] at hL
            obtain rfl := Option.some.inj hL
            exact hR _ _ ⟨q, rfl, nq, e, hq⟩
          · rw [ptT_join nd lt] at hN
            cases hN
        obtain ⟨q, rfl, nq, e6, hq⟩ := hC
        simp only [List.set_cons_zero, List.set_cons_succ]
        walk_at "sx"
        refine ⟨_, _, .list ((nz M).map PyData.int), rfl, .lst (.inl (.inl hq)) (dp_ints _), .lst (.inl (.inl (e6 _ _ (e5 _ _ hr4)))) (dp_ints _), .lst (by rw [List.length_map, nz_len]; omega) (fun d hd => by obtain ⟨u, _, rfl⟩ := List.mem_map.mp hd; exact .int _ _), fun H7 e7 => ?_⟩
        walk_at "sx"
        have hq7 := e7 _ _ hq
        refine ⟨tyL hq7, appL hq7 (BC.sz_lt (by rw [List.length_map, nz_len]; omega)) ⟨tyL upd_same, revL upd_same ?_⟩⟩
        exact ⟨⟨_, _, rfl⟩, (((e5.trans e6).trans e7).mut (fresh_back e5 nq)).mut (fresh_back e5 nq)⟩
      · obtain ⟨⟨l4, l12, rfl⟩, e5⟩ := hP
        exact hN _ _ ⟨_, _, rfl, e5⟩
    obtain ⟨l4, l12, rfl, e5⟩ := hC
    have hr5 := e5 _ _ hr4
    have b5 := b4.ex e5
    -- damages
    refine seq_cut (fun σ' H' => ∃ l5 y l13, σ' = [some (.ref b), some (.int mo), l2, some (.str (shInts (nz M))), l4, l5, none, none, none, none, some (.ref r), some (.str y), l12, l13, none] ∧ y.length ≤ 421000 ∧ Fx b H5 H' ∧ BagAt H' b 2100) (fun N hN => ?_) (fun σ6 H6 hC => ?_)
    · walk_at "sx"
      refine ⟨b, _, _, rfl, by omega, big_of (by omega), b5, by omega, fun u H6 u0 u1 f6 b6 => ⟨_, rfl, by omega, by omega, ?_⟩⟩
      obtain ⟨u, rfl⟩ : ∃ m : Nat, u = (m : Int) := ⟨u.toNat, by omega⟩
      rw [Int.toNat_natCast]
      have u3 : u ≤ 3 := by omega
      refine lg_rng (JD H6 b [some (.ref b), some (.int mo), l2, some (.str (shInts (nz M))), l4, none, none, none, none, none, some (.ref r), some (.str (Txt.join NX (M.map numS))), l12, none, none] 2001) ⟨⟨none, Txt.join NX (M.map numS), none, rfl, ⟨fun _ => by omega, fun _ => by omega, fun _ => by omega, by omega⟩⟩, Fx.refl _ _, by simpa using b6⟩ (fun i σ' H7 hi hP => ?_) (fun σ' H7 hP => ?_)
      · obtain ⟨⟨l5, y, l13, rfl, hy⟩, f7, b7⟩ := hP
        simp only [x_gn, List.set_cons_zero, List.set_cons_succ]
        refine seq_asg (fun v H' => ∃ q pool, v = .ref q ∧ H7 q = none ∧ Ex H7 H' ∧ H' q = some (.lst ((pool : List Str).map V.str)) ∧ 1 ≤ pool.length ∧ pool.length ≤ 1000 ∧ ∀ p ∈ pool, p.length ≤ 10) (fun R hR => ?_) (fun v H8 hC => ?_)
        · refine ⟨sz_ok (by decide), fun q nq => hR _ _ ⟨q, poolS, rfl, nq, Ex.new nq, ?_, by decide, by decide, pool_ok⟩⟩
          exact upd_same
        obtain ⟨q, pool, rfl, nq, e8, hq, p1, p2, p10⟩ := hC
        have nqb : q ≠ b := b7.apart nq
        simp only [List.set_cons_zero, List.set_cons_succ]
        walk_at "sx"
        refine ⟨sz_ok (by omega), fun p np => ?_⟩
        have ep := Ex.new np (o := .lst [V.str (Str.ofString " > "), V.str (Str.ofString " ")])
        have b8 := b7.ex e8
        have npb : p ≠ b := b8.apart np
        refine ⟨b, _, _, rfl, by omega, big_of (by omega), b8.ex ep, by omega, fun v H9 v0 v1 f9 b9 => ?_⟩
        obtain ⟨m, hm, em⟩ : ∃ m : Str, (m = NX ∨ m = ((" " : String) : Str)) ∧ atI [V.str (Str.ofString " > "), V.str (Str.ofString " ")] v = some (.str m) := by
          rcases (show v = 0 ∨ v = 1 by omega) with rfl | rfl
          · exact ⟨NX, .inl rfl, rfl⟩
          · exact ⟨_, .inr rfl, rfl⟩
        have ml : 1 ≤ m.length ∧ m.length ≤ 3 := by
          rcases hm with rfl | rfl
          · decide
          · decide
        refine ixL (.inl (.inl (f9 _ _ npb upd_same))) em ?_
        obtain ⟨y0, y1, y2, y3⟩ := hy
        refine ⟨b, y, m, q, pool, _, rfl, b9, by omega, f9 _ _ nqb (ep _ _ hq), nqb, p1, p2, p10, ml.1, ml.2, by omega, split_ne2 y m hm, fun z HA hz fA bA => ?_⟩
        exact ⟨⟨_, z, _, rfl, ⟨fun _ => by omega, fun _ => by omega, fun _ => by omega, by omega⟩⟩, ((f7.trans (Fx.of (e8.trans ep))).trans f9).trans fA, bA.mono (by omega)⟩
      · obtain ⟨⟨l5, y, l13, rfl, hy⟩, f7, b7⟩ := hP
        exact hN _ _ ⟨l5, y, l13, rfl, hy.2.2.2, f6.trans f7, b7.mono (by omega)⟩
    obtain ⟨l5, y, l13, rfl, hy, f6, b6⟩ := hC
    have hr6 := f6 _ _ nrb hr5
    refine seq_cut (fun σ' H' => σ' = [some (.ref b), some (.int mo), l2, some (.str (shInts (nz M))), l4, l5, none, none, none, none, some (.ref r), some (.str y), l12, l13, none] ∧ Ex H6 H') (fun N hN => ?_) (fun σ7 H7 hC => ?_)
    · walk_at "sx"
      refine ⟨by unfold sizeLine; omega, ?_⟩
      by_cases c4 : (y.length : Int) ≤ 4000
      · rw [if_pos c4]
        refine ⟨_, "str", true, rfl, .base (.str _), by decide +kernel, fun _ => ⟨y, rfl, by omega, fun r1 Ha ea o1 => ?_⟩, (fun z => nomatch z)⟩
        refine ⟨y, rfl, by omega, fun r2 Hb eb o2 => ?_⟩
        obtain ⟨d, d1, d2, sd⟩ := same_out (K := K) eb o1 o2
        refine ⟨r1, r2, d, rfl, d1, d2, sd, fun H7 e7 => ?_⟩
        walk_at "sx"
        exact hN _ _ ⟨rfl, (ea.trans eb).trans e7⟩
      · rw [if_neg c4]
        exact hN _ _ ⟨rfl, Ex.refl _⟩
    obtain ⟨rfl, e7⟩ := hC
    have hr7 := e7 _ _ hr6
    have b7 := b6.ex e7
    refine seq_asg (fun v H' => ∃ z : Str, v = .str z ∧ z.length ≤ 400 ∧ Ex H7 H') (fun R hR => ?_) (fun v H8 hC => ?_)
    · walk_at "sx"
      refine ⟨tyS, by omega, by omega, fun D nD => ?_⟩
      refine lc_rng (lo := 0) (n := 40) (fun _ => true) (fun i => V.str (numS (39 - i))) nD (by omega) (fun u => rfl) (fun i _ => tyes) (fun i hi _ => ?_) (fun H8 e8 hD => ?_)
      · intro H3 e3 R hR
        walk_at "sx"
        refine ⟨_, rfl, x_I0.mpr ⟨_, rfl, log_k (by omega) (by omega), ?_⟩⟩
        rw [show (39 : Int) - (0 + (i : Int)) = ((39 - i : Nat) : Int) by omega]
        exact hR _ (Ex.refl _)
      · have ek : kept 40 (fun _ => true) (fun i => V.str (numS (39 - i))) = (((List.range 40).map fun i => 39 - i).map numS).map V.str := by
          rw [kept_all, List.map_map, List.map_map]
          rfl
        rw [ek] at hD
        have tn := tot_nums (M := (List.range 40).map fun i => 39 - i) (fun n hn => by
          obtain ⟨u, _, rfl⟩ := List.mem_map.mp hn
          omega)
        rw [List.length_map, List.length_range] at tn
        have jl := join_le (Str.ofString " > ") (((List.range 40).map fun i => 39 - i).map numS)
        rw [show (Str.ofString " > ").length = 3 by decide, List.length_map, List.length_map, List.length_range] at jl
        refine joinL (.inl (.inl hD)) ?_ (hR _ _ ⟨_, rfl, by omega, e8⟩)
        show totL _ + _ ≤ _
        rw [show (Str.ofString " > ").length = 3 by decide, List.length_map, List.length_map, List.length_range]
        omega
    obtain ⟨z, rfl, hz, e8⟩ := hC
    simp only [List.set_cons_zero, List.set_cons_succ]
    refine seq_asg (fun v H' => ∃ q ss, v = .ref q ∧ Ex H8 H' ∧ H' q = some (.lst ((ss : List Str).map V.str)) ∧ ss.length ≤ 100 ∧ ∀ p ∈ ss, p.length ≤ 4000) (fun R hR => ?_) (fun v H9 hC => ?_)
    · refine ⟨sz_ok (by decide), fun q nq => hR _ _ ⟨q, fixS, rfl, Ex.new nq, ?_, by decide, fix_ok⟩⟩
      exact upd_same
    obtain ⟨q, ss, rfl, e9, hq, sl, s4⟩ := hC
    simp only [List.set_cons_zero, List.set_cons_succ]
    have b9 := b7.ex (e8.trans e9)
    have hr9 := (e8.trans e9) _ _ hr7
    refine seq_cut (fun σ' H' => ∃ l8, σ' = [some (.ref b), some (.int mo), l2, some (.str (shInts (nz M))), l4, l5, some (.str z), some (.ref q), l8, none, some (.ref r), some (.str y), l12, l13, none] ∧ Ex H9 H') (fun N hN => ?_) (fun σA HA hC => ?_)
    · walk_at "sx"
      refine ⟨sz_ok (by rw [show (Str.ofString " > 40").length = 5 by decide]; omega), sz_ok (by rw [show (Str.ofString " > 0").length = 4 by decide]; omega), ?_⟩
      refine mul_w (by omega) (by decide) (by omega) fun z1 hz1 => mul_w (by omega) (by decide) (by omega) fun z2 hz2 => mul_w (by omega) (by decide) (by omega) fun z3 hz3 => ⟨sz_ok (by omega), fun p np => ?_⟩
      rw [show (Str.ofString " > ").length = 3 by decide, show Int.toNat 1000 = 1000 by rfl] at hz1
      rw [show (Str.ofString "0 > 1 > ").length = 8 by decide, show Int.toNat 400 = 400 by rfl] at hz2
      rw [show (Str.ofString "1").length = 1 by decide, show Int.toNat 3000 = 3000 by rfl] at hz3
      have ep := Ex.new np (o := .lst [V.str (Str.ofString "0 >  1"), V.str z, V.str (z ++ Str.ofString " > 40"), V.str (z ++ Str.ofString " > 0"), V.str z1, V.str z2, V.str z3])
      refine cat_w (ys := [Str.ofString "0 >  1", z, z ++ Str.ofString " > 40", z ++ Str.ofString " > 0", z1, z2, z3]) (ep _ _ hq) upd_same (by simp; omega) fun u HB nu eu hu => ⟨u, rfl, ⟨_, .inl (.inl hu)⟩, ?_⟩
      have all4 : ∀ s ∈ ss ++ [Str.ofString "0 >  1", z, z ++ Str.ofString " > 40", z ++ Str.ofString " > 0", z1, z2, z3], s.length ≤ 4000 := fun s hs => by
        rcases List.mem_append.mp hs with h | h
        · exact s4 s h
        · simp only [List.mem_cons, List.mem_nil_iff, or_false] at h
          rcases h with rfl | rfl | rfl | rfl | rfl | rfl | rfl
          · decide
          · omega
          · rw [Str.length_append, show (Str.ofString " > 40").length = 5 by decide]; omega
          · rw [Str.length_append, show (Str.ofString " > 0").length = 4 by decide]; omega
          · omega
          · omega
          · omega
      have eB := ep.trans eu
      generalize ss ++ [Str.ofString "0 >  1", z, z ++ Str.ofString " > 40", z ++ Str.ofString " > 0", z1, z2, z3] = tt at hu all4 ⊢
      refine lg_list (xs := tt.map V.str) (JF HB [some (.ref b), some (.int mo), l2, some (.str (shInts (nz M))), l4, l5, some (.str z), some (.ref q), none, none, some (.ref r), some (.str y), l12, l13, none]) ⟨⟨none, rfl⟩, Ex.refl _⟩ (fun i σ' H' _ hP => by obtain ⟨_, e⟩ := hP; exact .inl (.inl (e _ _ hu))) (fun i x σ' H' hx hP => ?_) (fun σ' H' hP => ?_)
      · obtain ⟨⟨l8, rfl⟩, e⟩ := hP
        rw [List.getElem?_map] at hx
        cases hs : tt[i]? with
        | none => rw [hs] at hx; cases hx
        | some s =>
          rw [hs] at hx
          obtain rfl : V.str s = x := Option.some.inj hx
          have s40 := all4 s (List.mem_of_getElem? hs)
          simp only [x_gn, List.set_cons_zero, List.set_cons_succ]
          walk_at "sx"
          refine ⟨_, "str", true, rfl, .base (.str _), by decide +kernel, fun _ => ⟨s, rfl, s40, fun r1 Ha ea o1 => ?_⟩, (fun z => nomatch z)⟩
          refine ⟨s, rfl, s40, fun r2 Hb eb o2 => ?_⟩
          obtain ⟨d, d1, d2, sd⟩ := same_out (K := K) eb o1 o2
          refine ⟨r1, r2, d, rfl, d1, d2, sd, fun H7 e7 => ?_⟩
          walk_at "sx"
          exact ⟨⟨_, rfl⟩, ((e.trans ea).trans eb).trans e7⟩
      · obtain ⟨⟨l8, rfl⟩, e⟩ := hP
        exact hN _ _ ⟨_, rfl, eB.trans e⟩
    obtain ⟨l8, rfl, eA⟩ := hC
    have bA := b9.ex eA
    have hrA := eA _ _ hr9
    refine seq_asg (fun v H' => ∃ A : String, TyX K H' v (.type A) ∧ kitB A "str" = some false ∧ Fx b HA H') (fun R hR => ?_) (fun v HB hC => ?_)
    · walk_at "sx"
      refine ⟨sz_ok (by omega), fun p np => ⟨sz_ok (by omega), fun t nt => fun d nd => ⟨sz_ok (by omega), fun u nu => ?_⟩⟩⟩
      have x1 := Ex.new np (o := .lst [V.str (Str.ofString "0")])
      have x2 := Ex.new nt (o := .tup [V.str (Str.ofString "0")])
      have x3 := Ex.new nd (o := .dK [])
      have x4 := Ex.new nu (o := .lst [V.non, V.int 0, V.ref p, V.ref t, V.ref d, V.bl true, V.ref r])
      have hp := (x2.trans (x3.trans x4)) _ _ (upd_same (H := HA) (a := p) (o := .lst [V.str (Str.ofString "0")]))
      have ht := (x3.trans x4) _ _ (upd_same (H := upd HA p (.lst [V.str (Str.ofString "0")])) (a := t) (o := .tup [V.str (Str.ofString "0")]))
      have hd := x4 _ _ (upd_same (H := upd (upd HA p (.lst [V.str (Str.ofString "0")])) t (.tup [V.str (Str.ofString "0")])) (a := d) (o := .dK []))
      have x14 := x1.trans (x2.trans (x3.trans x4))
      have hrB := x14 _ _ hrA
      have hu := (upd_same (H := upd (upd (upd HA p (.lst [V.str (Str.ofString "0")])) t (.tup [V.str (Str.ofString "0")])) d (.dK [])) (a := u) (o := .lst [V.non, V.int 0, V.ref p, V.ref t, V.ref d, V.bl true, V.ref r]))
      have bB := bA.ex x14
      have nub : u ≠ b := (bA.ex (x1.trans (x2.trans x3))).apart nu
      generalize upd (upd (upd (upd HA p (.lst [V.str (Str.ofString "0")])) t (.tup [V.str (Str.ofString "0")])) d (.dK [])) u (.lst [V.non, V.int 0, V.ref p, V.ref t, V.ref d, V.bl true, V.ref r]) = HZ at *
      have npb : p ≠ b := fun e => by subst e; obtain ⟨_, _, _, hb, _⟩ := bA; rw [np] at hb; cases hb
      have ntb : t ≠ b := fun e => by subst e; obtain ⟨_, _, _, hb, _⟩ := bB; rw [ht] at hb; cases hb
      have ndb : d ≠ b := fun e => by subst e; obtain ⟨_, _, _, hb, _⟩ := bB; rw [hd] at hb; cases hb
      refine ⟨b, _, _, rfl, by omega, big_of (by omega), bB, by omega, fun v HC v0 v1 fC bC => ?_⟩
      have fin := (Fx.of x14).trans fC
      rcases (show v = 0 ∨ v = 1 ∨ v = 2 ∨ v = 3 ∨ v = 4 ∨ v = 5 ∨ v = 6 by omega) with rfl | rfl | rfl | rfl | rfl | rfl | rfl
      · exact ixL (.inl (.inl (fC _ _ nub hu))) (atI_n (j := 0) rfl rfl) (hR _ _ ⟨"NoneType", .base .non, by decide +kernel, fin⟩)
      · exact ixL (.inl (.inl (fC _ _ nub hu))) (atI_n (j := 1) rfl rfl) (hR _ _ ⟨"int", .base (.int 0), by decide +kernel, fin⟩)
      · exact ixL (.inl (.inl (fC _ _ nub hu))) (atI_n (j := 2) rfl rfl) (hR _ _ ⟨"list", .base (.lst (fC _ _ npb hp)), by decide +kernel, fin⟩)
      · exact ixL (.inl (.inl (fC _ _ nub hu))) (atI_n (j := 3) rfl rfl) (hR _ _ ⟨"tuple", .base (.tup (fC _ _ ntb ht)), by decide +kernel, fin⟩)
      · exact ixL (.inl (.inl (fC _ _ nub hu))) (atI_n (j := 4) rfl rfl) (hR _ _ ⟨"dict", .base (.dK (fC _ _ ndb hd)), by decide +kernel, fin⟩)
      · exact ixL (.inl (.inl (fC _ _ nub hu))) (atI_n (j := 5) rfl rfl) (hR _ _ ⟨"bool", .base (.bl true), by decide +kernel, fin⟩)
      · exact ixL (.inl (.inl (fC _ _ nub hu))) (atI_n (j := 6) rfl rfl) (hR _ _ ⟨"list", .base (.lst (fC _ _ nrb hrB)), by decide +kernel, fin⟩)
    obtain ⟨A, ty, kb, fB⟩ := hC
    simp only [List.set_cons_zero, List.set_cons_succ]
    walk_at "sx"
    refine ⟨v, A, false, rfl, ty, kb, (fun z => nomatch z), fun _ HC eC => ?_⟩
    have sh : SeqAt.shaped (PyData.str (Str.ofString "format")) = true := by decide +kernel
    refine ⟨.str _, .str _, .str _, .str _, sh, sh, ?_⟩
    rw [show PyData.eqv (.str (Str.ofString "format")) (.str (Str.ofString "format")) = true by simp [PyData.eqv]]
    exact k _ ((((((f1.trans (Fx.of (e2.trans (e4.trans e5)))).trans f6).trans (Fx.of (e7.trans (e8.trans e9)))).trans (Fx.of eA)).trans fB).trans (Fx.of eC))
end
end LW

set_option Elab.async false
set_option linter.all false
set_option maxRecDepth 100000
set_option maxHeartbeats 4000000
namespace LW
open PySem PySem.Spec PyProof.Rows L2 BC Evl TR
local macro_rules | `(tactic| walk_at "sx") => `(tactic| try simp only [x_seq, x_next, x_brk, x_cnt, x_nev, x_ret, x_retN, x_drop, x_ifS, x_asg, x_gn, x_gsub, x_par, x_par3, x_aug, x_for, x_lc, x_rng1, x_rng2, x_rng3, x_ilist, x_itup, x_ienum, x_izip, x_izipA, x_istr, x_var, x_c, x_op, x_un, x_test, x_b, x_chain, x_and, x_or, x_not, x_andV, x_orV, x_notV, x_ife, x_nil, x_cons, x_lst, x_tup, x_cb, x_call, x_callK, x_callS, x_bm, x_bm0, x_tru, x_sl, x_nopart, x_part, x_revL, x_I0, x_I, x_U, x_ip, x_ipC, x_eqI, x_neI, x_eqB, x_neB, x_eqS, x_neS, x_isB, x_isNB, x_lrg, x_gall, x_lenSet, x_augS, x_sortSet, x_sortSetB, x_lenSetA, x_rg1, x_rg2, x_mulS, x_fmtS, x_gstar, x_inS, x_addS, x_js0, x_js, x_jn, x_fmt, x_callS,
  L2.start, List.map_cons, List.map_nil, List.length_cons, List.length_nil, Nat.reduceAdd, Nat.reduceSub, Nat.sub_self, Nat.zero_add, List.replicate, List.replicate_succ, List.replicate_zero, List.append_nil, List.cons_append, List.nil_append, List.set_cons_zero, List.set_cons_succ, List.getElem?_cons_zero, List.getElem?_cons_succ, Option.some.injEq, V.int.injEq, V.bl.injEq, V.ref.injEq, V.str.injEq, List.cons.injEq, and_true, true_and, exists_eq_left', exists_eq_left, exists_and_left, exists_eq, if_true, if_false, ite_true, ite_false, Bool.true_eq_false, Bool.false_eq_true, reduceIte, reduceCtorEq, Bool.not_true, Bool.not_false, decide_true, decide_false, decide_eq_true_eq, Bool.and_true, Bool.true_and, Bool.and_self, Bool.and_false, Bool.false_and, Bool.or_self, Bool.or_false, Bool.false_or, Bool.or_true, Bool.true_or, eq_self])
section
variable {P : Program} {w : World} {K : PySem.W.Frag} {mg : Str → Option Value} {base : Heap}
def spLaw (K : PySem.W.Frag) : Sp := fun vs H Q _ => ∃ (a : Addr) (ns : List Int), vs = [.ref a] ∧ SqL K H a (ns.map V.int) ∧ ns.length ≤ 63 ∧ ∀ H', Q (.bl true) H'
def JO (H1 : Hp) (a : Addr) (i : Nat) (σ' : L2.St) (H' : Hp) : Prop := ∃ l1 l2, σ' = [some (.ref a), l1, l2] ∧ Ex H1 H'
theorem ok_law (T : Txt K mg) : FnG P w K mg base CX0 7 T.f_law T.fd_law ["_law_script"] (spLaw K) := by
  refine fun_okN T.F_law sc_law (fun vs H Q E h => ?_) (fun cdv A outer s H vs Q E hG hr h => ?_)
  · obtain ⟨a, ns, rfl, _⟩ := h
    rfl
  · obtain ⟨a, ns, rfl, hA, hn, k⟩ := h
    apply Exists.intro
    apply And.intro
    · apply pss_cons
      · apply ps_for PassesOwn.never rfl
        · exact (k_pi_enum (K := K) rfl (by rfl) T.n_enumerate (pa_cons (pe_slice (k_sl_list (K := K) rfl) (pe_op (k_catS (K := K) rfl) (pv 0) (pe_lst (pa_cons pe_int pa_nil))) po_none (po_some (pe_callB (call_max2 rfl) (by rfl) T.n_max (by decide +kernel) (pa_cons pe_int (pa_cons (pe_callB (call_min2 rfl) (by rfl) T.n_min (by decide +kernel) (pa_cons (pe_callB (k_len (K := K) rfl) (by rfl) T.n_len PySem.boot_len (pa_cons (pv 0) pa_nil)) (pa_cons pe_int pa_nil))) pa_nil))))) pa_nil))
        · exact (k_tup (K := K) (n := 2) rfl rfl (pgs_cons (pg_name (i := 1) sc_law.nd rfl (.inl rfl)) (pgs_cons (pg_name (i := 2) sc_law.nd rfl (.inl rfl)) pgs_nil)))
        · apply pss_one
          apply ps_if
          · exact (pt_not (pt_val (pe_callG (ok_law_holds T) hG (hr.mono (by decide)) (by rfl) T.m_law_holds T.F_law_holds.kp T.b_law_holds .nil pass0 (pa_cons (pe_call (ok_law_source T) (hr.mono (by decide)) (by rfl) T.m_law_source T.F_law_source.kp T.b_law_source .nil pass0 (pa_cons (pv 2) (pa_cons (pv 1) pa_nil))) (pa_cons (pe_ifExp (pt_cmpR (k_eqD (K := K) rfl hr.units) (pv 0) (pe_lst pa_nil) (by rfl)) pe_int pe_int) pa_nil)))))
          · apply pss_one
            exact (ps_ret pe_bl)
          · exact pss_nil
      apply pss_one
      exact (ps_ret pe_bl)
    walk_at "sx"
    refine ⟨sz_ok (by omega), fun z nz => ?_⟩
    have ez := Ex.new nz (o := .lst [V.int 0])
    refine catS (ex_l ez hA) (.inl (.inl upd_same)) (sz_ok (by rw [List.length_map, List.length_singleton]; omega)) fun c nc => ?_
    have ec := Ex.new nc (o := .lst (ns.map V.int ++ [V.int 0]))
    have hA2 := ex_l (ez.trans ec) hA
    refine lenL hA2 ?_
    rw [List.length_map]
    refine ⟨_, _, ⟨rfl, rfl⟩, _, _, ⟨rfl, rfl⟩, ?_⟩
    refine slL (.inl (.inl upd_same)) fun L nL => ?_
    have hmem : ∀ x ∈ cutV (ns.map V.int ++ [V.int 0]) none (some (if (if (20 : Int) < ((ns.length : Nat) : Int) then (20 : Int) else ((ns.length : Nat) : Int)) > 1 then (if (20 : Int) < ((ns.length : Nat) : Int) then (20 : Int) else ((ns.length : Nat) : Int)) else 1)), ∃ n, x = V.int n := fun x hx => by
      rcases List.mem_append.mp (cutV_mem hx) with h | h
      · obtain ⟨n, _, e⟩ := List.mem_map.mp h
        exact ⟨n, e.symm⟩
      · exact ⟨0, List.mem_singleton.mp h⟩
    have hlen := cutV_len (ns.map V.int ++ [V.int 0]) none (some (if (if (20 : Int) < ((ns.length : Nat) : Int) then (20 : Int) else ((ns.length : Nat) : Int)) > 1 then (if (20 : Int) < ((ns.length : Nat) : Int) then (20 : Int) else ((ns.length : Nat) : Int)) else 1))
    rw [List.length_append, List.length_map, List.length_singleton] at hlen
    generalize (cutV (ns.map V.int ++ [V.int 0]) none (some (if (if (20 : Int) < ((ns.length : Nat) : Int) then (20 : Int) else ((ns.length : Nat) : Int)) > 1 then (if (20 : Int) < ((ns.length : Nat) : Int) then (20 : Int) else ((ns.length : Nat) : Int)) else 1))) = xs at hmem hlen ⊢
    have eL := Ex.new nL (o := .lst xs)
    have hL : (upd (upd (upd H z (.lst [V.int 0])) c (.lst (ns.map V.int ++ [V.int 0]))) L (.lst xs)) L = some (.lst xs) := upd_same
    have hA3 := ex_l eL hA2
    generalize (upd (upd (upd H z (.lst [V.int 0])) c (.lst (ns.map V.int ++ [V.int 0]))) L (.lst xs)) = H1 at hL hA3 ⊢
    refine ⟨L, rfl, xs, .inl (.inl hL), ?_⟩
    refine lg_enum (xs := xs) (JO H1 a) ⟨none, none, rfl, Ex.refl H1⟩ (fun i σ' H' hi hP => by obtain ⟨_, _, _, e⟩ := hP; exact .inl (.inl (e _ _ hL)))
      (fun i x σ' H' T hx hP nT => ?_) (fun σ' H' hP => ?_)
    · obtain ⟨l1, l2, rfl, e⟩ := hP
      obtain ⟨n, rfl⟩ := hmem x (List.mem_of_getElem? hx)
      have hi := (List.getElem?_eq_some_iff.mp hx).1
      refine g_two upd_same ?_
      have eT := Ex.new nT (o := .tup [V.int i, V.int n])
      simp only [List.set_cons_zero, List.set_cons_succ]
      walk_at "sx"
      refine ⟨n, i, rfl, by omega, fun b H2 nb e2 hb => ?_⟩
      have nbH : H' b = none := fresh_back eT nb
      have e12 := (e.trans eT).trans e2
      refine ⟨sz_ok (by omega), fun z nz => ?_⟩
      have ez := Ex.new nz (o := .lst [])
      refine eqInts (ms := []) (ex_l (e12.trans ez) hA3) (.inl (.inl upd_same)) ?_
      have fin : ∀ mo : Nat, mo ≤ 300 → spHolds [.ref b, .int mo] (upd H2 z (.lst [])) (fun x H3 => ∃ k, x = V.bl k ∧ (if (!k) = true then Q (.bl false) H3 else JO H1 a (i + 1) [some (.ref a), some (.int i), some (.int n)] H3)) E0 := fun mo h2 => by
        refine ⟨b, mo, 0, rfl, h2, hb.ex ez, by omega, fun H3 f3 => ⟨true, rfl, ?_⟩⟩
        rw [if_neg (by decide)]
        exact ⟨_, _, rfl, e.trans (((Fx.of (eT.trans e2)).trans ((Fx.of ez).trans f3)).ex nbH)⟩
      refine ⟨_, rfl, ?_⟩
      cases decide (ns = [])
      · rw [if_neg (by decide)]
        exact fin 300 (by omega)
      · rw [if_pos rfl]
        exact fin 4 (by omega)
    · obtain ⟨l1, l2, rfl, e⟩ := hP
      walk_at "sx"
      exact k _
end
end LW

set_option Elab.async false
set_option linter.all false
set_option maxRecDepth 100000
set_option maxHeartbeats 4000000
namespace LW
open PySem PySem.Spec PyProof.Rows L2 BC Evl TR
theorem all_mk {l : PySem.W.OpenLaw} {w : World} {K : PySem.W.Frag} {h : Heap} {mg : Str → Option Value} {fa : Addr} (X : K.In h) (G : h.Ns mainGlobals mg) (hfa : mg "law" = some (.ref fa))
    {X0 : Addr} {cdX0 : ClassData}
    {X1 : Addr} {cdX1 : ClassData}
    {X2 : Addr} {cdX2 : ClassData}
    {X3 : Addr} {cdX3 : ClassData}
    {X4 : Addr} {cdX4 : ClassData}
    {X5 : Addr} {cdX5 : ClassData}
    {X6 : Addr} {cdX6 : ClassData}
    {X7 : Addr} {cdX7 : ClassData}
    {X8 : Addr} {cdX8 : ClassData}
    {X9 : Addr} {cdX9 : ClassData}
    {X10 : Addr} {cdX10 : ClassData}
    {f0 : Addr} {od0 an0 : Option Addr} {sl0 : Array (Option Value)} {oc0 kV0 dc0 pm0 cd0 ct0 : Value}
    {f1 : Addr} {od1 an1 : Option Addr} {sl1 : Array (Option Value)} {oc1 kV1 dc1 pm1 cd1 ct1 : Value}
    {f2 : Addr} {od2 an2 : Option Addr} {sl2 : Array (Option Value)} {oc2 kV2 dc2 pm2 cd2 ct2 : Value}
    {f3 : Addr} {od3 an3 : Option Addr} {sl3 : Array (Option Value)} {oc3 kV3 dc3 pm3 cd3 ct3 : Value}
    {f4 : Addr} {od4 an4 : Option Addr} {sl4 : Array (Option Value)} {oc4 kV4 dc4 pm4 cd4 ct4 : Value}
    {f5 : Addr} {od5 an5 : Option Addr} {sl5 : Array (Option Value)} {oc5 kV5 dc5 pm5 cd5 ct5 : Value}
    {f6 : Addr} {od6 an6 : Option Addr} {sl6 : Array (Option Value)} {oc6 kV6 dc6 pm6 cd6 ct6 : Value}
    {f7 : Addr} {od7 an7 : Option Addr} {sl7 : Array (Option Value)} {oc7 kV7 dc7 pm7 cd7 ct7 : Value}
    {f8 : Addr} {od8 an8 : Option Addr} {sl8 : Array (Option Value)} {oc8 kV8 dc8 pm8 cd8 ct8 : Value}
    {f9 : Addr} {od9 an9 : Option Addr} {sl9 : Array (Option Value)} {oc9 kV9 dc9 pm9 cd9 ct9 : Value}
    {f10 : Addr} {od10 an10 : Option Addr} {sl10 : Array (Option Value)} {oc10 kV10 dc10 pm10 cd10 ct10 : Value}
    {f11 : Addr} {od11 an11 : Option Addr} {sl11 : Array (Option Value)} {oc11 kV11 dc11 pm11 cd11 ct11 : Value}
    {f12 : Addr} {od12 an12 : Option Addr} {sl12 : Array (Option Value)} {oc12 kV12 dc12 pm12 cd12 ct12 : Value}
    {f13 : Addr} {od13 an13 : Option Addr} {sl13 : Array (Option Value)} {oc13 kV13 dc13 pm13 cd13 ct13 : Value}
    {f14 : Addr} {od14 an14 : Option Addr} {sl14 : Array (Option Value)} {oc14 kV14 dc14 pm14 cd14 ct14 : Value}
    {f15 : Addr} {od15 an15 : Option Addr} {sl15 : Array (Option Value)} {oc15 kV15 dc15 pm15 cd15 ct15 : Value}
    {f16 : Addr} {od16 an16 : Option Addr} {sl16 : Array (Option Value)} {oc16 kV16 dc16 pm16 cd16 ct16 : Value}
    {f17 : Addr} {od17 an17 : Option Addr} {sl17 : Array (Option Value)} {oc17 kV17 dc17 pm17 cd17 ct17 : Value}
    {f18 : Addr} {od18 an18 : Option Addr} {sl18 : Array (Option Value)} {oc18 kV18 dc18 pm18 cd18 ct18 : Value}
    {f19 : Addr} {od19 an19 : Option Addr} {sl19 : Array (Option Value)} {oc19 kV19 dc19 pm19 cd19 ct19 : Value}
    {tt_DIGITS : Tok}
    {tt_MOST_DIGITS : Tok}
    {tt_MOST_PAGE : Tok}
    {tt_NEXT : Tok}
    (xn : PySem.W.specialIn K (.builtin "object.__class__") "__get__" = some (some (.builtin "getset_descriptor.__get__"))) (xt : PySem.W.takesIn K (.builtin "object.__class__") = some true)
    (ax0 : PySem.W.nsIn K mainGlobals "BreadcrumbsError" = some (some (.ref X0)))
    (kx0 : PySem.W.keepIn K (.ref X0) = true)
    (xx0 : PySem.W.excIn K X0 [.type "ValueError", .type "Exception", .type "BaseException", .type "object"] "ValueError.__new__" = true)
    (gx0 : PySem.W.findIn K (.ref X0) "__getattribute__" = some (some (.builtin "BaseException.__getattribute__")))
    (hx0 : PySem.W.findIn K (.ref X0) "__getattr__" = some none)
    (bx0 : PySem.W.subIn K (.ref X0) (.type "BaseException") = some true)
    (dx0 : PySem.W.hasDictIn K X0 = true)
    (cx0 : PySem.W.findIn K (.ref X0) "__class__" = some (some (.builtin "object.__class__")))
    (mx0 : PySem.W.mroIn K X0 (.type "object") = some true)
    (tx0 : PySem.W.typeIn K (.ref X0) = some (.type "type"))
    (lx0 : PySem.W.clsIn K X0 = some cdX0)
    (rx0 : cdX0.mro = [X0].map Value.ref ++ HandSPX.veTail)
    (ax1 : PySem.W.nsIn K mainGlobals "EmptyHistoryError" = some (some (.ref X1)))
    (kx1 : PySem.W.keepIn K (.ref X1) = true)
    (xx1 : PySem.W.excIn K X1 [.type "ValueError", .type "Exception", .type "BaseException", .type "object"] "ValueError.__new__" = true)
    (gx1 : PySem.W.findIn K (.ref X1) "__getattribute__" = some (some (.builtin "BaseException.__getattribute__")))
    (hx1 : PySem.W.findIn K (.ref X1) "__getattr__" = some none)
    (bx1 : PySem.W.subIn K (.ref X1) (.type "BaseException") = some true)
    (dx1 : PySem.W.hasDictIn K X1 = true)
    (cx1 : PySem.W.findIn K (.ref X1) "__class__" = some (some (.builtin "object.__class__")))
    (mx1 : PySem.W.mroIn K X1 (.type "object") = some true)
    (tx1 : PySem.W.typeIn K (.ref X1) = some (.type "type"))
    (lx1 : PySem.W.clsIn K X1 = some cdX1)
    (rx1 : cdX1.mro = [X1, X0].map Value.ref ++ HandSPX.veTail)
    (ax2 : PySem.W.nsIn K mainGlobals "InvalidEffectError" = some (some (.ref X2)))
    (kx2 : PySem.W.keepIn K (.ref X2) = true)
    (xx2 : PySem.W.excIn K X2 [.type "ValueError", .type "Exception", .type "BaseException", .type "object"] "ValueError.__new__" = true)
    (gx2 : PySem.W.findIn K (.ref X2) "__getattribute__" = some (some (.builtin "BaseException.__getattribute__")))
    (hx2 : PySem.W.findIn K (.ref X2) "__getattr__" = some none)
    (bx2 : PySem.W.subIn K (.ref X2) (.type "BaseException") = some true)
    (dx2 : PySem.W.hasDictIn K X2 = true)
    (cx2 : PySem.W.findIn K (.ref X2) "__class__" = some (some (.builtin "object.__class__")))
    (mx2 : PySem.W.mroIn K X2 (.type "object") = some true)
    (tx2 : PySem.W.typeIn K (.ref X2) = some (.type "type"))
    (lx2 : PySem.W.clsIn K X2 = some cdX2)
    (rx2 : cdX2.mro = [X2, X0].map Value.ref ++ HandSPX.veTail)
    (ax3 : PySem.W.nsIn K mainGlobals "InvalidFormatError" = some (some (.ref X3)))
    (kx3 : PySem.W.keepIn K (.ref X3) = true)
    (xx3 : PySem.W.excIn K X3 [.type "ValueError", .type "Exception", .type "BaseException", .type "object"] "ValueError.__new__" = true)
    (gx3 : PySem.W.findIn K (.ref X3) "__getattribute__" = some (some (.builtin "BaseException.__getattribute__")))
    (hx3 : PySem.W.findIn K (.ref X3) "__getattr__" = some none)
    (bx3 : PySem.W.subIn K (.ref X3) (.type "BaseException") = some true)
    (dx3 : PySem.W.hasDictIn K X3 = true)
    (cx3 : PySem.W.findIn K (.ref X3) "__class__" = some (some (.builtin "object.__class__")))
    (mx3 : PySem.W.mroIn K X3 (.type "object") = some true)
    (tx3 : PySem.W.typeIn K (.ref X3) = some (.type "type"))
    (lx3 : PySem.W.clsIn K X3 = some cdX3)
    (rx3 : cdX3.mro = [X3, X0].map Value.ref ++ HandSPX.veTail)
    (ax4 : PySem.W.nsIn K mainGlobals "InvalidLengthsError" = some (some (.ref X4)))
    (kx4 : PySem.W.keepIn K (.ref X4) = true)
    (xx4 : PySem.W.excIn K X4 [.type "ValueError", .type "Exception", .type "BaseException", .type "object"] "ValueError.__new__" = true)
    (gx4 : PySem.W.findIn K (.ref X4) "__getattribute__" = some (some (.builtin "BaseException.__getattribute__")))
    (hx4 : PySem.W.findIn K (.ref X4) "__getattr__" = some none)
    (bx4 : PySem.W.subIn K (.ref X4) (.type "BaseException") = some true)
    (dx4 : PySem.W.hasDictIn K X4 = true)
    (cx4 : PySem.W.findIn K (.ref X4) "__class__" = some (some (.builtin "object.__class__")))
    (mx4 : PySem.W.mroIn K X4 (.type "object") = some true)
    (tx4 : PySem.W.typeIn K (.ref X4) = some (.type "type"))
    (lx4 : PySem.W.clsIn K X4 = some cdX4)
    (rx4 : cdX4.mro = [X4, X0].map Value.ref ++ HandSPX.veTail)
    (ax5 : PySem.W.nsIn K mainGlobals "InvalidNumberError" = some (some (.ref X5)))
    (kx5 : PySem.W.keepIn K (.ref X5) = true)
    (xx5 : PySem.W.excIn K X5 [.type "ValueError", .type "Exception", .type "BaseException", .type "object"] "ValueError.__new__" = true)
    (gx5 : PySem.W.findIn K (.ref X5) "__getattribute__" = some (some (.builtin "BaseException.__getattribute__")))
    (hx5 : PySem.W.findIn K (.ref X5) "__getattr__" = some none)
    (bx5 : PySem.W.subIn K (.ref X5) (.type "BaseException") = some true)
    (dx5 : PySem.W.hasDictIn K X5 = true)
    (cx5 : PySem.W.findIn K (.ref X5) "__class__" = some (some (.builtin "object.__class__")))
    (mx5 : PySem.W.mroIn K X5 (.type "object") = some true)
    (tx5 : PySem.W.typeIn K (.ref X5) = some (.type "type"))
    (lx5 : PySem.W.clsIn K X5 = some cdX5)
    (rx5 : cdX5.mro = [X5, X0].map Value.ref ++ HandSPX.veTail)
    (ax6 : PySem.W.nsIn K mainGlobals "InvalidPageError" = some (some (.ref X6)))
    (kx6 : PySem.W.keepIn K (.ref X6) = true)
    (xx6 : PySem.W.excIn K X6 [.type "ValueError", .type "Exception", .type "BaseException", .type "object"] "ValueError.__new__" = true)
    (gx6 : PySem.W.findIn K (.ref X6) "__getattribute__" = some (some (.builtin "BaseException.__getattribute__")))
    (hx6 : PySem.W.findIn K (.ref X6) "__getattr__" = some none)
    (bx6 : PySem.W.subIn K (.ref X6) (.type "BaseException") = some true)
    (dx6 : PySem.W.hasDictIn K X6 = true)
    (cx6 : PySem.W.findIn K (.ref X6) "__class__" = some (some (.builtin "object.__class__")))
    (mx6 : PySem.W.mroIn K X6 (.type "object") = some true)
    (tx6 : PySem.W.typeIn K (.ref X6) = some (.type "type"))
    (lx6 : PySem.W.clsIn K X6 = some cdX6)
    (rx6 : cdX6.mro = [X6, X0].map Value.ref ++ HandSPX.veTail)
    (ax7 : PySem.W.nsIn K mainGlobals "InvalidPagesError" = some (some (.ref X7)))
    (kx7 : PySem.W.keepIn K (.ref X7) = true)
    (xx7 : PySem.W.excIn K X7 [.type "ValueError", .type "Exception", .type "BaseException", .type "object"] "ValueError.__new__" = true)
    (gx7 : PySem.W.findIn K (.ref X7) "__getattribute__" = some (some (.builtin "BaseException.__getattribute__")))
    (hx7 : PySem.W.findIn K (.ref X7) "__getattr__" = some none)
    (bx7 : PySem.W.subIn K (.ref X7) (.type "BaseException") = some true)
    (dx7 : PySem.W.hasDictIn K X7 = true)
    (cx7 : PySem.W.findIn K (.ref X7) "__class__" = some (some (.builtin "object.__class__")))
    (mx7 : PySem.W.mroIn K X7 (.type "object") = some true)
    (tx7 : PySem.W.typeIn K (.ref X7) = some (.type "type"))
    (lx7 : PySem.W.clsIn K X7 = some cdX7)
    (rx7 : cdX7.mro = [X7, X0].map Value.ref ++ HandSPX.veTail)
    (ax8 : PySem.W.nsIn K mainGlobals "InvalidSiteError" = some (some (.ref X8)))
    (kx8 : PySem.W.keepIn K (.ref X8) = true)
    (xx8 : PySem.W.excIn K X8 [.type "ValueError", .type "Exception", .type "BaseException", .type "object"] "ValueError.__new__" = true)
    (gx8 : PySem.W.findIn K (.ref X8) "__getattribute__" = some (some (.builtin "BaseException.__getattribute__")))
    (hx8 : PySem.W.findIn K (.ref X8) "__getattr__" = some none)
    (bx8 : PySem.W.subIn K (.ref X8) (.type "BaseException") = some true)
    (dx8 : PySem.W.hasDictIn K X8 = true)
    (cx8 : PySem.W.findIn K (.ref X8) "__class__" = some (some (.builtin "object.__class__")))
    (mx8 : PySem.W.mroIn K X8 (.type "object") = some true)
    (tx8 : PySem.W.typeIn K (.ref X8) = some (.type "type"))
    (lx8 : PySem.W.clsIn K X8 = some cdX8)
    (rx8 : cdX8.mro = [X8, X0].map Value.ref ++ HandSPX.veTail)
    (ax9 : PySem.W.nsIn K mainGlobals "InvalidTrailError" = some (some (.ref X9)))
    (kx9 : PySem.W.keepIn K (.ref X9) = true)
    (xx9 : PySem.W.excIn K X9 [.type "ValueError", .type "Exception", .type "BaseException", .type "object"] "ValueError.__new__" = true)
    (gx9 : PySem.W.findIn K (.ref X9) "__getattribute__" = some (some (.builtin "BaseException.__getattribute__")))
    (hx9 : PySem.W.findIn K (.ref X9) "__getattr__" = some none)
    (bx9 : PySem.W.subIn K (.ref X9) (.type "BaseException") = some true)
    (dx9 : PySem.W.hasDictIn K X9 = true)
    (cx9 : PySem.W.findIn K (.ref X9) "__class__" = some (some (.builtin "object.__class__")))
    (mx9 : PySem.W.mroIn K X9 (.type "object") = some true)
    (tx9 : PySem.W.typeIn K (.ref X9) = some (.type "type"))
    (lx9 : PySem.W.clsIn K X9 = some cdX9)
    (rx9 : cdX9.mro = [X9, X0].map Value.ref ++ HandSPX.veTail)
    (ax10 : PySem.W.nsIn K mainGlobals "InvalidVisitsError" = some (some (.ref X10)))
    (kx10 : PySem.W.keepIn K (.ref X10) = true)
    (xx10 : PySem.W.excIn K X10 [.type "ValueError", .type "Exception", .type "BaseException", .type "object"] "ValueError.__new__" = true)
    (gx10 : PySem.W.findIn K (.ref X10) "__getattribute__" = some (some (.builtin "BaseException.__getattribute__")))
    (hx10 : PySem.W.findIn K (.ref X10) "__getattr__" = some none)
    (bx10 : PySem.W.subIn K (.ref X10) (.type "BaseException") = some true)
    (dx10 : PySem.W.hasDictIn K X10 = true)
    (cx10 : PySem.W.findIn K (.ref X10) "__class__" = some (some (.builtin "object.__class__")))
    (mx10 : PySem.W.mroIn K X10 (.type "object") = some true)
    (tx10 : PySem.W.typeIn K (.ref X10) = some (.type "type"))
    (lx10 : PySem.W.clsIn K X10 = some cdX10)
    (rx10 : cdX10.mro = [X10, X0].map Value.ref ++ HandSPX.veTail)
    (ndx : [X0, X1, X2, X3, X4, X5, X6, X7, X8, X9, X10].Nodup)
    (a0 : PySem.W.nsIn K mainGlobals "is_integer" = some (some (.ref f0))) (l0 : K.lookup f0 = some ⟨oc0, od0, .func (PySem.W.fnOf "is_integer" "is_integer" (defArgs s_is_integer) (defBody s_is_integer) (defScope s_is_integer) .none kV0 dc0 pm0 an0 cd0 ct0), sl0⟩) (c0 : PySem.W.codeIn K cd0 "is_integer" = true) (k0 : PySem.W.keepIn K (.ref f0) = true)
    (a1 : PySem.W.nsIn K mainGlobals "is_page" = some (some (.ref f1))) (l1 : K.lookup f1 = some ⟨oc1, od1, .func (PySem.W.fnOf "is_page" "is_page" (defArgs s_is_page) (defBody s_is_page) (defScope s_is_page) .none kV1 dc1 pm1 an1 cd1 ct1), sl1⟩) (c1 : PySem.W.codeIn K cd1 "is_page" = true) (k1 : PySem.W.keepIn K (.ref f1) = true)
    (a2 : PySem.W.nsIn K mainGlobals "is_trail" = some (some (.ref f2))) (l2 : K.lookup f2 = some ⟨oc2, od2, .func (PySem.W.fnOf "is_trail" "is_trail" (defArgs s_is_trail) (defBody s_is_trail) (defScope s_is_trail) .none kV2 dc2 pm2 an2 cd2 ct2), sl2⟩) (c2 : PySem.W.codeIn K cd2 "is_trail" = true) (k2 : PySem.W.keepIn K (.ref f2) = true)
    (a3 : PySem.W.nsIn K mainGlobals "check_trail" = some (some (.ref f3))) (l3 : K.lookup f3 = some ⟨oc3, od3, .func (PySem.W.fnOf "check_trail" "check_trail" (defArgs s_check_trail) (defBody s_check_trail) (defScope s_check_trail) .none kV3 dc3 pm3 an3 cd3 ct3), sl3⟩) (c3 : PySem.W.codeIn K cd3 "check_trail" = true) (k3 : PySem.W.keepIn K (.ref f3) = true)
    (a4 : PySem.W.nsIn K mainGlobals "number_in" = some (some (.ref f4))) (l4 : K.lookup f4 = some ⟨oc4, od4, .func (PySem.W.fnOf "number_in" "number_in" (defArgs s_number_in) (defBody s_number_in) (defScope s_number_in) .none kV4 dc4 pm4 an4 cd4 ct4), sl4⟩) (c4 : PySem.W.codeIn K cd4 "number_in" = true) (k4 : PySem.W.keepIn K (.ref f4) = true)
    (a5 : PySem.W.nsIn K mainGlobals "check_string" = some (some (.ref f5))) (l5 : K.lookup f5 = some ⟨oc5, od5, .func (PySem.W.fnOf "check_string" "check_string" (defArgs s_check_string) (defBody s_check_string) (defScope s_check_string) .none kV5 dc5 pm5 an5 cd5 ct5), sl5⟩) (c5 : PySem.W.codeIn K cd5 "check_string" = true) (k5 : PySem.W.keepIn K (.ref f5) = true)
    (a6 : PySem.W.nsIn K mainGlobals "trail_string" = some (some (.ref f6))) (l6 : K.lookup f6 = some ⟨oc6, od6, .func (PySem.W.fnOf "trail_string" "trail_string" (defArgs s_trail_string) (defBody s_trail_string) (defScope s_trail_string) .none kV6 dc6 pm6 an6 cd6 ct6), sl6⟩) (c6 : PySem.W.codeIn K cd6 "trail_string" = true) (k6 : PySem.W.keepIn K (.ref f6) = true)
    (a7 : PySem.W.nsIn K mainGlobals "format_trail" = some (some (.ref f7))) (l7 : K.lookup f7 = some ⟨oc7, od7, .func (PySem.W.fnOf "format_trail" "format_trail" (defArgs s_format_trail) (defBody s_format_trail) (defScope s_format_trail) .none kV7 dc7 pm7 an7 cd7 ct7), sl7⟩) (c7 : PySem.W.codeIn K cd7 "format_trail" = true) (k7 : PySem.W.keepIn K (.ref f7) = true)
    (a8 : PySem.W.nsIn K mainGlobals "parse_trail" = some (some (.ref f8))) (l8 : K.lookup f8 = some ⟨oc8, od8, .func (PySem.W.fnOf "parse_trail" "parse_trail" (defArgs s_parse_trail) (defBody s_parse_trail) (defScope s_parse_trail) .none kV8 dc8 pm8 an8 cd8 ct8), sl8⟩) (c8 : PySem.W.codeIn K cd8 "parse_trail" = true) (k8 : PySem.W.keepIn K (.ref f8) = true)
    (a9 : PySem.W.nsIn K mainGlobals "_law_source" = some (some (.ref f9))) (l9 : K.lookup f9 = some ⟨oc9, od9, .func (PySem.W.fnOf "_law_source" "_law_source" (defArgs s_law_source) (defBody s_law_source) (defScope s_law_source) .none kV9 dc9 pm9 an9 cd9 ct9), sl9⟩) (c9 : PySem.W.codeIn K cd9 "_law_source" = true) (k9 : PySem.W.keepIn K (.ref f9) = true)
    (a10 : PySem.W.nsIn K mainGlobals "_law_draw" = some (some (.ref f10))) (l10 : K.lookup f10 = some ⟨oc10, od10, .func (PySem.W.fnOf "_law_draw" "_law_draw" (defArgs s_law_draw) (defBody s_law_draw) (defScope s_law_draw) .none kV10 dc10 pm10 an10 cd10 ct10), sl10⟩) (c10 : PySem.W.codeIn K cd10 "_law_draw" = true) (k10 : PySem.W.keepIn K (.ref f10) = true)
    (a11 : PySem.W.nsIn K mainGlobals "_law_visits" = some (some (.ref f11))) (l11 : K.lookup f11 = some ⟨oc11, od11, .func (PySem.W.fnOf "_law_visits" "_law_visits" (defArgs s_law_visits) (defBody s_law_visits) (defScope s_law_visits) .none kV11 dc11 pm11 an11 cd11 ct11), sl11⟩) (c11 : PySem.W.codeIn K cd11 "_law_visits" = true) (k11 : PySem.W.keepIn K (.ref f11) = true)
    (a12 : PySem.W.nsIn K mainGlobals "_law_trail" = some (some (.ref f12))) (l12 : K.lookup f12 = some ⟨oc12, od12, .func (PySem.W.fnOf "_law_trail" "_law_trail" (defArgs s_law_trail) (defBody s_law_trail) (defScope s_law_trail) .none kV12 dc12 pm12 an12 cd12 ct12), sl12⟩) (c12 : PySem.W.codeIn K cd12 "_law_trail" = true) (k12 : PySem.W.keepIn K (.ref f12) = true)
    (a13 : PySem.W.nsIn K mainGlobals "_law_damaged" = some (some (.ref f13))) (l13 : K.lookup f13 = some ⟨oc13, od13, .func (PySem.W.fnOf "_law_damaged" "_law_damaged" (defArgs s_law_damaged) (defBody s_law_damaged) (defScope s_law_damaged) .none kV13 dc13 pm13 an13 cd13 ct13), sl13⟩) (c13 : PySem.W.codeIn K cd13 "_law_damaged" = true) (k13 : PySem.W.keepIn K (.ref f13) = true)
    (a14 : PySem.W.nsIn K mainGlobals "_law_equal" = some (some (.ref f14))) (l14 : K.lookup f14 = some ⟨oc14, od14, .func (PySem.W.fnOf "_law_equal" "_law_equal" (defArgs s_law_equal) (defBody s_law_equal) (defScope s_law_equal) .none kV14 dc14 pm14 an14 cd14 ct14), sl14⟩) (c14 : PySem.W.codeIn K cd14 "_law_equal" = true) (k14 : PySem.W.keepIn K (.ref f14) = true)
    (a15 : PySem.W.nsIn K mainGlobals "_law_name_of" = some (some (.ref f15))) (l15 : K.lookup f15 = some ⟨oc15, od15, .func (PySem.W.fnOf "_law_name_of" "_law_name_of" (defArgs s_law_name_of) (defBody s_law_name_of) (defScope s_law_name_of) .none kV15 dc15 pm15 an15 cd15 ct15), sl15⟩) (c15 : PySem.W.codeIn K cd15 "_law_name_of" = true) (k15 : PySem.W.keepIn K (.ref f15) = true)
    (a16 : PySem.W.nsIn K mainGlobals "_law_parsed" = some (some (.ref f16))) (l16 : K.lookup f16 = some ⟨oc16, od16, .func (PySem.W.fnOf "_law_parsed" "_law_parsed" (defArgs s_law_parsed) (defBody s_law_parsed) (defScope s_law_parsed) .none kV16 dc16 pm16 an16 cd16 ct16), sl16⟩) (c16 : PySem.W.codeIn K cd16 "_law_parsed" = true) (k16 : PySem.W.keepIn K (.ref f16) = true)
    (a17 : PySem.W.nsIn K mainGlobals "_law_outcome" = some (some (.ref f17))) (l17 : K.lookup f17 = some ⟨oc17, od17, .func (PySem.W.fnOf "_law_outcome" "_law_outcome" (defArgs s_law_outcome) (defBody s_law_outcome) (defScope s_law_outcome) .none kV17 dc17 pm17 an17 cd17 ct17), sl17⟩) (c17 : PySem.W.codeIn K cd17 "_law_outcome" = true) (k17 : PySem.W.keepIn K (.ref f17) = true)
    (a18 : PySem.W.nsIn K mainGlobals "_law_holds" = some (some (.ref f18))) (l18 : K.lookup f18 = some ⟨oc18, od18, .func (PySem.W.fnOf "_law_holds" "_law_holds" (defArgs s_law_holds) (defBody s_law_holds) (defScope s_law_holds) .none kV18 dc18 pm18 an18 cd18 ct18), sl18⟩) (c18 : PySem.W.codeIn K cd18 "_law_holds" = true) (k18 : PySem.W.keepIn K (.ref f18) = true)
    (a19 : PySem.W.nsIn K mainGlobals "law" = some (some (.ref f19))) (l19 : K.lookup f19 = some ⟨oc19, od19, .func (PySem.W.fnOf "law" "law" (defArgs s_law) (defBody s_law) (defScope s_law) .none kV19 dc19 pm19 an19 cd19 ct19), sl19⟩) (c19 : PySem.W.codeIn K cd19 "law" = true) (k19 : PySem.W.keepIn K (.ref f19) = true)
    (q_DIGITS : PySem.W.nsIn K mainGlobals "DIGITS" = some (some (.str "0123456789" tt_DIGITS)))
    (q_MOST_DIGITS : PySem.W.nsIn K mainGlobals "MOST_DIGITS" = some (some (.int 2 tt_MOST_DIGITS)))
    (q_MOST_PAGE : PySem.W.nsIn K mainGlobals "MOST_PAGE" = some (some (.int 39 tt_MOST_PAGE)))
    (q_NEXT : PySem.W.nsIn K mainGlobals "NEXT" = some (some (.str " > " tt_NEXT)))
    (z_ValueError : PySem.W.nsIn K mainGlobals "ValueError" = some none)
    (z_all : PySem.W.nsIn K mainGlobals "all" = some none)
    (z_bool : PySem.W.nsIn K mainGlobals "bool" = some none)
    (z_enumerate : PySem.W.nsIn K mainGlobals "enumerate" = some none)
    (z_int : PySem.W.nsIn K mainGlobals "int" = some none)
    (z_isinstance : PySem.W.nsIn K mainGlobals "isinstance" = some none)
    (z_len : PySem.W.nsIn K mainGlobals "len" = some none)
    (z_list : PySem.W.nsIn K mainGlobals "list" = some none)
    (z_max : PySem.W.nsIn K mainGlobals "max" = some none)
    (z_min : PySem.W.nsIn K mainGlobals "min" = some none)
    (z_range : PySem.W.nsIn K mainGlobals "range" = some none)
    (z_repr : PySem.W.nsIn K mainGlobals "repr" = some none)
    (z_set : PySem.W.nsIn K mainGlobals "set" = some none)
    (z_str : PySem.W.nsIn K mainGlobals "str" = some none)
    (z_tuple : PySem.W.nsIn K mainGlobals "tuple" = some none)
    (z_zip : PySem.W.nsIn K mainGlobals "zip" = some none) :
    ∃ fd : FuncData, (∀ (s : Shared) (v : Value), BindsTo s fd ⟨[v], []⟩ [("_law_script", v)]) ∧ ∀ base : Heap, K.In base → base.Ns mainGlobals mg → FnG l.prog w K mg base CX0 7 fa fd ["_law_script"] (spLaw K) := by
  have e := hfa.symm.trans (PySem.W.mg_of X G a19)
  cases e
  let T : Txt K mg := ⟨X0, PySem.W.mg_of X G ax0, kx0, xx0, ⟨gx0, hx0, bx0, dx0, cx0, xn, xt, mx0⟩, tx0, bx0, ⟨cdX0, lx0, rx0⟩,
    X1, PySem.W.mg_of X G ax1, kx1, xx1, ⟨gx1, hx1, bx1, dx1, cx1, xn, xt, mx1⟩, tx1, bx1, ⟨cdX1, lx1, rx1⟩,
    X2, PySem.W.mg_of X G ax2, kx2, xx2, ⟨gx2, hx2, bx2, dx2, cx2, xn, xt, mx2⟩, tx2, bx2, ⟨cdX2, lx2, rx2⟩,
    X3, PySem.W.mg_of X G ax3, kx3, xx3, ⟨gx3, hx3, bx3, dx3, cx3, xn, xt, mx3⟩, tx3, bx3, ⟨cdX3, lx3, rx3⟩,
    X4, PySem.W.mg_of X G ax4, kx4, xx4, ⟨gx4, hx4, bx4, dx4, cx4, xn, xt, mx4⟩, tx4, bx4, ⟨cdX4, lx4, rx4⟩,
    X5, PySem.W.mg_of X G ax5, kx5, xx5, ⟨gx5, hx5, bx5, dx5, cx5, xn, xt, mx5⟩, tx5, bx5, ⟨cdX5, lx5, rx5⟩,
    X6, PySem.W.mg_of X G ax6, kx6, xx6, ⟨gx6, hx6, bx6, dx6, cx6, xn, xt, mx6⟩, tx6, bx6, ⟨cdX6, lx6, rx6⟩,
    X7, PySem.W.mg_of X G ax7, kx7, xx7, ⟨gx7, hx7, bx7, dx7, cx7, xn, xt, mx7⟩, tx7, bx7, ⟨cdX7, lx7, rx7⟩,
    X8, PySem.W.mg_of X G ax8, kx8, xx8, ⟨gx8, hx8, bx8, dx8, cx8, xn, xt, mx8⟩, tx8, bx8, ⟨cdX8, lx8, rx8⟩,
    X9, PySem.W.mg_of X G ax9, kx9, xx9, ⟨gx9, hx9, bx9, dx9, cx9, xn, xt, mx9⟩, tx9, bx9, ⟨cdX9, lx9, rx9⟩,
    X10, PySem.W.mg_of X G ax10, kx10, xx10, ⟨gx10, hx10, bx10, dx10, cx10, xn, xt, mx10⟩, tx10, bx10, ⟨cdX10, lx10, rx10⟩,
    ndx,
    f0, _, fun_mk (st := s_is_integer) l0 c0 k0, PySem.W.mg_of X G a0, (fun_mk (st := s_is_integer) l0 c0 k0).binds fun _ _ _ _ _ _ us hl => match us, hl with | [_, _, _], _ => rfl,
    f1, _, fun_mk (st := s_is_page) l1 c1 k1, PySem.W.mg_of X G a1, (fun_mk (st := s_is_page) l1 c1 k1).binds fun _ _ _ _ _ _ us hl => match us, hl with | [_], _ => rfl,
    f2, _, fun_mk (st := s_is_trail) l2 c2 k2, PySem.W.mg_of X G a2, (fun_mk (st := s_is_trail) l2 c2 k2).binds fun _ _ _ _ _ _ us hl => match us, hl with | [_], _ => rfl,
    f3, _, fun_mk (st := s_check_trail) l3 c3 k3, PySem.W.mg_of X G a3, (fun_mk (st := s_check_trail) l3 c3 k3).binds fun _ _ _ _ _ _ us hl => match us, hl with | [_], _ => rfl,
    f4, _, fun_mk (st := s_number_in) l4 c4 k4, PySem.W.mg_of X G a4, (fun_mk (st := s_number_in) l4 c4 k4).binds fun _ _ _ _ _ _ us hl => match us, hl with | [_], _ => rfl,
    f5, _, fun_mk (st := s_check_string) l5 c5 k5, PySem.W.mg_of X G a5, (fun_mk (st := s_check_string) l5 c5 k5).binds fun _ _ _ _ _ _ us hl => match us, hl with | [_], _ => rfl,
    f6, _, fun_mk (st := s_trail_string) l6 c6 k6, PySem.W.mg_of X G a6, (fun_mk (st := s_trail_string) l6 c6 k6).binds fun _ _ _ _ _ _ us hl => match us, hl with | [_], _ => rfl,
    f7, _, fun_mk (st := s_format_trail) l7 c7 k7, PySem.W.mg_of X G a7, (fun_mk (st := s_format_trail) l7 c7 k7).binds fun _ _ _ _ _ _ us hl => match us, hl with | [_], _ => rfl,
    f8, _, fun_mk (st := s_parse_trail) l8 c8 k8, PySem.W.mg_of X G a8, (fun_mk (st := s_parse_trail) l8 c8 k8).binds fun _ _ _ _ _ _ us hl => match us, hl with | [_], _ => rfl,
    f9, _, fun_mk (st := s_law_source) l9 c9 k9, PySem.W.mg_of X G a9, (fun_mk (st := s_law_source) l9 c9 k9).binds fun _ _ _ _ _ _ us hl => match us, hl with | [_, _], _ => rfl,
    f10, _, fun_mk (st := s_law_draw) l10 c10 k10, PySem.W.mg_of X G a10, (fun_mk (st := s_law_draw) l10 c10 k10).binds fun _ _ _ _ _ _ us hl => match us, hl with | [_, _], _ => rfl,
    f11, _, fun_mk (st := s_law_visits) l11 c11 k11, PySem.W.mg_of X G a11, (fun_mk (st := s_law_visits) l11 c11 k11).binds fun _ _ _ _ _ _ us hl => match us, hl with | [_, _], _ => rfl,
    f12, _, fun_mk (st := s_law_trail) l12 c12 k12, PySem.W.mg_of X G a12, (fun_mk (st := s_law_trail) l12 c12 k12).binds fun _ _ _ _ _ _ us hl => match us, hl with | [_], _ => rfl,
    f13, _, fun_mk (st := s_law_damaged) l13 c13 k13, PySem.W.mg_of X G a13, (fun_mk (st := s_law_damaged) l13 c13 k13).binds fun _ _ _ _ _ _ us hl => match us, hl with | [_, _, _, _], _ => rfl,
    f14, _, fun_mk (st := s_law_equal) l14 c14 k14, PySem.W.mg_of X G a14, (fun_mk (st := s_law_equal) l14 c14 k14).binds fun _ _ _ _ _ _ us hl => match us, hl with | [_, _], _ => rfl,
    f15, _, fun_mk (st := s_law_name_of) l15 c15 k15, PySem.W.mg_of X G a15, (fun_mk (st := s_law_name_of) l15 c15 k15).binds fun _ _ _ _ _ _ us hl => match us, hl with | [_], _ => rfl,
    f16, _, fun_mk (st := s_law_parsed) l16 c16 k16, PySem.W.mg_of X G a16, (fun_mk (st := s_law_parsed) l16 c16 k16).binds fun _ _ _ _ _ _ us hl => match us, hl with | [_], _ => rfl,
    f17, _, fun_mk (st := s_law_outcome) l17 c17 k17, PySem.W.mg_of X G a17, (fun_mk (st := s_law_outcome) l17 c17 k17).binds fun _ _ _ _ _ _ us hl => match us, hl with | [_], _ => rfl,
    f18, _, fun_mk (st := s_law_holds) l18 c18 k18, PySem.W.mg_of X G a18, (fun_mk (st := s_law_holds) l18 c18 k18).binds fun _ _ _ _ _ _ us hl => match us, hl with | [_, _], _ => rfl,
    fa, _, fun_mk (st := s_law) l19 c19 k19, PySem.W.mg_of X G a19, (fun_mk (st := s_law) l19 c19 k19).binds fun _ _ _ _ _ _ us hl => match us, hl with | [_], _ => rfl,
    tt_DIGITS, PySem.W.mg_of X G q_DIGITS,
    tt_MOST_DIGITS, PySem.W.mg_of X G q_MOST_DIGITS,
    tt_MOST_PAGE, PySem.W.mg_of X G q_MOST_PAGE,
    tt_NEXT, PySem.W.mg_of X G q_NEXT,
    PySem.W.mg_none_of X G z_ValueError,
    PySem.W.mg_none_of X G z_all,
    PySem.W.mg_none_of X G z_bool,
    PySem.W.mg_none_of X G z_enumerate,
    PySem.W.mg_none_of X G z_int,
    PySem.W.mg_none_of X G z_isinstance,
    PySem.W.mg_none_of X G z_len,
    PySem.W.mg_none_of X G z_list,
    PySem.W.mg_none_of X G z_max,
    PySem.W.mg_none_of X G z_min,
    PySem.W.mg_none_of X G z_range,
    PySem.W.mg_none_of X G z_repr,
    PySem.W.mg_none_of X G z_set,
    PySem.W.mg_none_of X G z_str,
    PySem.W.mg_none_of X G z_tuple,
    PySem.W.mg_none_of X G z_zip⟩
  exact ⟨T.fd_law, fun s v => .of_eq rfl, fun base _ _ => ok_law T⟩

end LW
open PySem PySem.W PyProof.Rows
set_option maxHeartbeats 0 in
theorem PySem.Challenge.cw_breadcrumbs_k09_strings_of_trails_holds : PySem.Challenge.rw_breadcrumbs_k09_strings_of_trails.Holds := by
  w_on; o_law; k_head; (case hw => w_witness2)
  k_fill
  refine BC.walk_G (l := PySem.Challenge.rw_breadcrumbs_k09_strings_of_trails) (n := 63) (k := 7) (x := "_law_script") (sp := fun w => LW.spLaw _) rfl (by decide) rfl ⟨rfl, by decide, by decide⟩ (fun w h Y => PySem.W.kIn_of Y) ?F (fun w H a ns hl hS => ⟨a, ns, rfl, hS, hl, fun _ => rfl⟩)
  case F =>
    intro w mg fa h KX G hmg
    refine' LW.all_mk KX G hmg ?xn ?xt ?ax0 ?kx0 ?xx0 ?gx0 ?hx0 ?bx0 ?dx0 ?cx0 ?mx0 ?tx0 ?lx0 ?rx0 ?ax1 ?kx1 ?xx1 ?gx1 ?hx1 ?bx1 ?dx1 ?cx1 ?mx1 ?tx1 ?lx1 ?rx1 ?ax2 ?kx2 ?xx2 ?gx2 ?hx2 ?bx2 ?dx2 ?cx2 ?mx2 ?tx2 ?lx2 ?rx2 ?ax3 ?kx3 ?xx3 ?gx3 ?hx3 ?bx3 ?dx3 ?cx3 ?mx3 ?tx3 ?lx3 ?rx3 ?ax4 ?kx4 ?xx4 ?gx4 ?hx4 ?bx4 ?dx4 ?cx4 ?mx4 ?tx4 ?lx4 ?rx4 ?ax5 ?kx5 ?xx5 ?gx5 ?hx5 ?bx5 ?dx5 ?cx5 ?mx5 ?tx5 ?lx5 ?rx5 ?ax6 ?kx6 ?xx6 ?gx6 ?hx6 ?bx6 ?dx6 ?cx6 ?mx6 ?tx6 ?lx6 ?rx6 ?ax7 ?kx7 ?xx7 ?gx7 ?hx7 ?bx7 ?dx7 ?cx7 ?mx7 ?tx7 ?lx7 ?rx7 ?ax8 ?kx8 ?xx8 ?gx8 ?hx8 ?bx8 ?dx8 ?cx8 ?mx8 ?tx8 ?lx8 ?rx8 ?ax9 ?kx9 ?xx9 ?gx9 ?hx9 ?bx9 ?dx9 ?cx9 ?mx9 ?tx9 ?lx9 ?rx9 ?ax10 ?kx10 ?xx10 ?gx10 ?hx10 ?bx10 ?dx10 ?cx10 ?mx10 ?tx10 ?lx10 ?rx10 ?ndx ?a0 ?l0 ?c0 ?k0 ?a1 ?l1 ?c1 ?k1 ?a2 ?l2 ?c2 ?k2 ?a3 ?l3 ?c3 ?k3 ?a4 ?l4 ?c4 ?k4 ?a5 ?l5 ?c5 ?k5 ?a6 ?l6 ?c6 ?k6 ?a7 ?l7 ?c7 ?k7 ?a8 ?l8 ?c8 ?k8 ?a9 ?l9 ?c9 ?k9 ?a10 ?l10 ?c10 ?k10 ?a11 ?l11 ?c11 ?k11 ?a12 ?l12 ?c12 ?k12 ?a13 ?l13 ?c13 ?k13 ?a14 ?l14 ?c14 ?k14 ?a15 ?l15 ?c15 ?k15 ?a16 ?l16 ?c16 ?k16 ?a17 ?l17 ?c17 ?k17 ?a18 ?l18 ?c18 ?k18 ?a19 ?l19 ?c19 ?k19 ?q_DIGITS ?q_MOST_DIGITS ?q_MOST_PAGE ?q_NEXT ?z_ValueError ?z_all ?z_bool ?z_enumerate ?z_int ?z_isinstance ?z_len ?z_list ?z_max ?z_min ?z_range ?z_repr ?z_set ?z_str ?z_tuple ?z_zip
    (case xn => k_is); (case xt => k_is); (case ax0 => k_is); (case kx0 => k_is); (case xx0 => k_exc); (case gx0 => k_is); (case hx0 => k_is); (case bx0 => k_is); (case dx0 => k_is); (case cx0 => k_is); (case mx0 => k_is); (case tx0 => k_is); (case lx0 => k_is); (case rx0 => rfl); (case ax1 => k_is); (case kx1 => k_is); (case xx1 => k_exc); (case gx1 => k_is); (case hx1 => k_is); (case bx1 => k_is); (case dx1 => k_is); (case cx1 => k_is); (case mx1 => k_is); (case tx1 => k_is); (case lx1 => k_is); (case rx1 => rfl); (case ax2 => k_is); (case kx2 => k_is); (case xx2 => k_exc); (case gx2 => k_is); (case hx2 => k_is); (case bx2 => k_is); (case dx2 => k_is); (case cx2 => k_is); (case mx2 => k_is); (case tx2 => k_is); (case lx2 => k_is); (case rx2 => rfl); (case ax3 => k_is); (case kx3 => k_is); (case xx3 => k_exc); (case gx3 => k_is); (case hx3 => k_is); (case bx3 => k_is); (case dx3 => k_is); (case cx3 => k_is); (case mx3 => k_is); (case tx3 => k_is); (case lx3 => k_is); (case rx3 => rfl); (case ax4 => k_is); (case kx4 => k_is); (case xx4 => k_exc); (case gx4 => k_is); (case hx4 => k_is); (case bx4 => k_is); (case dx4 => k_is); (case cx4 => k_is); (case mx4 => k_is); (case tx4 => k_is); (case lx4 => k_is); (case rx4 => rfl); (case ax5 => k_is); (case kx5 => k_is); (case xx5 => k_exc); (case gx5 => k_is); (case hx5 => k_is); (case bx5 => k_is); (case dx5 => k_is); (case cx5 => k_is); (case mx5 => k_is); (case tx5 => k_is); (case lx5 => k_is); (case rx5 => rfl); (case ax6 => k_is); (case kx6 => k_is); (case xx6 => k_exc); (case gx6 => k_is); (case hx6 => k_is); (case bx6 => k_is); (case dx6 => k_is); (case cx6 => k_is); (case mx6 => k_is); (case tx6 => k_is); (case lx6 => k_is); (case rx6 => rfl); (case ax7 => k_is); (case kx7 => k_is); (case xx7 => k_exc); (case gx7 => k_is); (case hx7 => k_is); (case bx7 => k_is); (case dx7 => k_is); (case cx7 => k_is); (case mx7 => k_is); (case tx7 => k_is); (case lx7 => k_is); (case rx7 => rfl); (case ax8 => k_is); (case kx8 => k_is); (case xx8 => k_exc); (case gx8 => k_is); (case hx8 => k_is); (case bx8 => k_is); (case dx8 => k_is); (case cx8 => k_is); (case mx8 => k_is); (case tx8 => k_is); (case lx8 => k_is); (case rx8 => rfl); (case ax9 => k_is); (case kx9 => k_is); (case xx9 => k_exc); (case gx9 => k_is); (case hx9 => k_is); (case bx9 => k_is); (case dx9 => k_is); (case cx9 => k_is); (case mx9 => k_is); (case tx9 => k_is); (case lx9 => k_is); (case rx9 => rfl); (case ax10 => k_is); (case kx10 => k_is); (case xx10 => k_exc); (case gx10 => k_is); (case hx10 => k_is); (case bx10 => k_is); (case dx10 => k_is); (case cx10 => k_is); (case mx10 => k_is); (case tx10 => k_is); (case lx10 => k_is); (case rx10 => rfl); (case ndx => decide); (case a0 => k_is); (case l0 => k_is); (case c0 => k_is); (case k0 => k_is); (case a1 => k_is); (case l1 => k_is); (case c1 => k_is); (case k1 => k_is); (case a2 => k_is); (case l2 => k_is); (case c2 => k_is); (case k2 => k_is); (case a3 => k_is); (case l3 => k_is); (case c3 => k_is); (case k3 => k_is); (case a4 => k_is); (case l4 => k_is); (case c4 => k_is); (case k4 => k_is); (case a5 => k_is); (case l5 => k_is); (case c5 => k_is); (case k5 => k_is); (case a6 => k_is); (case l6 => k_is); (case c6 => k_is); (case k6 => k_is); (case a7 => k_is); (case l7 => k_is); (case c7 => k_is); (case k7 => k_is); (case a8 => k_is); (case l8 => k_is); (case c8 => k_is); (case k8 => k_is); (case a9 => k_is); (case l9 => k_is); (case c9 => k_is); (case k9 => k_is); (case a10 => k_is); (case l10 => k_is); (case c10 => k_is); (case k10 => k_is); (case a11 => k_is); (case l11 => k_is); (case c11 => k_is); (case k11 => k_is); (case a12 => k_is); (case l12 => k_is); (case c12 => k_is); (case k12 => k_is); (case a13 => k_is); (case l13 => k_is); (case c13 => k_is); (case k13 => k_is); (case a14 => k_is); (case l14 => k_is); (case c14 => k_is); (case k14 => k_is); (case a15 => k_is); (case l15 => k_is); (case c15 => k_is); (case k15 => k_is); (case a16 => k_is); (case l16 => k_is); (case c16 => k_is); (case k16 => k_is); (case a17 => k_is); (case l17 => k_is); (case c17 => k_is); (case k17 => k_is); (case a18 => k_is); (case l18 => k_is); (case c18 => k_is); (case k18 => k_is); (case a19 => k_is); (case l19 => k_is); (case c19 => k_is); (case k19 => k_is); (case q_DIGITS => k_is); (case q_MOST_DIGITS => k_is); (case q_MOST_PAGE => k_is); (case q_NEXT => k_is); (case z_ValueError => k_is); (case z_all => k_is); (case z_bool => k_is); (case z_enumerate => k_is); (case z_int => k_is); (case z_isinstance => k_is); (case z_len => k_is); (case z_list => k_is); (case z_max => k_is); (case z_min => k_is); (case z_range => k_is); (case z_repr => k_is); (case z_set => k_is); (case z_str => k_is); (case z_tuple => k_is); (case z_zip => k_is)

